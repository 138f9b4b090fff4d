import PyProof.Rows.All
import Wide.All
import OpenK.AllK
import Wide.FinOn
import HandS.ForMost
import HandS.ForExc
import HandS.Walk
import HandS.Wide
import HandS.Flow
import HandS.Style
import HandS.StrMore
import HandS.IsInst
import HandS.TupAny
import HandS.Replace
import HandS.Text
import PyProof.ReprRoads
import HandS.RaiseMore
import HandS.SortInts
import KE.KTupSum
import KE.GoesMore
import KE.GoesNew
import HandS.Ends
import HandS.Codes
import PySem.Challenge.RW_mirrorpress_k02_whole_length_from_behind
set_option linter.all false
namespace Mp
/-- an equation that is to be used as one, not computed -/
theorem nr {α : Sort _} {a b : α} (h : a = b) : a = b := h

/-- values: tuples by value, lists and dicts by place -/
inductive U where
  | non | bl (b : Bool) | int (i : Int) | str (s : List Nat) | tup (xs : List U) | ref (i : Nat)
  deriving Inhabited

mutual
def U.beq : U → U → Bool
  | .non, .non => true
  | .bl a, .bl b => a == b
  | .int a, .int b => a == b
  | .str a, .str b => a == b
  | .tup a, .tup b => U.beqs a b
  | .ref a, .ref b => a == b
  | _, _ => false
def U.beqs : List U → List U → Bool
  | [], [] => true
  | a :: as, b :: bs => U.beq a b && U.beqs as bs
  | _, _ => false
end

/-- what stands at a place -/
inductive O where
  | lst (xs : List U)
  | frz (xs : List U)
  | dic (kvs : List (U × U))
  deriving Inhabited

abbrev Hm := List O
abbrev SZ : Nat := 16777216

structure Exn where
  cls : Nat
  fs : List (List Nat × U)
  deriving Inhabited

inductive R (α : Type) where
  | ok (a : α) (h : Hm)
  | exc (e : Exn) (h : Hm)
  | bad

namespace R
def bind {α β : Type} (x : R α) (f : α → Hm → R β) : R β := match x with
  | .ok a h => f a h
  | .exc e h => .exc e h
  | .bad => .bad
def isOk {α : Type} : R α → Bool
  | .ok _ _ => true
  | _ => false
@[simp] theorem bind_ok {α β : Type} (a : α) (h : Hm) (f : α → Hm → R β) : (R.ok a h).bind f = f a h := nr rfl
@[simp] theorem bind_exc {α β : Type} (e : Exn) (h : Hm) (f : α → Hm → R β) : (R.exc e h : R α).bind f = .exc e h := nr rfl
@[simp] theorem bind_bad {α β : Type} (f : α → Hm → R β) : (R.bad : R α).bind f = .bad := nr rfl
end R

/-- guard -/
def gd {α : Type} (b : Bool) (x : R α) : R α := if b = true then x else .bad
@[simp] theorem gd_true {α : Type} (x : R α) : gd true x = x := nr rfl
@[simp] theorem gd_false {α : Type} (x : R α) : gd false x = .bad := nr rfl

inductive Tn where
  | non | bool | int | str | tuple | list | dict
  deriving DecidableEq
inductive Prim where
  | add | sub | mul | fdiv | mod | pow | neg | notv
  | eq | ne | lt | le | gt | ge | inn | nin | isN | isNN | isT | isNT | isF | isNF
  | len | ix | cut (lo hi : Bool) | rev
  | tup | lst | dic
  | append | find | rfind | rfind4 | index | rindex | count | join | get1 | get2 | split | clear | pop | isdigit
  | toInt | toStr | repr | abs | min2 | max2 | min1 | max1 | sum1 | sorted | toTuple | toList | toDict | divmod | all1 | setOf
  | isi (t : Tn)
  deriving DecidableEq

/-- the items of a list or tuple -/
def items (h : Hm) : U → Option (List U)
  | .tup xs => some xs
  | .ref i => match h[i]? with
    | some (.lst xs) => some xs
    | some (.frz xs) => some xs
    | _ => none
  | _ => none

/-- a place from either end -/
def nix (n : Nat) (i : Int) : Option Nat := if 0 ≤ i then (if i < n then some i.toNat else none) else if -(n : Int) ≤ i then some (i + n).toNat else none
/-- the bound of a cut -/
def cix (n d : Nat) : Option Int → Nat
  | none => d
  | some i => if i < 0 then (i + n).toNat else min i.toNat n
def cutL {α : Type} (xs : List α) (lo hi : Option Int) : List α :=
  (xs.drop (cix xs.length 0 lo)).take (cix xs.length xs.length hi - cix xs.length 0 lo)

/-- data without places, for == and repr -/
inductive D where
  | non | bl (b : Bool) | int (i : Int) | str (s : List Nat) | lst (xs : List D) | tup (xs : List D)
  deriving Inhabited
mutual
def D.eqv : D → D → Bool
  | .non, .non => true
  | .bl a, .bl b => a == b
  | .bl a, .int j => (if a then 1 else 0) == j
  | .int i, .bl b => i == (if b then 1 else 0)
  | .int i, .int j => i == j
  | .str x, .str y => x == y
  | .lst xs, .lst ys => D.eqvs xs ys
  | .tup xs, .tup ys => D.eqvs xs ys
  | _, _ => false
def D.eqvs : List D → List D → Bool
  | [], [] => true
  | x :: xs, y :: ys => D.eqv x y && D.eqvs xs ys
  | _, _ => false
end
mutual
def toD (h : Hm) : Nat → U → Option D
  | 0, _ => none
  | _ + 1, .non => some .non
  | _ + 1, .bl b => some (.bl b)
  | _ + 1, .int i => some (.int i)
  | _ + 1, .str s => some (.str s)
  | n + 1, .tup xs => (toDs h n xs).map .tup
  | n + 1, .ref i => match h[i]? with
    | some (.lst xs) => (toDs h n xs).map .lst
    | some (.frz xs) => (toDs h n xs).map .lst
    | _ => none
def toDs (h : Hm) : Nat → List U → Option (List D)
  | _, [] => some []
  | 0, _ :: _ => none
  | n + 1, x :: xs => match toD h (n + 1) x, toDs h (n + 1) xs with
    | some d, some ds => some (d :: ds)
    | _, _ => none
end

mutual
/-- texts of real signs -/
def D.ok : D → Bool
  | .str s => s.all (· < 1114112)
  | .lst xs => D.oks xs
  | .tup xs => D.oks xs
  | _ => true
def D.oks : List D → Bool
  | [] => true
  | x :: xs => D.ok x && D.oks xs
end
/-- the first place of text p in text s, from k on told; -1 without one -/
def findL : List Nat → List Nat → Nat → Int
  | [], _, _ => -1
  | c :: r, p, k => if p.isPrefixOf (c :: r) = true then (k : Int) else findL r p (k + 1)
/-- the last one -/
def rfindL : List Nat → List Nat → Nat → Int
  | [], _, _ => -1
  | c :: r, p, k => if 0 ≤ rfindL r p (k + 1) then rfindL r p (k + 1) else if p.isPrefixOf (c :: r) = true then (k : Int) else -1
/-- how often a one-sign text stands -/
def countL (s : List Nat) (c : Nat) : Nat := (s.filter (· == c)).length
def joinL (sep : List Nat) : List (List Nat) → List Nat
  | [] => []
  | [x] => x
  | x :: y :: r => x ++ sep ++ joinL sep (y :: r)

def allInt : List U → Option (List Int)
  | [] => some []
  | .int i :: r => (allInt r).map (i :: ·)
  | _ => none
def allStr : List U → Option (List (List Nat))
  | [] => some []
  | .str i :: r => (allStr r).map (i :: ·)
  | _ => none
def allBl : List U → Option (List Bool)
  | [] => some []
  | .bl i :: r => (allBl r).map (i :: ·)
  | _ => none

def minL (i : Int) : List Int → Int
  | [] => i
  | j :: r => minL (if j < i then j else i) r
def maxL (i : Int) : List Int → Int
  | [] => i
  | j :: r => maxL (if i < j then j else i) r
def truthy (h : Hm) : U → Option Bool
  | .non => some false
  | .bl b => some b
  | .int i => some (i != 0)
  | .str s => if s.length ≤ SZ then some (!s.isEmpty) else none
  | .tup xs => some (!xs.isEmpty)
  | .ref i => match h[i]? with
    | some (.lst xs) => some (!xs.isEmpty)
    | some (.frz xs) => some (!xs.isEmpty)
    | some (.dic kvs) => some (!kvs.isEmpty)
    | _ => none

/-- a key of a dict: an int or a text -/
def isKey : U → Bool
  | .int _ => true
  | .str _ => true
  | _ => false
def keyEq : U → U → Bool
  | .int a, .int b => a == b
  | .str a, .str b => a == b
  | _, _ => false
def dget : List (U × U) → U → Option U
  | [], _ => none
  | (k, v) :: r, x => if keyEq k x = true then some v else dget r x
def dput (kvs : List (U × U)) (x y : U) : List (U × U) :=
  if (kvs.any fun kv => keyEq kv.1 x) = true then kvs.map (fun kv => if keyEq kv.1 x = true then (kv.1, y) else kv) else kvs ++ [(x, y)]

def isNon : U → Bool
  | .non => true
  | _ => false
def isTr : U → Bool
  | .bl true => true
  | _ => false
def isFa : U → Bool
  | .bl false => true
  | _ => false
def new (h : Hm) (o : O) : R U := .ok (.ref h.length) (h ++ [o])

/-- flat things: ints, bools, texts, None -/
def flat : U → Bool
  | .non => true
  | .bl _ => true
  | .int _ => true
  | .str _ => true
  | _ => false
def scEq : U → U → Bool
  | .non, .non => true
  | .bl a, .bl b => a == b
  | .bl a, .int j => (if a then 1 else 0) == j
  | .int i, .bl b => i == (if b then 1 else 0)
  | .int i, .int j => i == j
  | .str x, .str y => x == y
  | _, _ => false
def eqU (h : Hm) (x y : U) : Option Bool := match x, y with
  | .int i, .int j => some (i == j)
  | .str i, .str j => some (i == j)
  | x, y => match toD h 12 x, toD h 12 y with
    | some d, some e => if D.ok d = true ∧ D.ok e = true then some (D.eqv d e) else none
    | _, _ => none

def insSort {α : Type} (lt : α → α → Bool) : List α → List α
  | [] => []
  | x :: xs => ins x (insSort lt xs)
where ins (x : α) : List α → List α
  | [] => [x]
  | y :: ys => if lt y x then y :: ins x ys else x :: y :: ys

def lexLt : List Nat → List Nat → Bool
  | [], [] => false
  | [], _ :: _ => true
  | _ :: _, [] => false
  | a :: as, b :: bs => if a < b then true else if b < a then false else lexLt as bs

def oint (o : Option Int) : U := match o with | some i => .int i | none => .non

def optI : U → Option Int
  | .int i => some i
  | _ => none

def memU (h : Hm) (x y : U) (neg : Bool) : R U := match y with
  | .str t => match x with
    | .str p => gd (!p.isEmpty) (.ok (.bl (xor neg (decide (0 ≤ findL t p 0)))) h)
    | _ => .bad
  | .ref a => match h[a]? with
    | some (.dic kvs) => gd (isKey x) (.ok (.bl (xor neg (dget kvs x).isSome)) h)
    | some o => match items h (.ref a) with
      | some xs => gd (flat x && xs.all flat) (.ok (.bl (xor neg (xs.any fun z => scEq z x))) h)
      | none => .bad
    | none => .bad
  | .tup xs => gd (flat x && xs.all flat) (.ok (.bl (xor neg (xs.any fun z => scEq z x))) h)
  | _ => .bad
def cutU (h : Hm) (x : U) (lo hi : Option Int) : R U := match x with
  | .str s => gd (decide (s.length ≤ SZ)) (.ok (.str (cutL s lo hi)) h)
  | .ref a => match items h (.ref a) with
    | some xs => new h (.lst (cutL xs lo hi))
    | none => .bad
  | .tup xs => .ok (.tup (cutL xs lo hi)) h
  | _ => .bad

def pAdd : List U → Hm → R U
  | [.int i, .int j], h => .ok (.int (i + j)) h
  | [.str i, .str j], h => gd (decide (i.length + j.length ≤ SZ)) (.ok (.str (i ++ j)) h)
  | [.tup i, .tup j], h => gd (decide (i.length + j.length ≤ SZ)) (.ok (.tup (i ++ j)) h)
  | [.ref a, .ref b], h => match items h (.ref a), items h (.ref b) with
    | some xs, some ys => gd (decide (xs.length + ys.length ≤ SZ)) (new h (.lst (xs ++ ys)))
    | _, _ => .bad
  | _, _ => .bad
def pSub : List U → Hm → R U
  | [.int i, .int j], h => .ok (.int (i - j)) h
  | _, _ => .bad
def pMul : List U → Hm → R U
  | [.int i, .int j], h => gd (decide (i.natAbs.log2 + j.natAbs.log2 < 1000000)) (.ok (.int (i * j)) h)
  | [.str s, .int j], h => gd (decide (s.length * j.toNat ≤ SZ) && decide (-(2 ^ 62) < j) && decide (j < 2 ^ 62)) (.ok (.str (List.replicate j.toNat s).flatten) h)
  | [.ref a, .int j], h => match h[a]? with
    | some (.lst xs) => gd (decide (xs.length * j.toNat ≤ SZ) && decide (-(2 ^ 62) < j) && decide (j < 2 ^ 62)) (new h (.lst (List.replicate j.toNat xs).flatten))
    | _ => .bad
  | _, _ => .bad
def pFdiv : List U → Hm → R U
  | [.int i, .int j], h => gd (decide (0 < j) && decide (j.natAbs.log2 < 9000)) (.ok (.int (i / j)) h)
  | _, _ => .bad
def pMod : List U → Hm → R U
  | [.int i, .int j], h => gd (decide (0 < j)) (.ok (.int (i % j)) h)
  | _, _ => .bad
def pPow : List U → Hm → R U
  | [.int i, .int j], h => gd (decide (0 ≤ j) && decide (j ≤ 1000000) && decide (i.natAbs < 2 ^ 64)) (.ok (.int (i ^ j.toNat)) h)
  | _, _ => .bad
def pNeg : List U → Hm → R U
  | [.int i], h => .ok (.int (-i)) h
  | _, _ => .bad
def pNotv : List U → Hm → R U
  | [.bl b], h => .ok (.bl (!b)) h
  | _, _ => .bad
def pEq : List U → Hm → R U
  | [x, y], h => match eqU h x y with
    | some b => .ok (.bl b) h
    | none => .bad
  | _, _ => .bad
def pNe : List U → Hm → R U
  | [x, y], h => match eqU h x y with
    | some b => .ok (.bl (!b)) h
    | none => .bad
  | _, _ => .bad
def pLt : List U → Hm → R U
  | [.int i, .int j], h => .ok (.bl (decide (i < j))) h
  | [.str i, .str j], h => .ok (.bl (decide (i < j))) h
  | _, _ => .bad
def pLe : List U → Hm → R U
  | [.int i, .int j], h => .ok (.bl (decide (i ≤ j))) h
  | [.str i, .str j], h => .ok (.bl (!decide (j < i))) h
  | _, _ => .bad
def pGt : List U → Hm → R U
  | [.int i, .int j], h => .ok (.bl (decide (j < i))) h
  | [.str i, .str j], h => .ok (.bl (decide (j < i))) h
  | _, _ => .bad
def pGe : List U → Hm → R U
  | [.int i, .int j], h => .ok (.bl (decide (j ≤ i))) h
  | [.str i, .str j], h => .ok (.bl (!decide (i < j))) h
  | _, _ => .bad
def pInn : List U → Hm → R U
  | [x, y], h => memU h x y false
  | _, _ => .bad
def pNin : List U → Hm → R U
  | [x, y], h => memU h x y true
  | _, _ => .bad
def pIsN : List U → Hm → R U
  | [x], h => .ok (.bl (isNon x)) h
  | _, _ => .bad
def pIsNN : List U → Hm → R U
  | [x], h => .ok (.bl (!isNon x)) h
  | _, _ => .bad
def pIsT : List U → Hm → R U
  | [.bl b], h => .ok (.bl b) h
  | _, _ => .bad
def pIsNT : List U → Hm → R U
  | [.bl b], h => .ok (.bl (!b)) h
  | _, _ => .bad
def pIsF : List U → Hm → R U
  | [.bl b], h => .ok (.bl (!b)) h
  | _, _ => .bad
def pIsNF : List U → Hm → R U
  | [.bl b], h => .ok (.bl b) h
  | _, _ => .bad
def pLen : List U → Hm → R U
  | [.str s], h => gd (decide (s.length ≤ SZ)) (.ok (.int s.length) h)
  | [.tup s], h => .ok (.int s.length) h
  | [.ref i], h => match h[i]? with
    | some (.lst xs) => .ok (.int xs.length) h
    | some (.frz xs) => .ok (.int xs.length) h
    | some (.dic kvs) => .ok (.int kvs.length) h
    | _ => .bad
  | _, _ => .bad
def pIx : List U → Hm → R U
  | [.str s, .int i], h => gd (decide (s.length ≤ SZ)) (match (nix s.length i).bind (fun j => s[j]?) with
    | some c => .ok (.str [c]) h
    | none => .bad)
  | [.tup s, .int i], h => match (nix s.length i).bind (fun j => s[j]?) with
    | some c => .ok c h
    | none => .bad
  | [.ref a, k], h => match h[a]? with
    | some (.dic kvs) => gd (isKey k) (match dget kvs k with
      | some v => .ok v h
      | none => .bad)
    | some o => match items h (.ref a), k with
      | some xs, .int i => match (nix xs.length i).bind (fun j => xs[j]?) with
        | some c => .ok c h
        | none => .bad
      | _, _ => .bad
    | none => .bad
  | _, _ => .bad
def pCut (lo hi : Bool) : List U → Hm → R U
  | x :: ps, h => match lo, hi, ps with
    | true, true, [.int i, .int j] => cutU h x (some i) (some j)
    | true, false, [.int i] => cutU h x (some i) none
    | false, true, [.int j] => cutU h x none (some j)
    | false, false, [] => cutU h x none none
    | _, _, _ => .bad
  | _, _ => .bad
def pRev : List U → Hm → R U
  | [.str s], h => gd (decide (s.length ≤ SZ)) (.ok (.str s.reverse) h)
  | [.ref a], h => match items h (.ref a) with
    | some xs => new h (.lst xs.reverse)
    | none => .bad
  | _, _ => .bad
def pTup : List U → Hm → R U
  | xs, h => gd (decide (xs.length ≤ SZ)) (.ok (.tup xs) h)
def pLst : List U → Hm → R U
  | xs, h => gd (decide (xs.length ≤ SZ)) (new h (.lst xs))
def pDic : List U → Hm → R U
  | [], h => new h (.dic [])
  | _, _ => .bad
def pAppend : List U → Hm → R U
  | [.ref a, x], h => match h[a]? with
    | some (.lst xs) => gd (decide (xs.length < SZ)) (.ok .non (h.set a (.lst (xs ++ [x]))))
    | _ => .bad
  | _, _ => .bad
def pFind : List U → Hm → R U
  | [.str s, .str p], h => gd (!p.isEmpty) (.ok (.int (findL s p 0)) h)
  | _, _ => .bad
def pRfind : List U → Hm → R U
  | [.str s, .str p], h => gd (!p.isEmpty) (.ok (.int (rfindL s p 0)) h)
  | _, _ => .bad
def pRfind4 : List U → Hm → R U
  | [.str s, .str p, .int i, .int j], h => gd (!p.isEmpty && i == 0 && decide (0 ≤ j) && decide (j ≤ s.length)) (.ok (.int (rfindL (s.take j.toNat) p 0)) h)
  | _, _ => .bad
def pIndex : List U → Hm → R U
  | [.str s, .str p], h => gd (!p.isEmpty && decide (0 ≤ findL s p 0)) (.ok (.int (findL s p 0)) h)
  | _, _ => .bad
def pRindex : List U → Hm → R U
  | [.str s, .str p], h => gd (!p.isEmpty && decide (0 ≤ rfindL s p 0)) (.ok (.int (rfindL s p 0)) h)
  | _, _ => .bad
def pCount : List U → Hm → R U
  | [.str s, .str [c]], h => .ok (.int (countL s c)) h
  | _, _ => .bad
def pJoin : List U → Hm → R U
  | [.str sep, y], h => match items h y with
    | some xs => match allStr xs with
      | some ts => gd (decide ((ts.map (·.length)).sum + ts.length * sep.length ≤ SZ)) (.ok (.str (joinL sep ts)) h)
      | none => .bad
    | none => .bad
  | _, _ => .bad
def pGet1 : List U → Hm → R U
  | [.ref a, k], h => match h[a]? with
    | some (.dic kvs) => gd (isKey k) (.ok ((dget kvs k).getD .non) h)
    | _ => .bad
  | _, _ => .bad
def pGet2 : List U → Hm → R U
  | [.ref a, k, d], h => match h[a]? with
    | some (.dic kvs) => gd (isKey k) (.ok ((dget kvs k).getD d) h)
    | _ => .bad
  | _, _ => .bad
def pToInt : List U → Hm → R U
  | [.int i], h => .ok (.int i) h
  | [.bl b], h => .ok (.int (if b then 1 else 0)) h
  | _, _ => .bad
def pAbs : List U → Hm → R U
  | [.int i], h => .ok (.int (if i < 0 then -i else i)) h
  | _, _ => .bad
def pMin2 : List U → Hm → R U
  | [.int i, .int j], h => .ok (.int (if j < i then j else i)) h
  | _, _ => .bad
def pMax2 : List U → Hm → R U
  | [.int i, .int j], h => .ok (.int (if i < j then j else i)) h
  | _, _ => .bad
def pMin1 : List U → Hm → R U
  | [.ref x], h => match (items h (.ref x)).bind allInt with
    | some (i :: r) => .ok (.int (minL i r)) h
    | _ => .bad
  | _, _ => .bad
def pMax1 : List U → Hm → R U
  | [.ref x], h => match (items h (.ref x)).bind allInt with
    | some (i :: r) => .ok (.int (maxL i r)) h
    | _ => .bad
  | _, _ => .bad
def pSum1 : List U → Hm → R U
  | [x], h => match (items h x).bind allInt with
    | some l => .ok (.int l.sum) h
    | _ => .bad
  | _, _ => .bad
def pToTuple : List U → Hm → R U
  | [.ref a], h => match items h (.ref a) with
    | some xs => .ok (.tup xs) h
    | none => .bad
  | [.tup xs], h => .ok (.tup xs) h
  | _, _ => .bad
def pToList : List U → Hm → R U
  | [x], h => match items h x with
    | some xs => new h (.lst xs)
    | none => .bad
  | _, _ => .bad
/-- the digits of a number -/
def numT (i : Int) : List Nat := if i < 0 then 45 :: (Nat.toDigits 10 i.natAbs).map Char.toNat else (Nat.toDigits 10 i.natAbs).map Char.toNat
mutual
/-- data as repr writes it, letters only -/
def D.shown : D → List Nat
  | .non => [78, 111, 110, 101]
  | .bl true => [84, 114, 117, 101]
  | .bl false => [70, 97, 108, 115, 101]
  | .int i => numT i
  | .str s => 39 :: s ++ [39]
  | .lst xs => 91 :: joinL [44, 32] (D.showns xs) ++ [93]
  | .tup xs => 40 :: joinL [44, 32] (D.showns xs) ++ (if xs.length == 1 then [44, 41] else [41])
def D.showns : List D → List (List Nat)
  | [] => []
  | x :: xs => D.shown x :: D.showns xs
end
mutual
/-- what repr may be asked of -/
def D.rok : D → Bool
  | .int i => decide (i.natAbs.log2 < 1920)
  | .str s => s.all fun c => decide (32 ≤ c) && decide (c ≤ 126) && !(c == 39) && !(c == 92)
  | .lst xs => D.roks xs
  | .tup xs => D.roks xs
  | _ => true
def D.roks : List D → Bool
  | [] => true
  | x :: xs => D.rok x && D.roks xs
end
def isRef : U → Bool
  | .ref _ => true
  | .tup _ => true
  | _ => false
def pRepr : List U → Hm → R U
  | [x], h => match toD h 12 x with
    | some d => gd (isRef x && D.rok d && decide (d.shown.length ≤ SZ)) (.ok (.str d.shown) h)
    | none => .bad
  | _, _ => .bad
def pDivmod : List U → Hm → R U
  | [.int i, .int j], h => gd (decide (0 < j) && decide (j.natAbs.log2 < 9000)) (.ok (.tup [.int (i / j), .int (i % j)]) h)
  | _, _ => .bad
def pAll1 : List U → Hm → R U
  | [.ref x], h => match (items h (.ref x)).bind allBl with
    | some l => .ok (.bl (l.all id)) h
    | none => .bad
  | _, _ => .bad
/-- sorted, of numbers or of texts -/
def pSorted : List U → Hm → R U
  | [.ref x], h => match items h (.ref x) with
    | some xs => match allInt xs with
      | some l => new h (.lst ((insSort (fun a b => decide (a < b)) l).map .int))
      | none => match allStr xs with
        | some l => gd (decide (l.length < 64)) (new h (.lst ((insSort (fun a b => decide (a < b)) l).map .str)))
        | none => .bad
    | none => .bad
  | _, _ => .bad
/-- the kind of a thing -/
def tyN (h : Hm) : U → Option Tn
  | .non => some .non
  | .bl _ => some .bool
  | .int _ => some .int
  | .str _ => some .str
  | .tup _ => some .tuple
  | .ref i => match h[i]? with
    | some (.lst _) => some .list
    | some (.frz _) => some .list
    | some (.dic _) => some .dict
    | none => none
def isSub (a b : Tn) : Bool := decide (a = b) || (decide (a = .bool) && decide (b = .int))
def pIsi (T : Tn) : List U → Hm → R U
  | [x], h => match tyN h x with
    | some t => .ok (.bl (isSub t T)) h
    | none => .bad
  | _, _ => .bad
def prim (p : Prim) : List U → Hm → R U := match p with
  | .add => pAdd
  | .sub => pSub
  | .mul => pMul
  | .fdiv => pFdiv
  | .mod => pMod
  | .pow => pPow
  | .neg => pNeg
  | .notv => pNotv
  | .eq => pEq
  | .ne => pNe
  | .lt => pLt
  | .le => pLe
  | .gt => pGt
  | .ge => pGe
  | .inn => pInn
  | .nin => pNin
  | .isN => pIsN
  | .isNN => pIsNN
  | .isT => pIsT
  | .isNT => pIsNT
  | .isF => pIsF
  | .isNF => pIsNF
  | .len => pLen
  | .ix => pIx
  | .cut lo hi => pCut lo hi
  | .rev => pRev
  | .tup => pTup
  | .lst => pLst
  | .dic => pDic
  | .append => pAppend
  | .find => pFind
  | .rfind => pRfind
  | .rfind4 => pRfind4
  | .index => pIndex
  | .rindex => pRindex
  | .count => pCount
  | .join => pJoin
  | .get1 => pGet1
  | .get2 => pGet2
  | .toInt => pToInt
  | .abs => pAbs
  | .isi T => pIsi T
  | .sorted => pSorted
  | .repr => pRepr
  | .min2 => pMin2
  | .max2 => pMax2
  | .min1 => pMin1
  | .max1 => pMax1
  | .sum1 => pSum1
  | .toTuple => pToTuple
  | .toList => pToList
  | .divmod => pDivmod
  | .all1 => pAll1
  | _ => fun _ _ => .bad

/-- what makes turns of its own -/
inductive Ik where
  | range1 | range2 | range3 | enum | zip
  deriving DecidableEq
/-- a pattern of names -/
inductive Pt where
  | nm (i : Nat)
  | two (a b : Nat)
  | three (a b c : Nat)

mutual
inductive Ex where
  | cst (u : U)
  | var (i : Nat)
  | prim (p : Prim) (es : Exs)
  | call (f : Nat) (es : Exs)
  | ite (t : Ts) (a b : Ex)
  | andv (a b : Ex)
  | orv (a b : Ex)
  | comp (it : It) (tg : Pt) (own : List Nat) (c : Ts) (elt : Ex)
  | meth (t : Tn) (p : Prim) (o : Ex) (es : Exs)
  | chain (p q : Prim) (a b c : Ex)
inductive Exs where
  | nil
  | cons (e : Ex) (es : Exs)
/-- tests -/
inductive Ts where
  | tt
  | val (e : Ex)
  | and (a b : Ts)
  | or (a b : Ts)
  | not (a : Ts)
/-- what is walked -/
inductive It where
  | ofE (e : Ex)
  | call (k : Ik) (es : Exs)
end

mutual
inductive Sm where
  | asg (p : Pt) (e : Ex)
  | asgIx (o i e : Ex)
  | aug (i : Nat) (p : Prim) (e : Ex)
  | ifs (t : Ts) (a b : Sms)
  | whl (t : Ts) (b : Sms)
  | for_ (it : It) (tg : Pt) (b : Sms)
  | ret (e : Ex)
  | retN
  | pass | brk | cont
  | expr (e : Ex)
  | never
inductive Sms where
  | nil
  | cons (s : Sm) (ss : Sms)
end

abbrev En := List (Option U)
def wipe : En → List Nat → En
  | r, [] => r
  | r, v :: vs => (wipe r vs).set v none

def bindP : Pt → U → En → Option En
  | .nm i, u, r => some (r.set i (some u))
  | .two a b, .tup [x, y], r => some ((r.set a (some x)).set b (some y))
  | .three a b c, .tup [x, y, z], r => some (((r.set a (some x)).set b (some y)).set c (some z))
  | _, _, _ => none

/-- where a statement leads -/
inductive Fl where
  | next (r : En)
  | ret (u : U)
  | brk (r : En)
  | cont (r : En)
  | exn (e : Exn) (r : En)

mutual
def O.beq : O → O → Bool
  | .lst a, .lst b => U.beqs a b
  | .frz a, .frz b => U.beqs a b
  | .dic a, .dic b => O.beqKv a b
  | _, _ => false
def O.beqKv : List (U × U) → List (U × U) → Bool
  | [], [] => true
  | (a, b) :: r, (c, d) :: s => U.beq a c && U.beq b d && O.beqKv r s
  | _, _ => false
end
def obeq : Option O → Option O → Bool
  | some a, some b => O.beq a b
  | _, _ => false

/-- all the places in g stand as they did -/
def still (h0 h : Hm) (g : List Nat) : Bool := g.all fun i => obeq h0[i]? h[i]?

/-- numbers from a on by c -/
def upTo (a c : Int) : Nat → List U
  | 0 => []
  | n + 1 => .int a :: upTo (a + c) c n
def zipU : List U → List U → List U
  | x :: xs, y :: ys => .tup [x, y] :: zipU xs ys
  | _, _ => []
def zipU3 : List U → List U → List U → List U
  | x :: xs, y :: ys, z :: zs => .tup [x, y, z] :: zipU3 xs ys zs
  | _, _, _ => []
def enumU : Nat → List U → List U
  | _, [] => []
  | n, x :: xs => .tup [.int n, x] :: enumU (n + 1) xs

/-- the items of what is walked, and the places that must stand meanwhile -/
def walked (h : Hm) : U → Option (List U × List Nat)
  | .tup xs => some (xs, [])
  | .str s => some (s.map fun c => .str [c], [])
  | .ref i => match h[i]? with
    | some (.lst xs) => some (xs, [i])
    | some (.frz xs) => some (xs, [i])
    | _ => none
  | _ => none
def small62 (i : Int) : Bool := decide (-(2 ^ 62) ≤ i) && decide (i < 2 ^ 62)
def rangeN (a b c : Int) : Option Nat :=
  if 0 < c then some ((b - a + c - 1) / c).toNat else if c < 0 then some ((a - b - c - 1) / (-c)).toNat else none

def range1R : List U → Hm → R (List U × List Nat)
  | [.int i], h => gd (small62 i) (.ok (upTo 0 1 i.toNat, []) h)
  | _, _ => .bad
def range2R : List U → Hm → R (List U × List Nat)
  | [.int i, .int j], h => gd (small62 i && small62 j) (.ok (upTo i 1 (j - i).toNat, []) h)
  | _, _ => .bad
def range3R : List U → Hm → R (List U × List Nat)
  | [.int i, .int j, .int k], h => gd (small62 i && small62 j && k == -1) (.ok (upTo i (-1) (i - j).toNat, []) h)
  | _, _ => .bad
def enumR : List U → Hm → R (List U × List Nat)
  | [u], h => match walked h u with
    | some p => .ok (enumU 0 p.1, p.2) h
    | none => .bad
  | _, _ => .bad
def zipR : List U → Hm → R (List U × List Nat)
  | [u, v], h => match walked h u, walked h v with
    | some p, some q => .ok (zipU p.1 q.1, p.2 ++ q.2) h
    | _, _ => .bad
  | _, _ => .bad
def itR : Ik → List U → Hm → R (List U × List Nat)
  | .range1 => range1R
  | .range2 => range2R
  | .range3 => range3R
  | .enum => enumR
  | .zip => zipR
/-- a loop over items: b binds and runs a turn -/
def forL (chk : Hm → Bool) (b : U → En → Hm → R Fl) : List U → En → Hm → R Fl
  | [], r, h => gd (chk h) (.ok (.next r) h)
  | x :: xs, r, h => gd (chk h) ((b x r h).bind fun f h' => match f with
    | .next r' => forL chk b xs r' h'
    | .cont r' => forL chk b xs r' h'
    | .brk r' => .ok (.next r') h'
    | .ret u => .ok (.ret u) h'
    | .exn e r' => .ok (.exn e r') h')
/-- a comprehension's turns: b binds, tests, reckons -/
def compL (chk : Hm → Bool) (n : Nat) (b : U → Hm → R (Option U)) : List U → List U → Hm → R U
  | [], acc, h => gd (chk h && obeq h[n]? (some (.lst acc))) (.ok (.ref n) h)
  | x :: xs, acc, h => gd (chk h && obeq h[n]? (some (.lst acc))) ((b x h).bind fun o h' => match o with
    | none => compL chk n b xs acc h'
    | some u => gd (obeq h'[n]? (some (.lst acc)) && decide (acc.length < SZ)) (compL chk n b xs (acc ++ [u]) (h'.set n (.lst (acc ++ [u])))))
def whileL (t : En → Hm → R Bool) (b : En → Hm → R Fl) : Nat → En → Hm → R Fl
  | 0, _, _ => .bad
  | n + 1, r, h => (t r h).bind fun c h' => if c = true then (b r h').bind fun f h'' => match f with
      | .next r' => whileL t b n r' h''
      | .cont r' => whileL t b n r' h''
      | .brk r' => .ok (.next r') h''
      | .ret u => .ok (.ret u) h''
      | .exn e r' => .ok (.exn e r') h''
    else .ok (.next r) h'
/-- how many turns a while may have -/
def turns : Nat := 1000000

section
variable (cl : Nat → List U → Hm → R U)
mutual
def ev : Ex → En → Hm → R U
  | .cst u, _, h => .ok u h
  | .var i, r, h => match r[i]? with
    | some (some u) => .ok u h
    | _ => .bad
  | .prim p es, r, h => (evs es r h).bind fun us h1 => prim p us h1
  | .call f es, r, h => (evs es r h).bind fun us h1 => cl f us h1
  | .ite t a b, r, h => (tst t r h).bind fun c h1 => if c = true then ev a r h1 else ev b r h1
  | .andv a b, r, h => (ev a r h).bind fun u h1 => match truthy h1 u with
    | some true => ev b r h1
    | some false => .ok u h1
    | none => .bad
  | .orv a b, r, h => (ev a r h).bind fun u h1 => match truthy h1 u with
    | some true => .ok u h1
    | some false => ev b r h1
    | none => .bad
  | .comp it tg own c elt, r, h => (evi it r h).bind fun xg h1 =>
      compL (fun h' => still h1 h' xg.2) h1.length (fun x h2 => match bindP tg x (wipe r own) with
        | none => .bad
        | some r2 => (tst c r2 h2).bind fun b h3 => if b = true then (ev elt r2 h3).bind fun u h4 => .ok (some u) h4 else .ok none h3) xg.1 [] (h1 ++ [.lst []])
  | .meth t p o es, r, h => (ev o r h).bind fun u h1 => gd (tyN h1 u == some t) ((evs es r h1).bind fun us h2 => prim p (u :: us) h2)
  | .chain p q a b c, r, h => (ev a r h).bind fun u h1 => (ev b r h1).bind fun v h2 => (prim p [u, v] h2).bind fun w h3 => match w with
    | .bl true => (ev c r h3).bind fun x h4 => prim q [v, x] h4
    | .bl false => .ok (.bl false) h3
    | _ => .bad
def evs : Exs → En → Hm → R (List U)
  | .nil, _, h => .ok [] h
  | .cons e es, r, h => (ev e r h).bind fun u h1 => (evs es r h1).bind fun us h2 => .ok (u :: us) h2
def tst : Ts → En → Hm → R Bool
  | .tt, _, h => .ok true h
  | .val e, r, h => (ev e r h).bind fun u h1 => match truthy h1 u with
    | some b => .ok b h1
    | none => .bad
  | .and a b, r, h => (tst a r h).bind fun c h1 => if c = true then tst b r h1 else .ok false h1
  | .or a b, r, h => (tst a r h).bind fun c h1 => if c = true then .ok true h1 else tst b r h1
  | .not a, r, h => (tst a r h).bind fun c h1 => .ok (!c) h1
def evi : It → En → Hm → R (List U × List Nat)
  | .ofE e, r, h => (ev e r h).bind fun u h1 => match walked h1 u with
    | some p => .ok p h1
    | none => .bad
  | .call k es, r, h => (evs es r h).bind fun us h1 => itR k us h1
end

/-- o[i] = v -/
def store (o i v : U) (h : Hm) : Option Hm := match o with
  | .ref a => match h[a]? with
    | some (.lst xs) => match i with
      | .int k => (nix xs.length k).map fun j => h.set a (.lst (xs.set j v))
      | _ => none
    | some (.dic kvs) => if isKey i = true ∧ kvs.length < SZ then some (h.set a (.dic (dput kvs i v))) else none
    | _ => none
  | _ => none

/-- x op= y of numbers -/
def augR : Prim → U → U → Option U
  | .add, .int i, .int j => some (.int (i + j))
  | .sub, .int i, .int j => some (.int (i - j))
  | _, _, _ => none
def toS (r : En) (x : R Fl) : R Fl := match x with
  | .exc e h => .ok (.exn e r) h
  | y => y

mutual
def exs : Sm → En → Hm → R Fl
  | .asg p e, r, h => toS r ((ev cl e r h).bind fun u h1 => match bindP p u r with
    | some r' => .ok (.next r') h1
    | none => .bad)
  | .asgIx o i e, r, h => toS r ((ev cl e r h).bind fun u h1 => (ev cl o r h1).bind fun ov h2 => (ev cl i r h2).bind fun iv h3 => match store ov iv u h3 with
    | some h4 => .ok (.next r) h4
    | none => .bad)
  | .aug i p e, r, h => match r[i]? with
    | some (some x) => toS r ((ev cl e r h).bind fun y h1 => match augR p x y with
      | some z => .ok (.next (r.set i (some z))) h1
      | none => .bad)
    | _ => .bad
  | .ifs t a b, r, h => toS r ((tst cl t r h).bind fun c h1 => if c = true then exss a r h1 else exss b r h1)
  | .whl t b, r, h => toS r (whileL (tst cl t) (exss b) turns r h)
  | .for_ it tg b, r, h => toS r ((evi cl it r h).bind fun xg h1 => forL (fun h' => still h1 h' xg.2) (fun x r' h' => match bindP tg x r' with
    | some r2 => exss b r2 h'
    | none => .bad) xg.1 r h1)
  | .ret e, r, h => toS r ((ev cl e r h).bind fun u h1 => .ok (.ret u) h1)
  | .retN, _, h => .ok (.ret .non) h
  | .pass, r, h => .ok (.next r) h
  | .brk, r, h => .ok (.brk r) h
  | .cont, r, h => .ok (.cont r) h
  | .expr e, r, h => toS r ((ev cl e r h).bind fun _ h1 => .ok (.next r) h1)
  | .never, _, _ => .bad
def exss : Sms → En → Hm → R Fl
  | .nil, r, h => .ok (.next r) h
  | .cons s ss, r, h => (exs s r h).bind fun f h1 => match f with
    | .next r' => exss ss r' h1
    | f => .ok f h1
end
end

structure Fd where
  np : Nat
  nl : Nat
  body : Sms

mutual
/-- no places within -/
def clean : U → Bool
  | .ref _ => false
  | .tup xs => cleans xs
  | _ => true
def cleans : List U → Bool
  | [] => true
  | x :: xs => clean x && cleans xs
end
def flatO : O → Bool
  | .lst xs => cleans xs
  | .frz xs => cleans xs
  | .dic kvs => cleans (kvs.map (·.1)) && cleans (kvs.map (·.2))
/-- what stood before has stayed, or has no places within -/
def quiet : Hm → Hm → Bool
  | [], _ => true
  | _ :: _, [] => false
  | a :: r, b :: s => (O.beq a b || flatO b) && quiet r s
/-- what a call leaves: what can't be reached is gone -/
def swept (h : Hm) (u : U) (h' : Hm) : R U :=
  if quiet h h' = true then
    if clean u = true then .ok u (h'.take h.length)
    else match u with
      | .ref k => match h'[k]? with
        | some o => if flatO o = true ∧ h.length ≤ k then .ok (.ref h.length) (h'.take h.length ++ [o]) else .ok u h'
        | none => .ok u h'
      | _ => .ok u h'
  else .ok u h'
def ended (h : Hm) (x : R Fl) : R U := x.bind fun f h' => match f with
  | .next _ => swept h .non h'
  | .ret u => swept h u h'
  | .exn e _ => .exc e h'
  | _ => .bad
/-- calls, to a depth -/
def callF (T : Nat → Option Fd) : Nat → Nat → List U → Hm → R U
  | 0, _, _, _ => .bad
  | k + 1, f, us, h => match T f with
    | none => .bad
    | some d => if us.length = d.np then ended h (exss (callF T k) d.body (us.map some ++ List.replicate (d.nl - d.np) none) h) else .bad

end Mp

set_option Elab.async false
set_option linter.all false
set_option maxRecDepth 100000
namespace Mp
open PySem PySem.Spec PyProof.Rows L2 TL

abbrev Mm := Nat → Option Addr
abbrev AH := L2.Hp
def ts (s : List Nat) : Str := ⟨s.toArray⟩
theorem tl_ts (s : List Nat) : tl (ts s) = s := rfl
theorem ts_tl (x : Str) : ts (tl x) = x := mk_tl x
theorem ts_len (s : List Nat) : (ts s).length = s.length := by simp [ts, Str.length]
theorem ts_append (a b : List Nat) : ts a ++ ts b = ts (a ++ b) := ext_tl (by rw [tl_append, tl_ts, tl_ts, tl_ts])
theorem ts_inj {a b : List Nat} (h : ts a = ts b) : a = b := by have := congrArg tl h; rwa [tl_ts, tl_ts] at this
theorem ts_eq_iff {a b : List Nat} : ts a = ts b ↔ a = b := ⟨ts_inj, fun h => by rw [h]⟩

section
variable (K : PySem.W.Frag)
mutual
def RU (H : AH) (m : Mm) : U → V → Prop
  | .non, v => v = .non
  | .bl b, v => v = .bl b
  | .int i, v => v = .int i
  | .str s, v => v = .str (ts s)
  | .tup xs, v => ∃ a vs, v = .ref a ∧ SqT K H a vs ∧ RUs H m xs vs
  | .ref i, v => ∃ a, m i = some a ∧ v = .ref a
def RUs (H : AH) (m : Mm) : List U → List V → Prop
  | [], vs => vs = []
  | x :: xs, vs => ∃ y ys, vs = y :: ys ∧ RU H m x y ∧ RUs H m xs ys
end
def RKey : U → Key → Prop
  | .int i, k => k = .inl i
  | .str s, k => k = .inr (ts s)
  | _, _ => False
def RKv (H : AH) (m : Mm) : List (U × U) → List (Key × V) → Prop
  | [], ws => ws = []
  | x :: r, ws => ∃ k w s, ws = (k, w) :: s ∧ RKey x.1 k ∧ RU K H m x.2 w ∧ RKv H m r s
/-- a list that is only read -/
def FrzL (H : AH) (a : Addr) (vs : List V) : Prop :=
  (∃ o, H a = some (.frz o (.lst vs))) ∨
    ∃ (o : Obj) (its : Array Value) (n : Nat), K.lookup a = some o ∧ o.cls = .type "list" ∧ o.dict = none ∧ o.data = .seq its n ∧ its.size ≤ sizeLine ∧ Vals vs its.toList
def RO (H : AH) (m : Mm) : O → Addr → Prop
  | .lst xs, a => ∃ vs, H a = some (.lst vs) ∧ RUs K H m xs vs
  | .frz xs, a => ∃ vs, FrzL K H a vs ∧ RUs K H m xs vs
  | .dic kvs, a => ∃ ws, H a = some (.dK ws) ∧ RKv K H m kvs ws
def O.mu : O → Bool
  | .frz _ => false
  | _ => true
structure Rel (m : Mm) (h : Hm) (H : AH) : Prop where
  ob : ∀ i a, m i = some a → ∃ o, h[i]? = some o ∧ RO K H m o a
  inj : ∀ i j a o p, m i = some a → m j = some a → h[i]? = some o → h[j]? = some p → o.mu = true → p.mu = true → i = j
structure Ext (H H' : AH) : Prop where
  tup : ∀ a xs, H a = some (.tup xs) → H' a = some (.tup xs)
  frz : ∀ a o u, H a = some (.frz o u) → H' a = some (.frz o u)
structure Go (m : Mm) (H : AH) (m' : Mm) (H' : AH) : Prop where
  sub : ∀ i a, m i = some a → m' i = some a
  ext : Ext H H'
end

section
variable {K : PySem.W.Frag} {H H' H'' : AH} {m m' m'' : Mm} {h h' : Hm}
theorem Ext.refl : Ext H H := ⟨fun _ _ e => e, fun _ _ _ e => e⟩
theorem Ext.trans (a : Ext H H') (b : Ext H' H'') : Ext H H'' := ⟨fun x xs e => b.tup x xs (a.tup x xs e), fun x o u e => b.frz x o u (a.frz x o u e)⟩
theorem Go.refl : Go m H m H := ⟨fun _ _ e => e, Ext.refl⟩
theorem Go.trans (a : Go m H m' H') (b : Go m' H' m'' H'') : Go m H m'' H'' := ⟨fun i x e => b.sub i x (a.sub i x e), a.ext.trans b.ext⟩
theorem Ext.upd_new {p : Addr} {o : HO} (hp : H p = none) : Ext H (upd H p o) := ⟨fun a xs e => by rw [upd_ne (ne_of_none e hp)]; exact e, fun a o u e => by rw [upd_ne (ne_of_none e hp)]; exact e⟩
theorem Ext.upd_lst {p : Addr} {o : HO} {vs : List V} (hp : H p = some (.lst vs)) : Ext H (upd H p o) :=
  ⟨fun a xs e => by rw [upd_ne (ne_of e hp (by simp))]; exact e, fun a o u e => by rw [upd_ne (ne_of e hp (by simp))]; exact e⟩
theorem Ext.upd_dK {p : Addr} {o : HO} {ws : List (Key × V)} (hp : H p = some (.dK ws)) : Ext H (upd H p o) :=
  ⟨fun a xs e => by rw [upd_ne (ne_of e hp (by simp))]; exact e, fun a o u e => by rw [upd_ne (ne_of e hp (by simp))]; exact e⟩
theorem SqT.ext {a : Addr} {vs : List V} (x : Ext H H') (h : SqT K H a vs) : SqT K H' a vs := by
  rcases h with (h | ⟨o, h⟩) | h
  · exact .inl (.inl (x.tup _ _ h))
  · exact .inl (.inr ⟨o, x.frz _ _ _ h⟩)
  · exact .inr h
theorem FrzL.ext {a : Addr} {vs : List V} (x : Ext H H') (h : FrzL K H a vs) : FrzL K H' a vs := by
  rcases h with ⟨o, h⟩ | h
  · exact .inl ⟨o, x.frz _ _ _ h⟩
  · exact .inr h
theorem FrzL.sq {a : Addr} {vs : List V} (h : FrzL K H a vs) : SqL K H a vs := by
  rcases h with ⟨o, h⟩ | h
  · exact .inl (.inr ⟨o, h⟩)
  · exact .inr h
mutual
theorem RU.go (g : Go m H m' H') : ∀ {u : U} {v : V}, RU K H m u v → RU K H' m' u v
  | .non, v, h => by simpa [RU] using h
  | .bl b, v, h => by simpa [RU] using h
  | .int i, v, h => by simpa [RU] using h
  | .str s, v, h => by simpa [RU] using h
  | .tup xs, v, h => by
    simp only [RU] at h ⊢
    obtain ⟨a, vs, e, q, r⟩ := h
    exact ⟨a, vs, e, SqT.ext g.ext q, RUs.go g r⟩
  | .ref i, v, h => by
    simp only [RU] at h ⊢
    obtain ⟨a, e, r⟩ := h
    exact ⟨a, g.sub _ _ e, r⟩
theorem RUs.go (g : Go m H m' H') : ∀ {us : List U} {vs : List V}, RUs K H m us vs → RUs K H' m' us vs
  | [], vs, h => by simpa [RUs] using h
  | x :: xs, vs, h => by
    simp only [RUs] at h ⊢
    obtain ⟨y, ys, e, a, b⟩ := h
    exact ⟨y, ys, e, RU.go g a, RUs.go g b⟩
end
theorem RKv.go (g : Go m H m' H') : ∀ {us : List (U × U)} {vs : List (Key × V)}, RKv K H m us vs → RKv K H' m' us vs
  | [], vs, h => by simpa [RKv] using h
  | x :: xs, vs, h => by
    simp only [RKv] at h ⊢
    obtain ⟨k, w, s, e, a, b, c⟩ := h
    exact ⟨k, w, s, e, a, RU.go g b, RKv.go g c⟩
theorem RUs.length : ∀ {us : List U} {vs : List V}, RUs K H m us vs → us.length = vs.length
  | [], vs, h => by simp only [RUs] at h; subst h; rfl
  | x :: xs, vs, h => by
    simp only [RUs] at h
    obtain ⟨y, ys, e, a, b⟩ := h
    subst e
    simp [RUs.length b]
theorem RKv.length : ∀ {us : List (U × U)} {vs : List (Key × V)}, RKv K H m us vs → us.length = vs.length
  | [], vs, h => by simp only [RKv] at h; subst h; rfl
  | x :: xs, vs, h => by
    simp only [RKv] at h
    obtain ⟨k, w, s, e, a, b, c⟩ := h
    subst e
    simp [RKv.length c]
theorem RUs.get : ∀ {us : List U} {vs : List V} {i : Nat} {u : U}, RUs K H m us vs → us[i]? = some u → ∃ v, vs[i]? = some v ∧ RU K H m u v
  | [], vs, i, u, h, e => by simp at e
  | x :: xs, vs, i, u, h, e => by
    simp only [RUs] at h
    obtain ⟨y, ys, e1, a, b⟩ := h
    subst e1
    cases i with
    | zero => simp at e; subst e; exact ⟨y, rfl, a⟩
    | succ i =>
      obtain ⟨v, h1, h2⟩ := RUs.get b (i := i) (u := u) (by simpa using e)
      exact ⟨v, by simpa using h1, h2⟩
theorem RUs.append : ∀ {us us' : List U} {vs vs' : List V}, RUs K H m us vs → RUs K H m us' vs' → RUs K H m (us ++ us') (vs ++ vs')
  | [], us', vs, vs', h, h' => by simp only [RUs] at h; subst h; exact h'
  | x :: xs, us', vs, vs', h, h' => by
    simp only [RUs] at h
    obtain ⟨y, ys, e, a, b⟩ := h
    subst e
    show RUs K H m (x :: (xs ++ us')) (y :: (ys ++ vs'))
    simp only [RUs]
    exact ⟨y, _, rfl, a, RUs.append b h'⟩
theorem RUs.nil : RUs K H m [] [] := by simp only [RUs]
theorem RUs.cons {x : U} {y : V} {xs : List U} {ys : List V} (a : RU K H m x y) (b : RUs K H m xs ys) : RUs K H m (x :: xs) (y :: ys) := by
  simp only [RUs]
  exact ⟨y, ys, rfl, a, b⟩
theorem RUs.one {x : U} {y : V} (a : RU K H m x y) : RUs K H m [x] [y] := .cons a .nil
theorem RUs.take : ∀ (n : Nat) {us : List U} {vs : List V}, RUs K H m us vs → RUs K H m (us.take n) (vs.take n)
  | 0, us, vs, h => by simp [RUs]
  | n + 1, [], vs, h => by simp only [RUs] at h; subst h; simp [RUs]
  | n + 1, x :: xs, vs, h => by
    simp only [RUs] at h
    obtain ⟨y, ys, e, a, b⟩ := h
    subst e
    exact .cons a (RUs.take n b)
theorem RUs.drop : ∀ (n : Nat) {us : List U} {vs : List V}, RUs K H m us vs → RUs K H m (us.drop n) (vs.drop n)
  | 0, us, vs, h => h
  | n + 1, [], vs, h => by simp only [RUs] at h; subst h; simp [RUs]
  | n + 1, x :: xs, vs, h => by
    simp only [RUs] at h
    obtain ⟨y, ys, e, a, b⟩ := h
    subst e
    exact RUs.drop n b
theorem RUs.set {x : U} {y : V} (a : RU K H m x y) : ∀ (i : Nat) {us : List U} {vs : List V}, RUs K H m us vs → RUs K H m (us.set i x) (vs.set i y)
  | i, [], vs, h => by simp only [RUs] at h; subst h; simp [RUs]
  | 0, z :: zs, vs, h => by
    simp only [RUs] at h
    obtain ⟨y', ys, e, _, b⟩ := h
    subst e
    exact .cons a b
  | i + 1, z :: zs, vs, h => by
    simp only [RUs] at h
    obtain ⟨y', ys, e, a', b⟩ := h
    subst e
    exact .cons a' (RUs.set a i b)
theorem RUs.reverse : ∀ {us : List U} {vs : List V}, RUs K H m us vs → RUs K H m us.reverse vs.reverse
  | [], vs, h => by simp only [RUs] at h; subst h; simp [RUs]
  | x :: xs, vs, h => by
    simp only [RUs] at h
    obtain ⟨y, ys, e, a, b⟩ := h
    subst e
    rw [List.reverse_cons, List.reverse_cons]
    exact (RUs.reverse b).append (.one a)
theorem RUs.rep {us : List U} {vs : List V} (h : RUs K H m us vs) : ∀ n : Nat, RUs K H m (List.replicate n us).flatten (List.replicate n vs).flatten
  | 0 => by simp [RUs]
  | n + 1 => by
    rw [List.replicate_succ, List.replicate_succ, List.flatten_cons, List.flatten_cons]
    exact h.append (RUs.rep h n)
theorem RU.int {i : Int} {v : V} : RU K H m (.int i) v ↔ v = .int i := by simp only [RU]
theorem RU.bl {i : Bool} {v : V} : RU K H m (.bl i) v ↔ v = .bl i := by simp only [RU]
theorem RU.str {i : List Nat} {v : V} : RU K H m (.str i) v ↔ v = .str (ts i) := by simp only [RU]
theorem RU.non {v : V} : RU K H m .non v ↔ v = .non := by simp only [RU]
theorem RU.ref {i : Nat} {v : V} : RU K H m (.ref i) v ↔ ∃ a, m i = some a ∧ v = .ref a := by simp only [RU]
theorem RU.tup {xs : List U} {v : V} : RU K H m (.tup xs) v ↔ ∃ a vs, v = .ref a ∧ SqT K H a vs ∧ RUs K H m xs vs := by simp only [RU]
theorem RUs.one_inv {x : U} {vs : List V} (h : RUs K H m [x] vs) : ∃ y, vs = [y] ∧ RU K H m x y := by
  simp only [RUs] at h
  obtain ⟨y, ys, e, a, b⟩ := h
  subst b
  exact ⟨y, e, a⟩
theorem RUs.cons_inv {x : U} {xs : List U} {vs : List V} (h : RUs K H m (x :: xs) vs) : ∃ y ys, vs = y :: ys ∧ RU K H m x y ∧ RUs K H m xs ys := by
  simpa only [RUs] using h
theorem RUs.two_inv {x x' : U} {vs : List V} (h : RUs K H m [x, x'] vs) : ∃ y y', vs = [y, y'] ∧ RU K H m x y ∧ RU K H m x' y' := by
  obtain ⟨y, ys, e, a, b⟩ := RUs.cons_inv h
  obtain ⟨y', e', a'⟩ := RUs.one_inv b
  subst e'
  exact ⟨y, y', e, a, a'⟩
theorem RUs.three_inv {x x' x'' : U} {vs : List V} (h : RUs K H m [x, x', x''] vs) : ∃ y y' y'', vs = [y, y', y''] ∧ RU K H m x y ∧ RU K H m x' y' ∧ RU K H m x'' y'' := by
  obtain ⟨y, ys, e, a, b⟩ := RUs.cons_inv h
  obtain ⟨y', y'', e', a', b'⟩ := RUs.two_inv b
  subst e'
  exact ⟨y, y', y'', e, a, a', b'⟩

theorem Rel.lst {i : Nat} {a : Addr} {xs : List U} (r : Rel K m h H) (hm : m i = some a) (hi : h[i]? = some (.lst xs)) : ∃ vs, H a = some (.lst vs) ∧ RUs K H m xs vs := by
  obtain ⟨o, e, q⟩ := r.ob i a hm
  rw [hi] at e; cases e
  exact q
theorem Rel.frz {i : Nat} {a : Addr} {xs : List U} (r : Rel K m h H) (hm : m i = some a) (hi : h[i]? = some (.frz xs)) : ∃ vs, FrzL K H a vs ∧ RUs K H m xs vs := by
  obtain ⟨o, e, q⟩ := r.ob i a hm
  rw [hi] at e; cases e
  exact q
theorem Rel.dic {i : Nat} {a : Addr} {xs : List (U × U)} (r : Rel K m h H) (hm : m i = some a) (hi : h[i]? = some (.dic xs)) : ∃ vs, H a = some (.dK vs) ∧ RKv K H m xs vs := by
  obtain ⟨o, e, q⟩ := r.ob i a hm
  rw [hi] at e; cases e
  exact q
/-- a list or tuple that is read -/
theorem Rel.items {u : U} {v : V} {xs : List U} (r : Rel K m h H) (ru : RU K H m u v) (e : Mp.items h u = some xs) : ∃ a vs, v = .ref a ∧ (SqL K H a vs ∨ SqT K H a vs) ∧ RUs K H m xs vs := by
  cases u with
  | tup ys =>
    simp only [Mp.items] at e; cases e
    obtain ⟨a, vs, e, q, s⟩ := RU.tup.mp ru
    exact ⟨a, vs, e, .inr q, s⟩
  | ref i =>
    obtain ⟨a, hm, rfl⟩ := RU.ref.mp ru
    simp only [Mp.items] at e
    cases hi : h[i]? with
    | none => rw [hi] at e; cases e
    | some o =>
      rw [hi] at e
      cases o with
      | lst ys => cases e; obtain ⟨vs, p, q⟩ := r.lst hm hi; exact ⟨a, vs, rfl, .inl (SqL.of p), q⟩
      | frz ys => cases e; obtain ⟨vs, p, q⟩ := r.frz hm hi; exact ⟨a, vs, rfl, .inl p.sq, q⟩
      | dic ys => cases e
  | _ => simp only [Mp.items] at e; cases e
theorem Rel.itemsL {i : Nat} {v : V} {xs : List U} (r : Rel K m h H) (ru : RU K H m (.ref i) v) (e : Mp.items h (.ref i) = some xs) : ∃ a vs, v = .ref a ∧ SqL K H a vs ∧ RUs K H m xs vs := by
  obtain ⟨a, hm, rfl⟩ := RU.ref.mp ru
  simp only [Mp.items] at e
  cases hi : h[i]? with
  | none => rw [hi] at e; cases e
  | some o =>
    rw [hi] at e
    cases o with
    | lst ys => cases e; obtain ⟨vs, p, q⟩ := r.lst hm hi; exact ⟨a, vs, rfl, SqL.of p, q⟩
    | frz ys => cases e; obtain ⟨vs, p, q⟩ := r.frz hm hi; exact ⟨a, vs, rfl, p.sq, q⟩
    | dic ys => cases e
theorem Rel.lt {i : Nat} {a : Addr} (r : Rel K m h H) (hm : m i = some a) : i < h.length := by
  obtain ⟨o, e, _⟩ := r.ob i a hm
  exact (List.getElem?_eq_some_iff.mp e).1
def mset (m : Mm) (n : Nat) (p : Addr) : Mm := fun i => if i = n then some p else m i
theorem mset_self {n : Nat} {p : Addr} : mset m n p n = some p := if_pos rfl
theorem mset_ne {n i : Nat} {p : Addr} (h : i ≠ n) : mset m n p i = m i := if_neg h
theorem Rel.goNew {p : Addr} {o : HO} (r : Rel K m h H) (hp : H p = none) : Go m H (mset m h.length p) (upd H p o) :=
  ⟨fun i a e => by rw [mset_ne (Nat.ne_of_lt (r.lt e))]; exact e, Ext.upd_new hp⟩
theorem RO.keep {o : O} {a : Addr} (g : Go m H m' H') (q : RO K H m o a) (ha : o.mu = true → H' a = H a) : RO K H' m' o a := by
  cases o with
  | lst xs => obtain ⟨vs, e, s⟩ := q; exact ⟨vs, by rw [ha rfl]; exact e, s.go g⟩
  | frz xs => obtain ⟨vs, e, s⟩ := q; exact ⟨vs, e.ext g.ext, s.go g⟩
  | dic xs => obtain ⟨vs, e, s⟩ := q; exact ⟨vs, by rw [ha rfl]; exact e, s.go g⟩
theorem RO.there {o : O} {a : Addr} (q : RO K H m o a) (hm : o.mu = true) : ∃ z, H a = some z := by
  cases o with
  | lst xs => obtain ⟨vs, e, s⟩ := q; exact ⟨_, e⟩
  | frz xs => cases hm
  | dic xs => obtain ⟨vs, e, s⟩ := q; exact ⟨_, e⟩
/-- a new object -/
theorem Rel.new {p : Addr} {o : O} {ho : HO} (r : Rel K m h H) (hp : H p = none) (q : RO K (upd H p ho) (mset m h.length p) o p) : Rel K (mset m h.length p) (h ++ [o]) (upd H p ho) := by
  have g := r.goNew (o := ho) hp
  have old : ∀ i a, i ≠ h.length → mset m h.length p i = some a → m i = some a := fun i a n e => by rwa [mset_ne n] at e
  refine ⟨fun i a e => ?_, fun i j a oi oj e1 e2 h1 h2 m1 m2 => ?_⟩
  · by_cases hi : i = h.length
    · subst hi
      rw [mset_self] at e; cases e
      exact ⟨o, List.getElem?_concat_length, q⟩
    · obtain ⟨o', e', q'⟩ := r.ob i a (old i a hi e)
      refine ⟨o', by rw [List.getElem?_append_left (List.getElem?_eq_some_iff.mp e').1]; exact e', q'.keep g fun hm => ?_⟩
      obtain ⟨z, hz⟩ := q'.there hm
      exact upd_ne (ne_of_none hz hp)
  · have key : ∀ i a oi, i ≠ h.length → mset m h.length p i = some a → (h ++ [o])[i]? = some oi → oi.mu = true → a ≠ p := fun i a oi n e e' hm => by
      have e1 := old i a n e
      obtain ⟨o', e2, q'⟩ := r.ob i a e1
      rw [List.getElem?_append_left (List.getElem?_eq_some_iff.mp e2).1, e2] at e'
      cases e'
      obtain ⟨z, hz⟩ := q'.there hm
      exact ne_of_none hz hp
    by_cases hi : i = h.length
    · by_cases hj : j = h.length
      · rw [hi, hj]
      · subst hi
        rw [mset_self] at e1; cases e1
        exact absurd rfl (key j p oj hj e2 h2 m2)
    · by_cases hj : j = h.length
      · subst hj
        rw [mset_self] at e2; cases e2
        exact absurd rfl (key i p oi hi e1 h1 m1)
      · have f1 := old i a hi e1
        have f2 := old j a hj e2
        rw [List.getElem?_append_left (r.lt f1)] at h1
        rw [List.getElem?_append_left (r.lt f2)] at h2
        exact r.inj i j a oi oj f1 f2 h1 h2 m1 m2
/-- an object written -/
theorem Rel.put {i : Nat} {a : Addr} {o o' : O} {ho : HO} (r : Rel K m h H) (hm : m i = some a) (hi : h[i]? = some o) (mu : o.mu = true) (x : Ext H (upd H a ho)) (q : RO K (upd H a ho) m o' a) (mu' : o'.mu = true) : Rel K m (h.set i o') (upd H a ho) := by
  have hlt := (List.getElem?_eq_some_iff.mp hi).1
  refine ⟨fun j b e => ?_, fun j k b oj ok e1 e2 h1 h2 m1 m2 => ?_⟩
  · by_cases hj : j = i
    · subst hj
      rw [hm] at e; cases e
      exact ⟨o', List.getElem?_set_self hlt, q⟩
    · obtain ⟨p, e', q'⟩ := r.ob j b e
      refine ⟨p, by rw [List.getElem?_set_ne (Ne.symm hj)]; exact e', q'.keep ⟨fun _ _ e => e, x⟩ fun hmu => upd_ne ?_⟩
      rintro rfl
      exact hj (r.inj j i b p o e hm e' hi hmu mu)
  · have f : ∀ (j : Nat) (oj : O), (h.set i o')[j]? = some oj → oj.mu = true → ∃ p : O, h[j]? = some p ∧ p.mu = true := fun j oj e hmu => by
      by_cases hj : j = i
      · subst hj; exact ⟨o, hi, mu⟩
      · rw [List.getElem?_set_ne (Ne.symm hj)] at e
        exact ⟨oj, e, hmu⟩
    obtain ⟨p1, g1, n1⟩ := f j oj h1 m1
    obtain ⟨p2, g2, n2⟩ := f k ok h2 m2
    exact r.inj j k b p1 p2 e1 e2 g1 g2 n1 n2
end
end Mp

set_option Elab.async false
set_option linter.all false
set_option maxRecDepth 100000
namespace Mp
open PySem PySem.Spec PyProof.Rows L2 TL

structure RSt (K : PySem.W.Frag) (H : AH) (m : Mm) (r : En) (σ : L2.St) : Prop where
  len : r.length = σ.length
  at_ : ∀ (i : Nat) (u : U), r[i]? = some (some u) → ∃ v, σ[i]? = some (some v) ∧ RU K H m u v
section
variable {K : PySem.W.Frag} {H H' : AH} {m m' : Mm} {h h' : Hm} {r : En} {σ : L2.St}
theorem RSt.go (g : Go m H m' H') (x : RSt K H m r σ) : RSt K H' m' r σ :=
  ⟨x.len, fun i u e => let ⟨v, a, b⟩ := x.at_ i u e; ⟨v, a, b.go g⟩⟩
theorem RSt.set {u : U} {v : V} (x : RSt K H m r σ) (i : Nat) (ru : RU K H m u v) : RSt K H m (r.set i (some u)) (σ.set i (some v)) := by
  refine ⟨by simp [x.len], fun j w e => ?_⟩
  by_cases hj : i = j
  · subst hj
    have hl : i < r.length := by
      have := (List.getElem?_eq_some_iff.mp e).1
      simpa using this
    rw [List.getElem?_set_self hl] at e
    cases e
    exact ⟨v, List.getElem?_set_self (by rw [← x.len]; exact hl), ru⟩
  · rw [List.getElem?_set_ne hj] at e ⊢
    exact x.at_ j w e
theorem RSt.wipe (x : RSt K H m r σ) : ∀ vs : List Nat, RSt K H m (Mp.wipe r vs) (L2.wipe σ vs)
  | [] => x
  | v :: vs => by
    have ih := RSt.wipe x vs
    unfold Mp.wipe L2.wipe
    refine ⟨by simp [ih.len], fun j w e => ?_⟩
    by_cases hj : v = j
    · subst hj
      have hl : v < (Mp.wipe r vs).length := by
        have := (List.getElem?_eq_some_iff.mp e).1
        simpa using this
      rw [List.getElem?_set_self hl] at e
      cases e
    · rw [List.getElem?_set_ne hj] at e ⊢
      exact ih.at_ j w e
end

/-- what is read by a run of the small language -/
def tG {α β : Type} (K : PySem.W.Frag) (rel : AH → Mm → α → β → Prop) (f : En → Hm → R α) (σ : L2.St) (H : AH) (Q : β → AH → Prop) : Prop :=
  ∃ m r h a h', RSt K H m r σ ∧ Rel K m h H ∧ f r h = .ok a h' ∧ ∀ m' H' b, Go m H m' H' → Rel K m' h' H' → rel H' m' a b → Q b H'

section
variable (K : PySem.W.Frag) (cl : Nat → List U → Hm → R U)
def tS (x : Ex) : TE := fun σ H Q => tG K (RU K) (ev cl x) σ H Q
def tSs (x : Exs) : TA := fun σ H Q => tG K (RUs K) (evs cl x) σ H Q
def tT (x : Ts) : TT := fun σ H Q => tG K (fun _ _ (a b : Bool) => a = b) (tst cl x) σ H Q
/-- an operation, by values -/
def rP (f : List U → Hm → R U) : List V → AH → VK → Prop := fun vs H Q =>
  ∃ m h us u h', Rel K m h H ∧ RUs K H m us vs ∧ f us h = .ok u h' ∧ ∀ m' H' v, Go m H m' H' → Rel K m' h' H' → RU K H' m' u v → Q v H'
end

theorem R.bind_inv {α β : Type} {x : R α} {f : α → Hm → R β} {b : β} {h : Hm} (e : x.bind f = .ok b h) : ∃ a h1, x = .ok a h1 ∧ f a h1 = .ok b h := by
  cases x with
  | ok a h1 => exact ⟨a, h1, rfl, e⟩
  | exc _ _ => cases e
  | bad => cases e
theorem gd_inv {α : Type} {c : Bool} {x : R α} {b : α} {h : Hm} (e : gd c x = .ok b h) : c = true ∧ x = .ok b h := by
  cases c with
  | true => exact ⟨rfl, e⟩
  | false => cases e

section
variable {X : Cx} {e : Expr}
theorem _root_.L2.PE.weak {t t' : TE} (h : PE X e t) (w : ∀ σ H Q, t' σ H Q → t σ H Q) : PE X e t' := ⟨fun pins s σ H Q I q => h.run pins s σ H Q I (w σ H Q q)⟩
theorem _root_.L2.PT.weak {t t' : TT} (h : PT X e t) (w : ∀ σ H Q, t' σ H Q → t σ H Q) : PT X e t' := ⟨fun pins s σ H Q I q => h.run pins s σ H Q I (w σ H Q q)⟩
theorem _root_.L2.PW.weak {t t' : TT} (h : PW X e t) (w : ∀ σ H Q, t' σ H Q → t σ H Q) : PW X e t' := ⟨fun wh pins s σ H Q I q => h.run wh pins s σ H Q I (w σ H Q q)⟩
theorem _root_.L2.PA.weak {l : List Expr} {t t' : TA} (h : PA X l t) (w : ∀ σ H Q, t' σ H Q → t σ H Q) : PA X l t' := ⟨fun pos pins s σ H Q I q => h.run pos pins s σ H Q I (w σ H Q q)⟩
theorem _root_.L2.PS.weak {st : Stmt} {t t' : TS} (h : PS X st t) (w : ∀ D σ H, t' D σ H → t D σ H) : PS X st t' := ⟨fun pins s σ H D I q => h.run pins s σ H D I (w D σ H q)⟩
theorem _root_.L2.PSs.weak {st : List Stmt} {t t' : TS} (h : PSs X st t) (w : ∀ D σ H, t' D σ H → t D σ H) : PSs X st t' := ⟨fun pins s σ H D I q => h.run pins s σ H D I (w D σ H q)⟩
end

section
variable {K : PySem.W.Frag} {cl : Nat → List U → Hm → R U} {σ : L2.St} {H : AH}
/-- one after another -/
theorem tG.seq {α β γ δ : Type} {relA : AH → Mm → α → β → Prop} {relB : AH → Mm → γ → δ → Prop} {f : En → Hm → R α} {g : En → Hm → R γ} {k : α → En → Hm → R γ} {Q : δ → AH → Prop}
    (e : ∀ r h, g r h = (f r h).bind fun a h1 => k a r h1) (q : tG K relB g σ H Q) :
    tG K relA f σ H fun b H1 => ∃ m r h a c h', RSt K H1 m r σ ∧ Rel K m h H1 ∧ relA H1 m a b ∧ k a r h = .ok c h' ∧ ∀ m' H' d, Go m H1 m' H' → Rel K m' h' H' → relB H' m' c d → Q d H' := by
  obtain ⟨m, r, h, c, h', st, rl, ev, cont⟩ := q
  rw [e] at ev
  obtain ⟨a, h1, e1, e2⟩ := R.bind_inv ev
  exact ⟨m, r, h, a, h1, st, rl, e1, fun m1 H1 b go1 rl1 ra => ⟨m1, r, h1, a, c, h', st.go go1, rl1, ra, e2, fun m' H' d go2 rl2 rb => cont m' H' d (go1.trans go2) rl2 rb⟩⟩
theorem tG.mono {α β : Type} {rel : AH → Mm → α → β → Prop} {f : En → Hm → R α} {Q Q' : β → AH → Prop} (q : tG K rel f σ H Q) (w : ∀ b H, Q b H → Q' b H) : tG K rel f σ H Q' := by
  obtain ⟨m, r, h, a, h', st, rl, ev, cont⟩ := q
  exact ⟨m, r, h, a, h', st, rl, ev, fun m' H' b g x y => w _ _ (cont m' H' b g x y)⟩

theorem tSs_cons {e : Ex} {es : Exs} {Q : List V → AH → Prop} (q : tSs K cl (.cons e es) σ H Q) : tS K cl e σ H fun v H1 => tSs K cl es σ H1 fun vs H2 => Q (v :: vs) H2 := by
  refine (tG.seq (relA := RU K) (f := ev cl e) (k := fun u r h1 => (evs cl es r h1).bind fun us h2 => .ok (u :: us) h2) (fun r h => rfl) q).mono fun v H1 h1 => ?_
  obtain ⟨m, r, h, u, c, h', st, rl, ru, ek, cont⟩ := h1
  obtain ⟨us, h2, e1, e2⟩ := R.bind_inv ek
  cases e2
  exact ⟨m, r, h, us, _, st, rl, e1, fun m' H' vs g x y => cont m' H' (v :: vs) g x (.cons (ru.go g) y)⟩
theorem tSs_nil {Q : List V → AH → Prop} (q : tSs K cl .nil σ H Q) : Q [] H := by
  obtain ⟨m, r, h, a, h', st, rl, e, cont⟩ := q
  cases e
  exact cont m H [] Go.refl rl .nil
theorem tS_prim {p : List U → Hm → R U} {x : Ex} {es : Exs} {Q : VK} (e : ∀ r h, ev cl x r h = (evs cl es r h).bind fun us h1 => p us h1) (q : tS K cl x σ H Q) : tSs K cl es σ H fun vs H1 => rP K p vs H1 Q := by
  refine (tG.seq (relA := RUs K) (f := evs cl es) (k := fun us r h1 => p us h1) e q).mono fun vs H1 h1 => ?_
  obtain ⟨m, r, h, us, c, h', st, rl, ru, ek, cont⟩ := h1
  exact ⟨m, h, us, c, h', rl, ru, ek, fun m' H' v g x y => cont m' H' v g x y⟩
/-- the arguments one by one -/
def tEach (K : PySem.W.Frag) (cl : Nat → List U → Hm → R U) : Exs → L2.St → AH → (List V → AH → Prop) → Prop
  | .nil, _, H, Q => Q [] H
  | .cons e es, σ, H, Q => tS K cl e σ H fun v H1 => tEach K cl es σ H1 fun vs H2 => Q (v :: vs) H2
theorem tEach_of : ∀ {es : Exs} {σ : L2.St} {H : AH} {Q : List V → AH → Prop}, tSs K cl es σ H Q → tEach K cl es σ H Q
  | .nil, σ, H, Q, q => tSs_nil q
  | .cons e es, σ, H, Q, q => tG.mono (tSs_cons q) fun v H1 q1 => tEach_of q1
end

def nostar : Expr → Bool
  | .Starred _ _ => false
  | _ => true
theorem star_cons {e : Expr} {es : List Expr} {env : Env} (h : nostar e = true) : starEach (e :: es) env = (false, eval e env) :: starEach es env := by
  cases e <;> first | rfl | cases h
theorem star_none : ∀ {es : List Expr} {env : Env} {pos : Pos}, es.all nostar = true → (backTo pos (starEach es env)).any (·.1) = false
  | [], _, _, _ => rfl
  | e :: es, env, pos, h => by
    rw [List.all_cons, Bool.and_eq_true] at h
    rw [star_cons h.1]
    have ih := star_none (env := env) (pos := pos) h.2
    unfold backTo at ih ⊢
    rw [List.map_cons, List.any_cons]
    simpa using ih
/-- each of the expressions is read as its own -/
inductive PEs (X : Cx) (cl : Nat → List U → Hm → R U) : Exs → List Expr → Prop
  | nil : PEs X cl .nil []
  | cons {x : Ex} {xs : Exs} {e : Expr} {es : List Expr} : nostar e = true → PE X e (tS X.K cl x) → PEs X cl xs es → PEs X cl (.cons x xs) (e :: es)
section
variable {X : Cx} {cl : Nat → List U → Hm → R U}
theorem PEs.stars {xs : Exs} {es : List Expr} (h : PEs X cl xs es) : es.all nostar = true := by
  induction h with
  | nil => rfl
  | cons a _ _ ih => rw [List.all_cons, a, ih]; rfl
theorem PEs.pa {xs : Exs} {es : List Expr} (h : PEs X cl xs es) : PA X es (tSs X.K cl xs) := by
  induction h with
  | nil => exact L2.PA.weak pa_nil fun σ H Q q => tSs_nil q
  | cons a b c ih => exact L2.PA.weak (pa_cons b ih (star_cons a)) fun σ H Q q => tSs_cons q
theorem PEs.one {xs : Exs} {e : Expr} (h : PEs X cl xs [e]) : ∃ x, xs = .cons x .nil ∧ PE X e (tS X.K cl x) := by
  cases h with
  | cons a b c => cases c; exact ⟨_, rfl, b⟩
theorem PEs.two {xs : Exs} {e f : Expr} (h : PEs X cl xs [e, f]) : ∃ x y, xs = .cons x (.cons y .nil) ∧ PE X e (tS X.K cl x) ∧ PE X f (tS X.K cl y) := by
  cases h with
  | cons a b c =>
    obtain ⟨y, rfl, d⟩ := c.one
    exact ⟨_, y, rfl, b, d⟩
theorem PEs.three {xs : Exs} {e f g : Expr} (h : PEs X cl xs [e, f, g]) : ∃ x y z, xs = .cons x (.cons y (.cons z .nil)) ∧ PE X e (tS X.K cl x) ∧ PE X f (tS X.K cl y) ∧ PE X g (tS X.K cl z) := by
  cases h with
  | cons a b c =>
    obtain ⟨y, z, rfl, d, e⟩ := c.two
    exact ⟨_, y, z, rfl, b, d, e⟩
theorem PEs.head {xs : Exs} {e : Expr} {es : List Expr} (h : PEs X cl xs (e :: es)) : ∃ x ys, xs = .cons x ys ∧ PE X e (tS X.K cl x) ∧ PEs X cl ys es ∧ nostar e = true := by
  cases h with
  | cons a b c => exact ⟨_, _, rfl, b, c, a⟩
end

section
variable {X : Cx} {cl : Nat → List U → Hm → R U} {pos : Pos} {cond : Expr}
theorem snd_cst {e : Expr} {u : U} {v : V} (hv : ∀ H m, RU X.K H m u v) (h : PE X e (tC v)) : PE X e (tS X.K cl (.cst u)) :=
  h.weak fun σ H Q ⟨m, r, hp, a, h', st, rl, e, cont⟩ => by cases e; exact cont m H v Go.refl rl (hv H m)
theorem snd_var {i : Nat} {x : Str} (hN : X.N[i]? = some x) (hv : Vis X.env.scope x) (hd : (x == ("__debug__" : Str)) = false) (hcd : (x == ("__classdict__" : Str)) = false) : PE X (.Name x pos) (tS X.K cl (.var i)) :=
  (pe_var hN hv hd hcd).weak fun σ H Q ⟨m, r, hp, a, h', st, rl, e, cont⟩ => by
    simp only [ev] at e
    split at e
    · rename_i u hu
      cases e
      obtain ⟨v, h1, h2⟩ := st.at_ i _ hu
      exact ⟨v, h1, cont m H v Go.refl rl h2⟩
    · cases e
variable {a b : Expr} {x y : Ex} {t : Ts}
theorem snd_ite (hc : PT X cond (tT X.K cl t)) (ha : PE X a (tS X.K cl x)) (hb : PE X b (tS X.K cl y)) : PE X (.IfExp cond a b pos) (tS X.K cl (.ite t x y)) :=
  (pe_ifExp hc ha hb).weak fun σ H Q q => by
    refine (tG.seq (relA := fun _ _ (a b : Bool) => a = b) (f := tst cl t) (k := fun c r h1 => if c = true then ev cl x r h1 else ev cl y r h1) (fun r h => rfl) q).mono fun c H1 h1 => ?_
    obtain ⟨m, r, h, c', u, h', st, rl, rfl, ek, cont⟩ := h1
    cases c' with
    | true => exact ⟨m, r, h, u, h', st, rl, ek, cont⟩
    | false => exact ⟨m, r, h, u, h', st, rl, ek, cont⟩
/-- truth -/
theorem truthy_V {K : PySem.W.Frag} {H : AH} {m : Mm} {h : Hm} {u : U} {v : V} {b : Bool} (rl : Rel K m h H) (ru : RU K H m u v) (e : Mp.truthy h u = some b) : TruV K v H b := by
  cases u with
  | non => rw [RU.non] at ru; subst ru; cases e; rfl
  | bl c => rw [RU.bl] at ru; subst ru; cases e; rfl
  | int i => rw [RU.int] at ru; subst ru; cases e; rfl
  | str s =>
    rw [RU.str] at ru; subst ru
    simp only [Mp.truthy] at e
    split at e
    · rename_i hs
      cases e
      refine ⟨by rw [ts_len, sizeLine_eq]; exact hs, ?_⟩
      rw [ts_len]
      cases s with
      | nil => rfl
      | cons c r =>
        show true = ((((c :: r).length : Nat) : Int) != 0)
        rw [List.length_cons]
        symm
        simp only [bne_iff_ne, ne_eq]
        omega
    · cases e
  | tup xs =>
    obtain ⟨a, vs, rfl, q, rs⟩ := RU.tup.mp ru
    cases e
    refine .inr (.inl ⟨vs, q, ?_⟩)
    have hl := rs.length
    cases xs <;> cases vs <;> simp at hl ⊢
  | ref i =>
    obtain ⟨a, hm, rfl⟩ := RU.ref.mp ru
    simp only [Mp.truthy] at e
    have fin : ∀ {xs : List U} {vs : List V}, RUs K H m xs vs → (!xs.isEmpty) = !vs.isEmpty := fun {xs vs} rs => by
      have hl := rs.length
      cases xs <;> cases vs <;> simp at hl ⊢
    cases hi : h[i]? with
    | none => rw [hi] at e; cases e
    | some o =>
      rw [hi] at e
      cases o with
      | lst xs =>
        cases e
        obtain ⟨vs, q, rs⟩ := rl.lst hm hi
        exact .inl ⟨vs, SqL.of q, fin rs⟩
      | frz xs =>
        cases e
        obtain ⟨vs, q, rs⟩ := rl.frz hm hi
        exact .inl ⟨vs, q.sq, fin rs⟩
      | dic kvs =>
        cases e
        obtain ⟨ws, q, rs⟩ := rl.dic hm hi
        refine .inr (.inr ⟨ws, q, ?_⟩)
        have hl := rs.length
        cases kvs <;> cases ws <;> simp at hl ⊢
theorem snd_and {rest : List Expr} (ha : PE X a (tS X.K cl x)) (hb : PE X (.BoolOp .And (b :: rest) pos) (tS X.K cl y)) : PE X (.BoolOp .And (a :: b :: rest) pos) (tS X.K cl (.andv x y)) :=
  (pe_andT ha hb).weak fun σ H Q q => by
    refine (tG.seq (relA := RU X.K) (f := ev cl x) (k := fun u r h1 => match Mp.truthy h1 u with
      | some true => ev cl y r h1
      | some false => .ok u h1
      | none => .bad) (fun r h => rfl) q).mono fun v H1 h1 => ?_
    obtain ⟨m, r, h, u, c, h', st, rl, ru, ek, cont⟩ := h1
    split at ek
    · rename_i ht
      exact ⟨true, truthy_V rl ru ht, iteT ⟨m, r, h, c, h', st, rl, ek, cont⟩⟩
    · rename_i ht
      cases ek
      exact ⟨false, truthy_V rl ru ht, iteF (cont m H1 v Go.refl rl ru)⟩
    · cases ek
theorem snd_or {rest : List Expr} (ha : PE X a (tS X.K cl x)) (hb : PE X (.BoolOp .Or (b :: rest) pos) (tS X.K cl y)) : PE X (.BoolOp .Or (a :: b :: rest) pos) (tS X.K cl (.orv x y)) :=
  (pe_orT ha hb).weak fun σ H Q q => by
    refine (tG.seq (relA := RU X.K) (f := ev cl x) (k := fun u r h1 => match Mp.truthy h1 u with
      | some true => .ok u h1
      | some false => ev cl y r h1
      | none => .bad) (fun r h => rfl) q).mono fun v H1 h1 => ?_
    obtain ⟨m, r, h, u, c, h', st, rl, ru, ek, cont⟩ := h1
    split at ek
    · rename_i ht
      cases ek
      exact ⟨true, truthy_V rl ru ht, iteT (cont m H1 v Go.refl rl ru)⟩
    · rename_i ht
      exact ⟨false, truthy_V rl ru ht, iteF ⟨m, r, h, c, h', st, rl, ek, cont⟩⟩
    · cases ek
theorem snd_val (ha : PE X a (tS X.K cl x)) (he : ∀ whole, isTrue a X.env whole = (do let v ← whole; standAt a.pos; holding [v] (PySem.truthy v))) : PT X a (tT X.K cl (.val x)) :=
  (pt_truth ha he).weak fun σ H Q q => by
    refine (tG.seq (relA := RU X.K) (f := ev cl x) (k := fun u r h1 => match Mp.truthy h1 u with
      | some b => .ok b h1
      | none => .bad) (fun r h => rfl) q).mono fun v H1 h1 => ?_
    obtain ⟨m, r, h, u, c, h', st, rl, ru, ek, cont⟩ := h1
    split at ek
    · rename_i b ht
      cases ek
      exact ⟨_, truthy_V rl ru ht, cont m H1 _ Go.refl rl rfl⟩
    · cases ek
variable {s t' : Ts}
theorem snd_not (ha : PT X a (tT X.K cl t)) : PT X (.UnaryOp .Not a pos) (tT X.K cl (.not t)) :=
  (pt_not ha).weak fun σ H Q q => by
    refine (tG.seq (relA := fun _ _ (a b : Bool) => a = b) (f := tst cl t) (k := fun c r h1 => .ok (!c) h1) (fun r h => rfl) q).mono fun c H1 h1 => ?_
    obtain ⟨m, r, h, c', u, h', st, rl, rfl, ek, cont⟩ := h1
    cases ek
    exact cont m H1 _ Go.refl rl rfl
theorem snd_andT {rest : List Expr} (ha : PT X a (tT X.K cl s)) (hb : PW X (.BoolOp .And (b :: rest) pos) (tT X.K cl t)) : PW X (.BoolOp .And (a :: b :: rest) pos) (tT X.K cl (.and s t)) :=
  (pw_and ha hb).weak fun σ H Q q => by
    refine (tG.seq (relA := fun _ _ (a b : Bool) => a = b) (f := tst cl s) (k := fun c r h1 => if c = true then tst cl t r h1 else .ok false h1) (fun r h => rfl) q).mono fun c H1 h1 => ?_
    obtain ⟨m, r, h, c', u, h', st, rl, rfl, ek, cont⟩ := h1
    cases c' with
    | true => exact iteT ⟨m, r, h, u, h', st, rl, ek, cont⟩
    | false => cases ek; exact iteF (cont m H1 _ Go.refl rl rfl)
theorem snd_orT {rest : List Expr} (ha : PT X a (tT X.K cl s)) (hb : PW X (.BoolOp .Or (b :: rest) pos) (tT X.K cl t)) : PW X (.BoolOp .Or (a :: b :: rest) pos) (tT X.K cl (.or s t)) :=
  (pw_or ha hb).weak fun σ H Q q => by
    refine (tG.seq (relA := fun _ _ (a b : Bool) => a = b) (f := tst cl s) (k := fun c r h1 => if c = true then .ok true h1 else tst cl t r h1) (fun r h => rfl) q).mono fun c H1 h1 => ?_
    obtain ⟨m, r, h, c', u, h', st, rl, rfl, ek, cont⟩ := h1
    cases c' with
    | true => cases ek; exact iteT (cont m H1 _ Go.refl rl rfl)
    | false => exact iteF ⟨m, r, h, u, h', st, rl, ek, cont⟩
end
end Mp

set_option Elab.async false
set_option linter.all false
set_option maxRecDepth 100000
namespace Mp
open PySem PySem.Spec PyProof.Rows L2 TL

section
variable {K : PySem.W.Frag} {m : Mm} {h : Hm} {H : AH} {Q : VK} {u : U} {h' : Hm}
abbrev Cont (K : PySem.W.Frag) (m : Mm) (H : AH) (u : U) (h' : Hm) (Q : VK) : Prop := ∀ m' H' v, Go m H m' H' → Rel K m' h' H' → RU K H' m' u v → Q v H'
theorem Cont.int {i : Int} (k : Cont K m H (.int i) h Q) (rl : Rel K m h H) : Q (.int i) H := k m H _ Go.refl rl (RU.int.mpr rfl)
theorem Cont.bl {i : Bool} (k : Cont K m H (.bl i) h Q) (rl : Rel K m h H) : Q (.bl i) H := k m H _ Go.refl rl (RU.bl.mpr rfl)
theorem Cont.non (k : Cont K m H .non h Q) (rl : Rel K m h H) : Q .non H := k m H _ Go.refl rl (RU.non.mpr rfl)
theorem Cont.str {i : List Nat} (k : Cont K m H (.str i) h Q) (rl : Rel K m h H) : Q (.str (ts i)) H := k m H _ Go.refl rl (RU.str.mpr rfl)
theorem Cont.same {u : U} {v : V} (k : Cont K m H u h Q) (rl : Rel K m h H) (ru : RU K H m u v) : Q v H := k m H v Go.refl rl ru
theorem Cont.newL {xs : List U} {vs : List V} (k : Cont K m H (.ref h.length) (h ++ [.lst xs]) Q) (rl : Rel K m h H) (rs : RUs K H m xs vs) : ∀ p, H p = none → Q (.ref p) (upd H p (.lst vs)) := fun p hp => by
  have g := rl.goNew (o := HO.lst vs) hp
  exact k _ _ _ g (rl.new hp ⟨vs, upd_same, rs.go g⟩) (RU.ref.mpr ⟨p, mset_self, rfl⟩)
theorem Cont.newT {xs : List U} {vs : List V} (k : Cont K m H (.tup xs) h Q) (rl : Rel K m h H) (rs : RUs K H m xs vs) : ∀ p, H p = none → Q (.ref p) (upd H p (.tup vs)) := fun p hp => by
  have g : Go m H m (upd H p (.tup vs)) := ⟨fun _ _ e => e, Ext.upd_new hp⟩
  refine k m _ _ g ⟨fun i a e => ?_, rl.inj⟩ (RU.tup.mpr ⟨p, vs, rfl, SqT.of upd_same, rs.go g⟩)
  obtain ⟨o, e1, q⟩ := rl.ob i a e
  refine ⟨o, e1, q.keep g fun hm => ?_⟩
  obtain ⟨z, hz⟩ := q.there hm
  exact upd_ne (ne_of_none hz hp)
theorem RUs.of_one {us : List U} {x : V} (r : RUs K H m us [x]) : ∃ a, us = [a] ∧ RU K H m a x := by
  cases us with
  | nil => simp [RUs] at r
  | cons a us =>
    obtain ⟨y, ys, e, r1, r2⟩ := r.cons_inv
    cases e
    cases us with
    | nil => exact ⟨a, rfl, r1⟩
    | cons b us => obtain ⟨z, zs, e, _⟩ := r2.cons_inv; cases e
theorem RUs.of_cons {us : List U} {x : V} {xs : List V} (r : RUs K H m us (x :: xs)) : ∃ a as, us = a :: as ∧ RU K H m a x ∧ RUs K H m as xs := by
  cases us with
  | nil => simp [RUs] at r
  | cons a us =>
    obtain ⟨y, ys, e, r1, r2⟩ := r.cons_inv
    cases e
    exact ⟨a, us, rfl, r1, r2⟩
theorem RUs.of_two {us : List U} {x y : V} (r : RUs K H m us [x, y]) : ∃ a b, us = [a, b] ∧ RU K H m a x ∧ RU K H m b y := by
  obtain ⟨a, as, rfl, r1, r2⟩ := r.of_cons
  obtain ⟨b, rfl, r3⟩ := r2.of_one
  exact ⟨a, b, rfl, r1, r3⟩
theorem RUs.of_three {us : List U} {x y z : V} (r : RUs K H m us [x, y, z]) : ∃ a b c, us = [a, b, c] ∧ RU K H m a x ∧ RU K H m b y ∧ RU K H m c z := by
  obtain ⟨a, as, rfl, r1, r2⟩ := r.of_cons
  obtain ⟨b, c, rfl, r3, r4⟩ := r2.of_two
  exact ⟨a, b, c, rfl, r1, r3, r4⟩
end
theorem sz_eq : SZ = sizeLine := by rw [sizeLine_eq]

section
variable {X : Cx}
theorem op_pAdd : OpR X (binaryOp .Add) (fun x y H Q => rP X.K pAdd [x, y] H Q) := by
  intro pins s σ H x y v u Q I rx ry hq
  obtain ⟨m, h, us, r, h', rl, ru, e, k⟩ := hq
  obtain ⟨a, b, rfl, r1, r2⟩ := ru.of_two
  cases a <;> cases b <;> try (exact nomatch (show R.bad = R.ok _ _ from e))
  case int.int i j =>
    cases (show R.ok (U.int (i + j)) h = _ from e)
    exact op_add pins s σ H x y v u Q I rx ry ⟨i, j, RU.int.mp r1, RU.int.mp r2, Cont.int k rl⟩
  case str.str i j =>
    obtain ⟨hg, e⟩ := gd_inv e
    cases e
    refine op_add_str pins s σ H x y v u Q I rx ry ⟨ts i, ts j, RU.str.mp r1, RU.str.mp r2, ?_, ?_⟩
    · rw [ts_len, ts_len, ← sz_eq]; exact of_decide_eq_true hg
    · rw [ts_append]; exact Cont.str k rl
  case tup.tup i j =>
    obtain ⟨hg, e⟩ := gd_inv e
    cases e
    have h3 : i.length + j.length ≤ SZ := of_decide_eq_true hg
    obtain ⟨p, vs, rfl, q1, s1⟩ := RU.tup.mp r1
    obtain ⟨p', vs', rfl, q2, s2⟩ := RU.tup.mp r2
    have l1 := s1.length
    have l2 := s2.length
    refine op_catA pins s σ H _ _ v u Q I rx ry ⟨p, p', vs, vs', rfl, rfl, q1, q2, by rw [← l1, ← l2, ← sz_eq]; exact h3, fun e => ?_, fun e1 e2 => ?_, fun _ _ p hp => Cont.newT k rl (s1.append s2) p hp⟩
    · subst e
      cases i with
      | cons _ _ => simp at l1
      | nil => exact Cont.same k rl r2
    · subst e2
      cases j with
      | cons _ _ => simp at l2
      | nil => rw [List.append_nil] at k; exact Cont.same k rl r1
  case ref.ref a b =>
    have e : (match Mp.items h (.ref a), Mp.items h (.ref b) with
      | some xs, some ys => gd (decide (xs.length + ys.length ≤ SZ)) (Mp.new h (.lst (xs ++ ys)))
      | _, _ => R.bad) = R.ok r h' := e
    split at e
    · next xs ys e1 e2 =>
      obtain ⟨hg, e⟩ := gd_inv e
      unfold Mp.new at e
      cases e
      have hz : xs.length + ys.length ≤ sizeLine := by rw [← sz_eq]; exact of_decide_eq_true hg
      obtain ⟨p, vs, rfl, q1, s1⟩ := rl.itemsL r1 e1
      obtain ⟨p', vs', rfl, q2, s2⟩ := rl.itemsL r2 e2
      have l1 := s1.length
      have l2 := s2.length
      cases rx
      cases ry
      obtain ⟨its, rv, ⟨o, n, ho, hc, hd, hdt⟩, hz1⟩ := I.list q1
      obtain ⟨its', rv', ⟨o', n', ho', hc', hd', hdt'⟩, hz2⟩ := I.list q2
      have w1 := rv.length
      have w2 := rv'.length
      obtain ⟨oc, od, oda, os⟩ := o
      obtain ⟨oc', od', oda', os'⟩ := o'
      simp only at hc hd hdt hc' hd' hdt'
      subst hc hd hdt hc' hd' hdt'
      refine concat_meets ⟨_, ho, rfl⟩ ⟨_, ho', rfl⟩ noFill_list_add seq_list_add PySem.F.slot_list_add PySem.F.entry_list_add (PySem.F.args_list_add_2 _ _)
        (list_addW p p' its.toArray its'.toArray n n' none none os os' (by simp only [List.size_toArray]; omega)) ⟨ho, ho', ?_⟩
      have ea : its.toArray ++ its'.toArray = (its ++ its').toArray := by simp
      rw [ea]
      exact ⟨.ref _, _, I.lnew (t' := s.toks) (rv.append rv') (by rw [List.length_append]; omega), rfl, Cont.newL k rl (s1.append s2) _ I.fresh⟩
    · cases e
theorem op_pSub : OpR X (binaryOp .Sub) (fun x y H Q => rP X.K pSub [x, y] H Q) := by
  intro pins s σ H x y v u Q I rx ry hq
  obtain ⟨m, h, us, r, h', rl, ru, e, k⟩ := hq
  obtain ⟨a, b, rfl, r1, r2⟩ := ru.of_two
  cases a <;> cases b <;> try (exact nomatch (show R.bad = R.ok _ _ from e))
  case int.int i j =>
    cases (show R.ok (U.int (i - j)) h = _ from e)
    exact op_sub pins s σ H x y v u Q I rx ry ⟨i, j, RU.int.mp r1, RU.int.mp r2, Cont.int k rl⟩
theorem op_pFdiv : OpR X (binaryOp .FloorDiv) (fun x y H Q => rP X.K pFdiv [x, y] H Q) := by
  intro pins s σ H x y v u Q I rx ry hq
  obtain ⟨m, h, us, r, h', rl, ru, e, k⟩ := hq
  obtain ⟨a, b, rfl, r1, r2⟩ := ru.of_two
  cases a <;> cases b <;> try (exact nomatch (show R.bad = R.ok _ _ from e))
  case int.int i j =>
    obtain ⟨hg, e⟩ := gd_inv e
    cases e
    simp only [Bool.and_eq_true, decide_eq_true_eq] at hg
    exact op_fdivW pins s σ H x y v u Q I rx ry ⟨i, j, RU.int.mp r1, RU.int.mp r2, hg, Cont.int k rl⟩
theorem op_pMod : OpR X (binaryOp .Mod) (fun x y H Q => rP X.K pMod [x, y] H Q) := by
  intro pins s σ H x y v u Q I rx ry hq
  obtain ⟨m, h, us, r, h', rl, ru, e, k⟩ := hq
  obtain ⟨a, b, rfl, r1, r2⟩ := ru.of_two
  cases a <;> cases b <;> try (exact nomatch (show R.bad = R.ok _ _ from e))
  case int.int i j =>
    obtain ⟨hg, e⟩ := gd_inv e
    cases e
    exact op_mod pins s σ H x y v u Q I rx ry ⟨i, j, RU.int.mp r1, RU.int.mp r2, of_decide_eq_true hg, Cont.int k rl⟩
theorem op_pPow : OpR X (binaryOp .Pow) (fun x y H Q => rP X.K pPow [x, y] H Q) := by
  intro pins s σ H x y v u Q I rx ry hq
  obtain ⟨m, h, us, r, h', rl, ru, e, k⟩ := hq
  obtain ⟨a, b, rfl, r1, r2⟩ := ru.of_two
  cases a <;> cases b <;> try (exact nomatch (show R.bad = R.ok _ _ from e))
  case int.int i j =>
    obtain ⟨hg, e⟩ := gd_inv e
    cases e
    simp only [Bool.and_eq_true, decide_eq_true_eq] at hg
    exact op_pow pins s σ H x y v u Q I rx ry ⟨i, j, RU.int.mp r1, RU.int.mp r2, ⟨hg.1.1, hg.1.2, hg.2⟩, Cont.int k rl⟩
theorem un_pNeg : UnR X (unaryOp .USub) (fun x H Q => rP X.K pNeg [x] H Q) := by
  intro pins s σ H x v Q I rx hq
  obtain ⟨m, h, us, r, h', rl, ru, e, k⟩ := hq
  obtain ⟨a, rfl, r1⟩ := ru.of_one
  cases a <;> try (exact nomatch (show R.bad = R.ok _ _ from e))
  case int i =>
    cases (show R.ok (U.int (-i)) h = _ from e)
    exact un_neg pins s σ H x v Q I rx ⟨i, RU.int.mp r1, Cont.int k rl⟩
theorem foldl_app : ∀ (l : List (Array Nat)) (acc : Array Nat), (l.foldl (· ++ ·) acc).toList = acc.toList ++ (l.map Array.toList).flatten
  | [], acc => by simp
  | a :: r, acc => by rw [List.foldl_cons, foldl_app r]; simp
theorem tl_mul (s : List Nat) (j : Int) : Txt.mul (ts s) j = ts (List.replicate j.toNat s).flatten := by
  refine ext_tl ?_
  rw [tl_ts]
  unfold Txt.mul
  by_cases h1 : j < 1
  · rw [if_pos h1]
    have : j.toNat = 0 := by omega
    rw [this]; rfl
  · rw [if_neg h1]
    by_cases h2 : (j == 1 || (ts s).length == 0) = true
    · rw [if_pos h2, tl_ts]
      rw [Bool.or_eq_true] at h2
      rcases h2 with h2 | h2
      · have : j = 1 := by simpa using h2
        subst this; simp
      · rw [ts_len] at h2
        have : s = [] := by cases s <;> simp at h2 ⊢
        subst this; simp
    · rw [if_neg h2]
      show (List.foldl (· ++ ·) #[] (List.replicate j.toNat s.toArray)).toList = _
      rw [foldl_app]
      simp
theorem mul_okS {n : Nat} {j : Int} (h1 : n * j.toNat ≤ SZ) (hn : ¬ j < 1) : ¬ ((n : Int) > (2 ^ 63 - 1) / j) := by
  have hj : 0 < j := by omega
  intro hc
  have e5 : ((n * j.toNat : Nat) : Int) = (n : Int) * j := by
    rw [Int.natCast_mul, Int.toNat_of_nonneg (by omega)]
  have h4 : (n : Int) * j ≤ 16777216 := by
    have h1' : n * j.toNat ≤ 16777216 := h1
    omega
  have h6 : ((2 ^ 63 - 1) / j + 1) * j ≤ (n : Int) * j := Int.mul_le_mul_of_nonneg_right (by omega) (by omega)
  have h7 : (2 ^ 63 - 1) < ((2 ^ 63 - 1) / j + 1) * j := Int.lt_ediv_add_one_mul_self _ hj
  omega
theorem op_pMul : OpR X (binaryOp .Mult) (fun x y H Q => rP X.K pMul [x, y] H Q) := by
  intro pins s σ H x y v u Q I rx ry hq
  obtain ⟨m, h, us, r, h', rl, ru, e, k⟩ := hq
  obtain ⟨a, b, rfl, r1, r2⟩ := ru.of_two
  cases a <;> cases b <;> try (exact nomatch (show R.bad = R.ok _ _ from e))
  case int.int i j =>
    obtain ⟨hg, e⟩ := gd_inv e
    cases e
    exact op_mulW pins s σ H x y v u Q I rx ry ⟨i, j, RU.int.mp r1, RU.int.mp r2, (show i.natAbs.log2 + j.natAbs.log2 < 1000000 from of_decide_eq_true hg), Cont.int k rl⟩
  case str.int i j =>
    obtain ⟨hg, e⟩ := gd_inv e
    cases e
    simp only [Bool.and_eq_true, decide_eq_true_eq] at hg
    obtain ⟨⟨hg1, hg2⟩, hg3⟩ := hg
    rw [RU.str] at r1
    rw [RU.int] at r2
    subst r1 r2
    obtain ⟨t, rfl⟩ := rx
    obtain ⟨t', rfl⟩ := ry
    refine SB.mul ⟨?_, fun hn hb => ?_, fun hn hb => ?_⟩ fun t'' k' => ⟨.str _, H, I.tok _, ⟨t'', rfl⟩, ?_⟩
    · have e1 : decide (j < -(2 ^ 63 : Int)) = false := decide_eq_false (by omega)
      have e2 : decide (j ≥ 2 ^ 63) = false := decide_eq_false (by omega)
      rw [e1, e2]; rfl
    · rw [ts_len]; exact mul_okS hg1 hn
    · unfold Builtin.Str.tooLong
      rw [ts_len, ← sz_eq]
      exact decide_eq_false (by omega)
    · rw [tl_mul]; exact Cont.str k rl
  case ref.int a j =>
    have e : (match h[a]? with
      | some (.lst xs) => gd (decide (xs.length * j.toNat ≤ SZ) && decide (-(2 ^ 62) < j) && decide (j < 2 ^ 62)) (Mp.new h (.lst (List.replicate j.toNat xs).flatten))
      | _ => R.bad) = R.ok r h' := e
    split at e
    · next xs hi =>
      obtain ⟨hg, e⟩ := gd_inv e
      unfold Mp.new at e
      cases e
      simp only [Bool.and_eq_true, decide_eq_true_eq] at hg
      obtain ⟨⟨hg1, hg2⟩, hg3⟩ := hg
      rw [RU.int] at r2
      subst r2
      obtain ⟨p, hm, rfl⟩ := RU.ref.mp r1
      obtain ⟨vs, q1, s1⟩ := rl.lst hm hi
      have l1 := s1.length
      exact op_rep pins s σ H _ _ v u Q I rx ry ⟨p, j, vs, rfl, rfl, q1, by omega, by omega, by rw [← l1, ← sz_eq]; exact hg1, Cont.newL k rl (s1.rep _)⟩
    · cases e
end
end Mp

set_option Elab.async false
set_option linter.all false
set_option maxRecDepth 100000
namespace Mp
open PySem PySem.Spec PyProof.Rows L2 TL

theorem lt_tl {a b : List Nat} : decide ((ts a).cps.toList < (ts b).cps.toList) = decide (a < b) := rfl
section
variable {X : Cx}
theorem op_pLt : OpR X (compareOp .Lt) (fun x y H Q => rP X.K pLt [x, y] H Q) := by
  intro pins s σ H x y v u Q I rx ry hq
  obtain ⟨m, h, us, r, h', rl, ru, e, k⟩ := hq
  obtain ⟨a, b, rfl, r1, r2⟩ := ru.of_two
  cases a <;> cases b <;> try (exact nomatch (show R.bad = R.ok _ _ from e))
  case int.int i j =>
    cases (show R.ok (U.bl (decide (i < j))) h = _ from e)
    exact op_lt pins s σ H x y v u Q I rx ry ⟨i, j, RU.int.mp r1, RU.int.mp r2, Cont.bl k rl⟩
  case str.str i j =>
    cases (show R.ok (U.bl (decide (i < j))) h = _ from e)
    rw [RU.str] at r1 r2
    subst r1 r2
    obtain ⟨t, rfl⟩ := rx
    obtain ⟨t', rfl⟩ := ry
    exact PyProof.Rows.lt_str (fin_bl I (Cont.bl k rl) rfl)
theorem op_pLe : OpR X (compareOp .LtE) (fun x y H Q => rP X.K pLe [x, y] H Q) := by
  intro pins s σ H x y v u Q I rx ry hq
  obtain ⟨m, h, us, r, h', rl, ru, e, k⟩ := hq
  obtain ⟨a, b, rfl, r1, r2⟩ := ru.of_two
  cases a <;> cases b <;> try (exact nomatch (show R.bad = R.ok _ _ from e))
  case int.int i j =>
    cases (show R.ok (U.bl (decide (i ≤ j))) h = _ from e)
    exact op_le pins s σ H x y v u Q I rx ry ⟨i, j, RU.int.mp r1, RU.int.mp r2, Cont.bl k rl⟩
  case str.str i j =>
    cases (show R.ok (U.bl (!decide (j < i))) h = _ from e)
    rw [RU.str] at r1 r2
    subst r1 r2
    obtain ⟨t, rfl⟩ := rx
    obtain ⟨t', rfl⟩ := ry
    exact PySem.P.le_str (fin_bl I (Cont.bl k rl) rfl)
theorem op_pGt : OpR X (compareOp .Gt) (fun x y H Q => rP X.K pGt [x, y] H Q) := by
  intro pins s σ H x y v u Q I rx ry hq
  obtain ⟨m, h, us, r, h', rl, ru, e, k⟩ := hq
  obtain ⟨a, b, rfl, r1, r2⟩ := ru.of_two
  cases a <;> cases b <;> try (exact nomatch (show R.bad = R.ok _ _ from e))
  case int.int i j =>
    cases (show R.ok (U.bl (decide (j < i))) h = _ from e)
    exact op_gt pins s σ H x y v u Q I rx ry ⟨i, j, RU.int.mp r1, RU.int.mp r2, Cont.bl k rl⟩
  case str.str i j =>
    cases (show R.ok (U.bl (decide (j < i))) h = _ from e)
    rw [RU.str] at r1 r2
    subst r1 r2
    obtain ⟨t, rfl⟩ := rx
    obtain ⟨t', rfl⟩ := ry
    exact PySem.P.gt_str (fin_bl I (Cont.bl k rl) rfl)
theorem op_pGe : OpR X (compareOp .GtE) (fun x y H Q => rP X.K pGe [x, y] H Q) := by
  intro pins s σ H x y v u Q I rx ry hq
  obtain ⟨m, h, us, r, h', rl, ru, e, k⟩ := hq
  obtain ⟨a, b, rfl, r1, r2⟩ := ru.of_two
  cases a <;> cases b <;> try (exact nomatch (show R.bad = R.ok _ _ from e))
  case int.int i j =>
    cases (show R.ok (U.bl (decide (j ≤ i))) h = _ from e)
    exact op_ge pins s σ H x y v u Q I rx ry ⟨i, j, RU.int.mp r1, RU.int.mp r2, Cont.bl k rl⟩
  case str.str i j =>
    cases (show R.ok (U.bl (!decide (i < j))) h = _ from e)
    rw [RU.str] at r1 r2
    subst r1 r2
    obtain ⟨t, rfl⟩ := rx
    obtain ⟨t', rfl⟩ := ry
    exact PySem.P.ge_str (fin_bl I (Cont.bl k rl) rfl)
end

mutual
def D.py : D → PyData
  | .non => .none
  | .bl b => .bool b
  | .int i => .int i
  | .str s => .str (ts s)
  | .lst xs => .list (D.pys xs)
  | .tup xs => .tuple (D.pys xs)
def D.pys : List D → List PyData
  | [] => []
  | x :: xs => D.py x :: D.pys xs
end
theorem ts_beq (a b : List Nat) : (ts a == ts b) = (a == b) := by
  rw [Bool.eq_iff_iff]; simp [ts_eq_iff]
mutual
theorem D.eqv_py : ∀ (d e : D), PyData.eqv d.py e.py = D.eqv d e
  | .non, e => by cases e <;> simp [D.py, D.eqv, PyData.eqv]
  | .bl b, e => by cases e <;> simp [D.py, D.eqv, PyData.eqv]
  | .int b, e => by cases e <;> simp [D.py, D.eqv, PyData.eqv]
  | .str b, e => by cases e <;> simp [D.py, D.eqv, PyData.eqv, ts_beq]
  | .lst xs, e => by cases e <;> simp [D.py, D.eqv, PyData.eqv, D.eqvs_py]
  | .tup xs, e => by cases e <;> simp [D.py, D.eqv, PyData.eqv, D.eqvs_py]
theorem D.eqvs_py : ∀ (d e : List D), PyData.eqvAll (D.pys d) (D.pys e) = D.eqvs d e
  | [], e => by cases e <;> simp [D.pys, D.eqvs, PyData.eqvAll]
  | x :: xs, e => by cases e <;> simp [D.pys, D.eqvs, PyData.eqvAll, D.eqv_py x, D.eqvs_py xs]
end
section
variable {K : PySem.W.Frag} {m : Mm} {h : Hm} {H : AH}
theorem toDs_nil {n : Nat} : toDs h n [] = some [] := by cases n <;> simp [toDs]
mutual
theorem toD_dp (rl : Rel K m h H) : ∀ (n : Nat) (u : U) (v : V) (d : D), RU K H m u v → toD h n u = some d → Dp K H v d.py
  | 0, u, v, d, _, e => by simp [toD] at e
  | n + 1, .non, v, d, r, e => by rw [RU.non] at r; subst r; simp only [toD] at e; cases e; exact .non
  | n + 1, .bl b, v, d, r, e => by rw [RU.bl] at r; subst r; simp only [toD] at e; cases e; exact .bl b
  | n + 1, .int b, v, d, r, e => by rw [RU.int] at r; subst r; simp only [toD] at e; cases e; exact .int b
  | n + 1, .str b, v, d, r, e => by rw [RU.str] at r; subst r; simp only [toD] at e; cases e; exact .str _
  | n + 1, .tup xs, v, d, r, e => by
    obtain ⟨a, vs, rfl, q, s⟩ := RU.tup.mp r
    simp only [toD, Option.map_eq_some_iff] at e
    obtain ⟨ds, e1, rfl⟩ := e
    exact .tup q (toDs_dp rl n xs vs ds s e1)
  | n + 1, .ref i, v, d, r, e => by
    obtain ⟨a, hm, rfl⟩ := RU.ref.mp r
    simp only [toD] at e
    cases hi : h[i]? with
    | none => rw [hi] at e; cases e
    | some o =>
      rw [hi] at e
      cases o with
      | lst xs =>
        simp only [Option.map_eq_some_iff] at e
        obtain ⟨ds, e1, rfl⟩ := e
        obtain ⟨vs, q, s⟩ := rl.lst hm hi
        exact .lst (SqL.of q) (toDs_dp rl n xs vs ds s e1)
      | frz xs =>
        simp only [Option.map_eq_some_iff] at e
        obtain ⟨ds, e1, rfl⟩ := e
        obtain ⟨vs, q, s⟩ := rl.frz hm hi
        exact .lst q.sq (toDs_dp rl n xs vs ds s e1)
      | dic kvs => cases e
theorem toDs_dp (rl : Rel K m h H) : ∀ (n : Nat) (us : List U) (vs : List V) (ds : List D), RUs K H m us vs → toDs h n us = some ds → DpAll K H vs (D.pys ds)
  | n, [], vs, ds, r, e => by
    simp only [RUs] at r; subst r
    rw [toDs_nil] at e; cases e
    exact .nil
  | 0, x :: xs, vs, ds, r, e => by simp [toDs] at e
  | n + 1, x :: xs, vs, ds, r, e => by
    obtain ⟨y, ys, rfl, r1, r2⟩ := r.cons_inv
    simp only [toDs] at e
    split at e
    · next d ds' e1 e2 =>
      cases e
      exact .cons (toD_dp rl (n + 1) x y d r1 e1) (toDs_dp rl (n + 1) xs ys ds' r2 e2)
    · cases e
end
end
mutual
theorem D.ok_py : ∀ d : D, D.ok d = true → PyData.canLay0 d.py = true
  | .non, h => by simp [D.py, PyData.canLay0]
  | .bl b, h => by simp [D.py, PyData.canLay0]
  | .int b, h => by simp [D.py, PyData.canLay0]
  | .str s, h => by
    simp only [D.py, PyData.canLay0, PyData.strOk, ts]
    simp only [D.ok] at h
    simpa using h
  | .lst xs, h => by
    simp only [D.py, PyData.canLay0]
    simp only [D.ok] at h
    exact D.oks_py xs h
  | .tup xs, h => by
    simp only [D.py, PyData.canLay0]
    simp only [D.ok] at h
    exact D.oks_py xs h
theorem D.oks_py : ∀ d : List D, D.oks d = true → PyData.canLayAll0 (D.pys d) = true
  | [], h => by simp [D.pys, PyData.canLayAll0]
  | x :: xs, h => by
    simp only [D.oks, Bool.and_eq_true] at h
    simp only [D.pys, PyData.canLayAll0, Bool.and_eq_true]
    exact ⟨D.ok_py x h.1, D.oks_py xs h.2⟩
end
mutual
theorem toD_depth (h : Hm) : ∀ (n : Nat) (u : U) (d : D), toD h n u = some d → PyData.depth d.py ≤ n
  | 0, u, d, e => by simp [toD] at e
  | n + 1, .non, d, e => by simp only [toD] at e; cases e; simp [D.py, PyData.depth]
  | n + 1, .bl b, d, e => by simp only [toD] at e; cases e; simp [D.py, PyData.depth]
  | n + 1, .int b, d, e => by simp only [toD] at e; cases e; simp [D.py, PyData.depth]
  | n + 1, .str b, d, e => by simp only [toD] at e; cases e; simp [D.py, PyData.depth]
  | n + 1, .tup xs, d, e => by
    simp only [toD, Option.map_eq_some_iff] at e
    obtain ⟨ds, e1, rfl⟩ := e
    have := toDs_depth h n xs ds e1
    simp only [D.py, PyData.depth]
    omega
  | n + 1, .ref i, d, e => by
    simp only [toD] at e
    split at e
    · simp only [Option.map_eq_some_iff] at e
      obtain ⟨ds, e1, rfl⟩ := e
      have := toDs_depth h n _ ds e1
      simp only [D.py, PyData.depth]; omega
    · simp only [Option.map_eq_some_iff] at e
      obtain ⟨ds, e1, rfl⟩ := e
      have := toDs_depth h n _ ds e1
      simp only [D.py, PyData.depth]; omega
    · cases e
theorem toDs_depth (h : Hm) : ∀ (n : Nat) (us : List U) (ds : List D), toDs h n us = some ds → PyData.depthAll (D.pys ds) ≤ n
  | n, [], ds, e => by rw [toDs_nil] at e; cases e; simp [D.pys, PyData.depthAll]
  | 0, x :: xs, ds, e => by simp [toDs] at e
  | n + 1, x :: xs, ds, e => by
    simp only [toDs] at e
    split at e
    · next d ds' e1 e2 =>
      cases e
      have h1 := toD_depth h (n + 1) x d e1
      have h2 := toDs_depth h (n + 1) xs ds' e2
      simp only [D.pys, PyData.depthAll]; omega
    · cases e
end
theorem shaped_of {h : Hm} {n : Nat} {u : U} {d : D} (hn : n ≤ 64) (e : toD h n u = some d) (ho : D.ok d = true) : SeqAt.shaped d.py = true := by
  unfold SeqAt.shaped
  rw [D.ok_py d ho, Bool.true_and]
  have := toD_depth h n u d e
  exact decide_eq_true (by omega)
section
variable {X : Cx}
theorem eqU_cases {h : Hm} {x y : U} {b : Bool} (e : eqU h x y = some b) : (∃ i j, x = .int i ∧ y = .int j ∧ b = (i == j)) ∨ (∃ i j, x = .str i ∧ y = .str j ∧ b = (i == j)) ∨
    ∃ d d', toD h 12 x = some d ∧ toD h 12 y = some d' ∧ D.ok d = true ∧ D.ok d' = true ∧ b = D.eqv d d' := by
  unfold eqU at e
  split at e
  · cases e; exact .inl ⟨_, _, rfl, rfl, rfl⟩
  · cases e; exact .inr (.inl ⟨_, _, rfl, rfl, rfl⟩)
  · split at e
    · next d d' e1 e2 =>
      split at e
      · next hc => cases e; exact .inr (.inr ⟨d, d', e1, e2, hc.1, hc.2, rfl⟩)
      · cases e
    · cases e
theorem op_pEq (hu : X.A.units + 64 < cLine) : OpR X (compareOp .Eq) (fun x y H Q => rP X.K pEq [x, y] H Q) := by
  intro pins s σ H x y v u Q I rx ry hq
  obtain ⟨m, h, us, r, h', rl, ru, e, k⟩ := hq
  obtain ⟨a, b, rfl, r1, r2⟩ := ru.of_two
  have e : (match eqU h a b with
    | some b => R.ok (U.bl b) h
    | none => R.bad) = R.ok r h' := e
  split at e
  · next c ec =>
    cases e
    rcases eqU_cases ec with ⟨i, j, rfl, rfl, rfl⟩ | ⟨i, j, rfl, rfl, rfl⟩ | ⟨d, d', e1, e2, o1, o2, rfl⟩
    · rw [RU.int] at r1 r2
      subst r1 r2
      refine op_eq pins s σ H _ _ v u Q I rx ry ⟨rfl, ?_⟩
      rw [dec_int]; exact Cont.bl k rl
    · rw [RU.str] at r1 r2
      subst r1 r2
      refine op_eq pins s σ H _ _ v u Q I rx ry ⟨rfl, ?_⟩
      rw [dec_str, ts_beq]; exact Cont.bl k rl
    · refine op_eqD hu pins s σ H x y v u Q I rx ry ⟨d.py, d'.py, toD_dp rl 12 a x d r1 e1, toD_dp rl 12 b y d' r2 e2, shaped_of (by omega) e1 o1, shaped_of (by omega) e2 o2, ?_⟩
      rw [D.eqv_py]; exact Cont.bl k rl
  · cases e
theorem op_pNe (hu : X.A.units + 64 < cLine) : OpR X (compareOp .NotEq) (fun x y H Q => rP X.K pNe [x, y] H Q) := by
  intro pins s σ H x y v u Q I rx ry hq
  obtain ⟨m, h, us, r, h', rl, ru, e, k⟩ := hq
  obtain ⟨a, b, rfl, r1, r2⟩ := ru.of_two
  have e : (match eqU h a b with
    | some b => R.ok (U.bl (!b)) h
    | none => R.bad) = R.ok r h' := e
  split at e
  · next c ec =>
    cases e
    rcases eqU_cases ec with ⟨i, j, rfl, rfl, rfl⟩ | ⟨i, j, rfl, rfl, rfl⟩ | ⟨d, d', e1, e2, o1, o2, rfl⟩
    · rw [RU.int] at r1 r2
      subst r1 r2
      refine op_ne pins s σ H _ _ v u Q I rx ry ⟨rfl, ?_⟩
      rw [dec_int]; exact Cont.bl k rl
    · rw [RU.str] at r1 r2
      subst r1 r2
      refine op_ne pins s σ H _ _ v u Q I rx ry ⟨rfl, ?_⟩
      rw [dec_str, ts_beq]; exact Cont.bl k rl
    · refine op_neD hu pins s σ H x y v u Q I rx ry ⟨d.py, d'.py, toD_dp rl 12 a x d r1 e1, toD_dp rl 12 b y d' r2 e2, shaped_of (by omega) e1 o1, shaped_of (by omega) e2 o2, ?_⟩
      rw [D.eqv_py]; exact Cont.bl k rl
  · cases e

theorem RU.non_iff {K : PySem.W.Frag} {m : Mm} {H : AH} {a : U} {x : V} (r : RU K H m a x) : decide (x = .non) = isNon a := by
  cases a with
  | non => rw [RU.non] at r; subst r; rfl
  | bl b => rw [RU.bl] at r; subst r; rfl
  | int b => rw [RU.int] at r; subst r; rfl
  | str b => rw [RU.str] at r; subst r; rfl
  | tup b => obtain ⟨a, vs, rfl, _⟩ := RU.tup.mp r; rfl
  | ref b => obtain ⟨a, _, rfl⟩ := RU.ref.mp r; rfl
theorem un_isN {Q : VK} {K : PySem.W.Frag} {H : AH} {x : V} (hq : rP K pIsN [x] H Q) : Q (.bl (decide (x = .non))) H := by
  obtain ⟨m, h, us, r, h', rl, ru, e, k⟩ := hq
  obtain ⟨a, rfl, r1⟩ := ru.of_one
  cases (show R.ok (U.bl (isNon a)) h = R.ok r h' from e)
  rw [r1.non_iff]
  exact Cont.bl k rl
theorem un_isNN {Q : VK} {K : PySem.W.Frag} {H : AH} {x : V} (hq : rP K pIsNN [x] H Q) : Q (.bl (!decide (x = .non))) H := by
  obtain ⟨m, h, us, r, h', rl, ru, e, k⟩ := hq
  obtain ⟨a, rfl, r1⟩ := ru.of_one
  cases (show R.ok (U.bl (!isNon a)) h = R.ok r h' from e)
  rw [r1.non_iff]
  exact Cont.bl k rl

theorem call_pLen (hu : X.A.units + 1 < cLine) : CallR X (.builtin "len") (fun vs H Q => rP X.K pLen vs H Q) := by
  intro pins s σ H xs us Q I rv hq
  obtain ⟨m, h, uu, r, h', rl, ru, e, k⟩ := hq
  cases uu with
  | nil => cases (show R.bad = R.ok r h' from e)
  | cons a rest =>
    cases rest with
    | cons b rest => cases a <;> cases (show R.bad = R.ok r h' from e)
    | nil =>
      obtain ⟨x, rfl, r1⟩ := ru.one_inv
      cases a <;> try (exact nomatch (show R.bad = R.ok _ _ from e))
      case str i =>
        obtain ⟨hg, e⟩ := gd_inv e
        cases e
        rw [RU.str] at r1
        subst r1
        refine call_len pins s σ H _ us Q I rv ⟨_, i.length, rfl, ⟨by rw [ts_len, ← sz_eq]; exact of_decide_eq_true hg, (ts_len i).symm⟩, Cont.int k rl⟩
      case tup i =>
        cases (show R.ok (U.int i.length) h = _ from e)
        obtain ⟨a, vs, rfl, q, s1⟩ := RU.tup.mp r1
        exact call_len pins s σ H _ us Q I rv ⟨_, i.length, rfl, .inr ⟨vs, q, s1.length⟩, Cont.int k rl⟩
      case ref i =>
        have e : (match h[i]? with
          | some (.lst xs) => R.ok (.int xs.length) h
          | some (.frz xs) => R.ok (.int xs.length) h
          | some (.dic kvs) => R.ok (.int kvs.length) h
          | _ => R.bad) = R.ok r h' := e
        obtain ⟨a, hm, rfl⟩ := RU.ref.mp r1
        split at e
        · next ys hi =>
          cases e
          obtain ⟨vs, q, s1⟩ := rl.lst hm hi
          exact call_len pins s σ H _ us Q I rv ⟨_, ys.length, rfl, .inl ⟨vs, SqL.of q, s1.length⟩, Cont.int k rl⟩
        · next ys hi =>
          cases e
          obtain ⟨vs, q, s1⟩ := rl.frz hm hi
          exact call_len pins s σ H _ us Q I rv ⟨_, ys.length, rfl, .inl ⟨vs, q.sq, s1.length⟩, Cont.int k rl⟩
        · next ys hi =>
          cases e
          obtain ⟨vs, q, s1⟩ := rl.dic hm hi
          refine call_lenD pins s σ H _ us Q I rv ⟨a, vs, rfl, q, ?_⟩
          rw [← s1.length]
          exact Cont.int k rl
        · cases e
end
end Mp

set_option Elab.async false
set_option linter.all false
set_option maxRecDepth 100000
namespace Mp
open PySem PySem.Spec PyProof.Rows L2 TL

theorem pre_iff {p l : List Nat} : TL.pre p l = true ↔ p.isPrefixOf l = true := by
  unfold TL.pre
  rw [List.isPrefixOf_iff_prefix, beq_iff_eq, List.prefix_iff_eq_take]
  exact ⟨fun h => h.symm, fun h => h.symm⟩
/-- p stands at i in s -/
def stands (p s : List Nat) (i : Nat) : Prop := p.isPrefixOf (s.drop i) = true
theorem at_ts {s p : List Nat} (hp : p ≠ []) (i : Nat) : StrLaws.At (ts s) (ts p) (ts s).length i ↔ stands p s i := by
  rw [TL.at_iff (by rw [tl_ts]; exact hp), tl_ts, tl_ts, pre_iff]
  rfl
theorem stands_lt {p s : List Nat} (hp : p ≠ []) {i : Nat} (h : stands p s i) : i < s.length := by
  unfold stands at h
  rw [List.isPrefixOf_iff_prefix] at h
  refine Nat.lt_of_not_le fun hle => ?_
  rw [List.drop_eq_nil_of_le hle] at h
  exact hp (List.prefix_nil.mp h)
theorem stands_succ {p r : List Nat} {c i : Nat} : stands p (c :: r) (i + 1) ↔ stands p r i := Iff.rfl
theorem findL_spec {p : List Nat} (hp : p ≠ []) : ∀ (s : List Nat) (k : Nat),
    (findL s p k = -1 ∧ ∀ i, ¬ stands p s i) ∨ ∃ i, findL s p k = ((k + i : Nat) : Int) ∧ stands p s i ∧ ∀ j, j < i → ¬ stands p s j
  | [], k => .inl ⟨rfl, fun i h => absurd (stands_lt hp h) (Nat.not_lt_zero _)⟩
  | c :: r, k => by
    unfold findL
    by_cases h : p.isPrefixOf (c :: r) = true
    · rw [if_pos h]
      exact .inr ⟨0, rfl, h, fun j hj => absurd hj (Nat.not_lt_zero _)⟩
    · rw [if_neg h]
      rcases findL_spec hp r (k + 1) with ⟨h1, h2⟩ | ⟨i, h1, h2, h3⟩
      · refine .inl ⟨h1, fun i hi => ?_⟩
        cases i with
        | zero => exact h hi
        | succ i => exact h2 i (stands_succ.mp hi)
      · refine .inr ⟨i + 1, by rw [h1]; congr 1; omega, h2, fun j hj hs => ?_⟩
        cases j with
        | zero => exact h hs
        | succ j => exact h3 j (by omega) (stands_succ.mp hs)
theorem rfindL_spec {p : List Nat} (hp : p ≠ []) : ∀ (s : List Nat) (k : Nat),
    (rfindL s p k = -1 ∧ ∀ i, ¬ stands p s i) ∨ ∃ i, rfindL s p k = ((k + i : Nat) : Int) ∧ stands p s i ∧ ∀ j, i < j → ¬ stands p s j
  | [], k => .inl ⟨rfl, fun i h => absurd (stands_lt hp h) (Nat.not_lt_zero _)⟩
  | c :: r, k => by
    unfold rfindL
    rcases rfindL_spec hp r (k + 1) with ⟨h1, h2⟩ | ⟨i, h1, h2, h3⟩
    · rw [h1, if_neg (by decide)]
      by_cases h : p.isPrefixOf (c :: r) = true
      · rw [if_pos h]
        refine .inr ⟨0, rfl, h, fun j hj hs => ?_⟩
        cases j with
        | zero => omega
        | succ j => exact h2 j (stands_succ.mp hs)
      · rw [if_neg h]
        refine .inl ⟨rfl, fun i hi => ?_⟩
        cases i with
        | zero => exact h hi
        | succ i => exact h2 i (stands_succ.mp hi)
    · rw [h1, if_pos (by omega)]
      refine .inr ⟨i + 1, by congr 1; omega, h2, fun j hj hs => ?_⟩
      cases j with
      | zero => omega
      | succ j => exact h3 j (by omega) (stands_succ.mp hs)
theorem find_ts {s p : List Nat} (hp : p ≠ []) : Txt.find (ts s) (ts p) = findL s p 0 := by
  unfold Txt.find
  rcases StrLaws.occ_head (ts s) (ts p) 1 (Nat.le_refl _) with ⟨h1, h2⟩ | ⟨i, r, h1, h2, h3⟩
  · rw [h1]
    rcases findL_spec hp s 0 with ⟨g1, g2⟩ | ⟨j, g1, g2, g3⟩
    · rw [g1]
    · exact absurd ((at_ts hp j).mpr g2) (h2 j)
  · rw [h1]
    rcases findL_spec hp s 0 with ⟨g1, g2⟩ | ⟨j, g1, g2, g3⟩
    · exact absurd ((at_ts hp i).mp h2) (g2 i)
    · rw [g1]
      have a1 : ¬ i < j := fun hl => g3 i hl ((at_ts hp i).mp h2)
      have a2 : ¬ j < i := fun hl => h3 j hl ((at_ts hp j).mpr g2)
      show ((i : Nat) : Int) = ((0 + j : Nat) : Int)
      congr 1; omega
theorem occ_ts {s p : List Nat} (hp : p ≠ []) : (!(Builtin.Str.occurrences (ts s) (ts p) 0 (ts s).length 1).isEmpty) = decide (0 ≤ findL s p 0) := by
  have e := find_ts (s := s) hp
  unfold Txt.find at e
  rw [← e]
  split
  · next i r h => rw [h]; symm; exact decide_eq_true (by omega)
  · next h => rw [h]; rfl
theorem index_ts {s p : List Nat} (hp : p ≠ []) (h : 0 ≤ findL s p 0) : ∃ i rest, Builtin.Str.occurrences (ts s) (ts p) 0 (ts s).length 1 = i :: rest ∧ findL s p 0 = (i : Int) := by
  have e := find_ts (s := s) hp
  unfold Txt.find at e
  split at e
  · next i r h' => exact ⟨i, r, h', e.symm⟩
  · rw [← e] at h; exact absurd h (by decide)
theorem last_ts {s p : List Nat} (hp : p ≠ []) : (match Builtin.Str.lastOccurrence (ts s) (ts p) 0 (ts s).length with | some i => (i : Int) | none => -1) = rfindL s p 0 := by
  rcases StrLaws.last_spec (ts s) (ts p) with ⟨h1, h2⟩ | ⟨i, h1, h2, h3⟩
  · rw [h1]
    rcases rfindL_spec hp s 0 with ⟨g1, g2⟩ | ⟨j, g1, g2, g3⟩
    · rw [g1]
    · exact absurd ((at_ts hp j).mpr g2) (h2 j)
  · rw [h1]
    rcases rfindL_spec hp s 0 with ⟨g1, g2⟩ | ⟨j, g1, g2, g3⟩
    · exact absurd ((at_ts hp i).mp h2) (g2 i)
    · rw [g1]
      have a1 : ¬ j < i := fun hl => g3 i hl ((at_ts hp i).mp h2)
      have a2 : ¬ i < j := fun hl => h3 j hl ((at_ts hp j).mpr g2)
      show ((i : Nat) : Int) = ((0 + j : Nat) : Int)
      congr 1; omega
theorem rfind_ts {s p : List Nat} (hp : p ≠ []) : Txt.rfind (ts s) (ts p) = rfindL s p 0 := last_ts hp
theorem subAt_take {s p : List Nat} {j i : Nat} (h : i + p.length ≤ j) : Builtin.Str.subAt (ts s) (ts p) i = Builtin.Str.subAt (ts (s.take j)) (ts p) i := by
  unfold Builtin.Str.subAt
  rw [ts_len]
  have e : (ts s).cps.extract i (i + p.length) = (ts (s.take j)).cps.extract i (i + p.length) := by
    apply Array.toList_inj.mp
    simp only [ts, List.extract_toArray, List.extract_eq_drop_take]
    rw [List.drop_take, List.take_take]
    congr 1
    omega
  rw [e]
theorem lastJ_ts {s p : List Nat} {j : Nat} (hp : p ≠ []) (hj : j ≤ s.length) : (match Builtin.Str.lastOccurrence (ts s) (ts p) 0 j with | some i => (i : Int) | none => -1) = rfindL (s.take j) p 0 := by
  rw [← last_ts hp]
  have e : Builtin.Str.lastOccurrence (ts s) (ts p) 0 j = Builtin.Str.lastOccurrence (ts (s.take j)) (ts p) 0 (ts (s.take j)).length := by
    have hl : (ts (s.take j)).length = j := by rw [ts_len, List.length_take]; omega
    rw [hl, StrLaws.last_eq, StrLaws.last_eq]
    have hb : StrLaws.lastBody (ts s) (ts p) j = StrLaws.lastBody (ts (s.take j)) (ts p) j := by
      funext i st
      unfold StrLaws.lastBody
      by_cases h : i + (ts p).length ≤ j
      · rw [subAt_take (j := j) (by rw [ts_len] at h; exact h)]
      · have n1 : ¬ (i + (ts p).length ≤ j ∧ Builtin.Str.subAt (ts s) (ts p) i = true) := fun q => h q.1
        have n2 : ¬ (i + (ts p).length ≤ j ∧ Builtin.Str.subAt (ts (s.take j)) (ts p) i = true) := fun q => h q.1
        rw [if_neg n1, if_neg n2]
    rw [hb]
  rw [e]
theorem at_one {s : List Nat} {c i : Nat} : StrLaws.At (ts s) (ts [c]) (ts s).length i ↔ s[i]? = some c := StrLaws.subAt_one (ts s) c i
theorem chain_count {s : List Nat} {c : Nat} : ∀ (cuts : List Nat) (a f : Nat), StrLaws.ChainG (ts s) (ts [c]) (ts s).length a cuts f → (∀ k, f ≤ k → ¬ StrLaws.At (ts s) (ts [c]) (ts s).length k) → cuts.length = ((s.drop a).filter (· == c)).length
  | [], a, f, h, hn => by
    have e : f = a := h
    subst e
    symm
    rw [List.length_nil, List.length_eq_zero_iff, List.filter_eq_nil_iff]
    intro x hx hc
    obtain ⟨i, hi⟩ := List.mem_iff_getElem?.mp hx
    rw [List.getElem?_drop] at hi
    have : x = c := by simpa using hc
    subst this
    exact hn (f + i) (Nat.le_add_right _ _) (at_one.mpr hi)
  | b :: r, a, f, h, hn => by
    obtain ⟨hab, hA, hno, hr⟩ := h
    have ih := chain_count r _ f hr hn
    rw [ts_len] at ih
    have hb := at_one.mp hA
    have hlt := (List.getElem?_eq_some_iff.mp hb).1
    have hget := (List.getElem?_eq_some_iff.mp hb).2
    have e1 : s.drop a = (s.drop a).take (b - a) ++ s.drop b := by
      have := (List.take_append_drop (b - a) (s.drop a)).symm
      rw [List.drop_drop, show a + (b - a) = b by omega] at this
      exact this
    have e2 : s.drop b = c :: s.drop (b + 1) := by rw [List.drop_eq_getElem_cons hlt, hget]
    have e3 : ((s.drop a).take (b - a)).filter (· == c) = [] := by
      rw [List.filter_eq_nil_iff]
      intro x hx hc
      obtain ⟨i, hi⟩ := List.mem_iff_getElem?.mp hx
      have : x = c := by simpa using hc
      subst this
      have hi2 : i < b - a := by
        have := (List.getElem?_eq_some_iff.mp hi).1
        rw [List.length_take] at this; omega
      rw [List.getElem?_take, if_pos hi2, List.getElem?_drop] at hi
      exact hno (a + i) (by omega) (by omega) (at_one.mpr hi)
    rw [e1, e2, List.filter_append, e3, List.nil_append, List.filter_cons, if_pos (by simp), List.length_cons, List.length_cons, ih]
    simp
theorem count_ts (s : List Nat) (c : Nat) : Txt.count (ts s) (ts [c]) = ((countL s c : Nat) : Int) := by
  unfold Txt.count countL
  obtain ⟨f, h1, h2⟩ := StrLaws.occ_tight (ts s) (ts [c]) (by rw [ts_len]; exact Nat.le_refl _)
  rw [chain_count _ 0 f h1 h2]
  rfl
theorem join_ts (sep : List Nat) : ∀ parts : List (List Nat), Str.join (ts sep) (parts.map ts) = ts (joinL sep parts)
  | [] => rfl
  | [x] => rfl
  | x :: y :: r => by
    have ih := join_ts sep (y :: r)
    show ts x ++ ts sep ++ Str.join (ts sep) ((y :: r).map ts) = ts (x ++ sep ++ joinL sep (y :: r))
    rw [ih, ts_append, ts_append]

section
variable {X : Cx}
theorem isE {p : List Nat} (h : (!p.isEmpty) = true) : p ≠ [] := by rintro rfl; cases h
theorem mt_pFind : MtR X "str.find" (fun x xs H Q => rP X.K pFind (x :: xs) H Q) := by
  intro pins s σ H x xs v us Q I rx rv hq
  obtain ⟨m, h, uu, r, h', rl, ru, e, k⟩ := hq
  obtain ⟨a, as, rfl, r1, r2⟩ := ru.of_cons
  cases as with
  | nil => cases a <;> cases (show R.bad = R.ok r h' from e)
  | cons b bs =>
    cases bs with
    | cons _ _ => cases a <;> cases b <;> cases (show R.bad = R.ok r h' from e)
    | nil =>
      cases a <;> cases b <;> try (exact nomatch (show R.bad = R.ok _ _ from e))
      case str.str i j =>
        obtain ⟨hg, e⟩ := gd_inv e
        cases e
        obtain ⟨y, rfl, r3⟩ := r2.one_inv
        rw [RU.str] at r1 r3
        subst r1 r3
        refine mt_find pins s σ H _ _ v us Q I rx rv ⟨_, _, rfl, rfl, ?_⟩
        rw [find_ts (isE hg)]; exact Cont.int k rl
theorem mt_pRfind : MtR X "str.rfind" (fun x xs H Q => rP X.K pRfind (x :: xs) H Q) := by
  intro pins s σ H x xs v us Q I rx rv hq
  obtain ⟨m, h, uu, r, h', rl, ru, e, k⟩ := hq
  obtain ⟨a, as, rfl, r1, r2⟩ := ru.of_cons
  cases as with
  | nil => cases a <;> cases (show R.bad = R.ok r h' from e)
  | cons b bs =>
    cases bs with
    | cons _ _ => cases a <;> cases b <;> cases (show R.bad = R.ok r h' from e)
    | nil =>
      cases a <;> cases b <;> try (exact nomatch (show R.bad = R.ok _ _ from e))
      case str.str i j =>
        obtain ⟨hg, e⟩ := gd_inv e
        cases e
        obtain ⟨y, rfl, r3⟩ := r2.one_inv
        rw [RU.str] at r1 r3
        subst r1 r3
        refine mt_rfind pins s σ H _ _ v us Q I rx rv ⟨_, _, rfl, rfl, ?_⟩
        rw [rfind_ts (isE hg)]; exact Cont.int k rl
theorem mt_pRfind4 : MtR X "str.rfind" (fun x xs H Q => rP X.K pRfind4 (x :: xs) H Q) := by
  intro pins s σ H x xs v us Q I rx rv hq
  obtain ⟨m, h, uu, r, h', rl, ru, e, k⟩ := hq
  obtain ⟨a, as, rfl, r1, r2⟩ := ru.of_cons
  cases as with
  | nil => cases a <;> cases (show R.bad = R.ok r h' from e)
  | cons b bs =>
    cases bs with
    | nil => cases a <;> cases b <;> cases (show R.bad = R.ok r h' from e)
    | cons c cs =>
      cases cs with
      | nil => cases a <;> cases b <;> cases c <;> cases (show R.bad = R.ok r h' from e)
      | cons d ds =>
        cases ds with
        | cons _ _ => cases a <;> cases b <;> cases c <;> cases d <;> cases (show R.bad = R.ok r h' from e)
        | nil =>
          cases a <;> try (exact nomatch (show R.bad = R.ok _ _ from e))
          cases b <;> try (exact nomatch (show R.bad = R.ok _ _ from e))
          cases c <;> try (exact nomatch (show R.bad = R.ok _ _ from e))
          cases d <;> try (exact nomatch (show R.bad = R.ok _ _ from e))
          case str.str.int.int z p lo hi =>
            obtain ⟨hg, e⟩ := gd_inv e
            cases e
            simp only [Bool.and_eq_true, decide_eq_true_eq, beq_iff_eq] at hg
            obtain ⟨⟨⟨hg1, hg2⟩, hg3⟩, hg4⟩ := hg
            subst hg2
            obtain ⟨y1, y2, y3, rfl, r3, r4, r5⟩ := r2.three_inv
            rw [RU.str] at r1 r3
            rw [RU.int] at r4 r5
            subst r1 r3 r4 r5
            refine mt_rfind4 pins s σ H _ _ v us Q I rx rv ⟨_, _, _, _, rfl, rfl, ?_⟩
            have e1 : PySem.fromIndex (ts z).length 0 = 0 := by simp [PySem.fromIndex]
            have e2 : PySem.toIndexW (ts z).length hi = hi.toNat := by
              unfold PySem.toIndexW
              rw [ts_len, if_neg (by omega)]
              omega
            have e3 : Txt.rfindIn (ts z) (ts p) 0 hi = rfindL (z.take hi.toNat) p 0 := by
              unfold Txt.rfindIn
              rw [e1, e2]
              exact lastJ_ts (isE hg1) (by omega)
            rw [e3]; exact Cont.int k rl
theorem mt_pIndex : MtR X "str.index" (fun x xs H Q => rP X.K pIndex (x :: xs) H Q) := by
  intro pins s σ H x xs v us Q I rx rv hq
  obtain ⟨m, h, uu, r, h', rl, ru, e, k⟩ := hq
  obtain ⟨a, as, rfl, r1, r2⟩ := ru.of_cons
  cases as with
  | nil => cases a <;> cases (show R.bad = R.ok r h' from e)
  | cons b bs =>
    cases bs with
    | cons _ _ => cases a <;> cases b <;> cases (show R.bad = R.ok r h' from e)
    | nil =>
      cases a <;> cases b <;> try (exact nomatch (show R.bad = R.ok _ _ from e))
      case str.str i j =>
        obtain ⟨hg, e⟩ := gd_inv e
        cases e
        simp only [Bool.and_eq_true, decide_eq_true_eq] at hg
        obtain ⟨n, rest, e1, e2⟩ := index_ts (isE hg.1) hg.2
        obtain ⟨y, rfl, r3⟩ := r2.one_inv
        rw [RU.str] at r1 r3
        subst r1 r3
        refine mt_sindex pins s σ H _ _ v us Q I rx rv ⟨_, _, n, rest, rfl, rfl, e1, ?_⟩
        rw [← e2]; exact Cont.int k rl
theorem mt_pCount : MtR X "str.count" (fun x xs H Q => rP X.K pCount (x :: xs) H Q) := by
  intro pins s σ H x xs v us Q I rx rv hq
  obtain ⟨m, h, uu, r, h', rl, ru, e, k⟩ := hq
  obtain ⟨a, as, rfl, r1, r2⟩ := ru.of_cons
  cases as with
  | nil => cases a <;> cases (show R.bad = R.ok r h' from e)
  | cons b bs =>
    cases bs with
    | cons _ _ => cases a <;> cases b <;> try (exact nomatch (show R.bad = R.ok _ _ from e))
                  case str.str i j => rcases j with _ | ⟨c, _ | ⟨d, j⟩⟩ <;> cases (show R.bad = R.ok r h' from e)
    | nil =>
      cases a <;> cases b <;> try (exact nomatch (show R.bad = R.ok _ _ from e))
      case str.str i j =>
        rcases j with _ | ⟨c, _ | ⟨d, j⟩⟩ <;> try (exact nomatch (show R.bad = R.ok _ _ from e))
        cases (show R.ok (U.int (countL i c)) h = _ from e)
        obtain ⟨y, rfl, r3⟩ := r2.one_inv
        rw [RU.str] at r1 r3
        subst r1 r3
        refine mt_count pins s σ H _ _ v us Q I rx rv ⟨_, _, rfl, rfl, ?_⟩
        rw [count_ts]; exact Cont.int k rl
theorem allStr_ok {K : PySem.W.Frag} {m : Mm} {H : AH} : ∀ {xs : List U} {l : List (List Nat)} {vs : List V}, allStr xs = some l → RUs K H m xs vs → vs = (l.map ts).map V.str
  | [], l, vs, e, r => by simp only [allStr] at e; cases e; simpa [RUs] using r
  | x :: xs, l, vs, e, r => by
    obtain ⟨y, ys, rfl, r1, r2⟩ := r.cons_inv
    cases x <;> simp only [allStr] at e <;> try (cases e; done)
    case str i =>
      rw [Option.map_eq_some_iff] at e
      obtain ⟨l', e1, rfl⟩ := e
      rw [RU.str] at r1
      subst r1
      rw [allStr_ok e1 r2]
      rfl
theorem allInt_ok {K : PySem.W.Frag} {m : Mm} {H : AH} : ∀ {xs : List U} {l : List Int} {vs : List V}, allInt xs = some l → RUs K H m xs vs → vs = l.map V.int
  | [], l, vs, e, r => by simp only [allInt] at e; cases e; simpa [RUs] using r
  | x :: xs, l, vs, e, r => by
    obtain ⟨y, ys, rfl, r1, r2⟩ := r.cons_inv
    cases x <;> simp only [allInt] at e <;> try (cases e; done)
    case int i =>
      rw [Option.map_eq_some_iff] at e
      obtain ⟨l', e1, rfl⟩ := e
      rw [RU.int] at r1
      subst r1
      rw [allInt_ok e1 r2]
      rfl
theorem mt_pJoin : MtR X "str.join" (fun x xs H Q => rP X.K pJoin (x :: xs) H Q) := by
  intro pins s σ H x xs v us Q I rx rv hq
  obtain ⟨m, h, uu, r, h', rl, ru, e, k⟩ := hq
  obtain ⟨a, as, rfl, r1, r2⟩ := ru.of_cons
  cases as with
  | nil => cases a <;> cases (show R.bad = R.ok r h' from e)
  | cons b bs =>
    cases bs with
    | cons _ _ => cases a <;> cases (show R.bad = R.ok r h' from e)
    | nil =>
      cases a <;> try (exact nomatch (show R.bad = R.ok _ _ from e))
      case str sep =>
        have e : (match Mp.items h b with
          | some xs => match allStr xs with
            | some l => gd (decide ((l.map (·.length)).sum + l.length * sep.length ≤ SZ)) (R.ok (U.str (Mp.joinL sep l)) h)
            | none => R.bad
          | none => R.bad) = R.ok r h' := e
        split at e
        · next ys e1 =>
          split at e
          · next l e2 =>
            obtain ⟨hg, e⟩ := gd_inv e
            cases e
            obtain ⟨y, rfl, r3⟩ := r2.one_inv
            rw [RU.str] at r1
            subst r1
            obtain ⟨p, vs, rfl, q, rs⟩ := rl.items r3 e1
            rw [allStr_ok e2 rs] at q
            refine mt_join pins s σ H _ _ v us Q I rx rv ⟨ts sep, p, l.map ts, rfl, rfl, q, ?_⟩
            have hz : ((l.map ts).map (·.length)) = l.map (·.length) := by
              rw [List.map_map]
              exact List.map_congr_left fun z _ => ts_len z
            rw [hz, List.length_map, ts_len]
            refine ⟨of_decide_eq_true hg, ?_⟩
            rw [TL.join_eq, join_ts]
            exact Cont.str k rl
          · cases e
        · cases e
end
end Mp

set_option Elab.async false
set_option linter.all false
set_option maxRecDepth 100000
namespace Mp
open PySem PySem.Spec PyProof.Rows L2 TL

theorem nix_eq (n : Nat) (i : Int) : nix n i = ixN n i := rfl
theorem atI_nix {α : Type} (xs : List α) (i : Int) : atI xs i = (nix xs.length i).bind fun j => xs[j]? := rfl
theorem cix_eq (n d : Nat) (o : Option Int) : HT.sIx n d o = cix n d o := by cases o <;> rfl
theorem cutV_eq (xs : List V) (lo hi : Option Int) : cutV xs lo hi = cutL xs lo hi := by
  unfold cutV cutL
  rw [cix_eq, cix_eq]
theorem cutS_eq (s : List Nat) (lo hi : Option Int) : cutS (ts s) lo hi = ts (cutL s lo hi) := by
  unfold cutS cutL
  rw [ts_len, cix_eq, cix_eq]
  rfl
theorem RUs.cut {K : PySem.W.Frag} {H : AH} {m : Mm} {us : List U} {vs : List V} (r : RUs K H m us vs) (lo hi : Option Int) : RUs K H m (cutL us lo hi) (cutL vs lo hi) := by
  unfold cutL
  rw [r.length]
  exact (r.drop _).take _

section
variable {K : PySem.W.Frag} {H : AH} {m : Mm}
def kU : U → Option Key
  | .int i => some (.inl i)
  | .str s => some (.inr (ts s))
  | _ => none
theorem key_of {k : U} {v : V} (h : isKey k = true) (r : RU K H m k v) : ∃ q, RKey k q ∧ v = kV q := by
  cases k <;> try (cases h; done)
  case int i => exact ⟨.inl i, rfl, RU.int.mp r⟩
  case str i => exact ⟨.inr (ts i), rfl, RU.str.mp r⟩
theorem rkey_cases {a : U} {p : Key} (h : RKey a p) : (∃ i, a = .int i ∧ p = .inl i) ∨ ∃ i, a = .str i ∧ p = .inr (ts i) := by
  cases a with
  | int i => exact .inl ⟨i, rfl, h⟩
  | str i => exact .inr ⟨i, rfl, h⟩
  | non => exact h.elim
  | bl _ => exact h.elim
  | tup _ => exact h.elim
  | ref _ => exact h.elim
theorem keyEq_iff {a b : U} {p q : Key} (h1 : RKey a p) (h2 : RKey b q) : keyEq a b = true ↔ p = q := by
  rcases rkey_cases h1 with ⟨i, rfl, rfl⟩ | ⟨i, rfl, rfl⟩ <;> rcases rkey_cases h2 with ⟨j, rfl, rfl⟩ | ⟨j, rfl, rfl⟩ <;> simp [keyEq, ts_eq_iff]
theorem dget_ok : ∀ {kvs : List (U × U)} {ws : List (Key × V)} {x : U} {q : Key}, RKv K H m kvs ws → RKey x q →
    (match dget kvs x with | some u => ∃ v, valV ws q = some v ∧ RU K H m u v | none => valV ws q = none)
  | [], ws, x, q, r, hx => by simp only [RKv] at r; subst r; rfl
  | (k, u) :: rest, ws, x, q, r, hx => by
    simp only [RKv] at r
    obtain ⟨p, w, s, rfl, h1, h2, h3⟩ := r
    have ih := dget_ok h3 hx
    unfold dget
    by_cases he : keyEq k x = true
    · rw [if_pos he]
      exact ⟨w, valV_pos ((keyEq_iff h1 hx).mp he), h2⟩
    · rw [if_neg he]
      have hn : ¬ (p, w).1 = q := fun e => he ((keyEq_iff h1 hx).mpr e)
      rw [valV_neg hn]
      exact ih
theorem any_ok : ∀ {kvs : List (U × U)} {ws : List (Key × V)} {x : U} {q : Key}, RKv K H m kvs ws → RKey x q → (kvs.any fun kv => keyEq kv.1 x) = (ws.any fun kv => decide (kv.1 = q))
  | [], ws, x, q, r, hx => by simp only [RKv] at r; subst r; rfl
  | (k, u) :: rest, ws, x, q, r, hx => by
    simp only [RKv] at r
    obtain ⟨p, w, s, rfl, h1, h2, h3⟩ := r
    rw [List.any_cons, List.any_cons, any_ok h3 hx]
    congr 1
    rw [Bool.eq_iff_iff, decide_eq_true_eq]
    exact keyEq_iff h1 hx
theorem mapPut_ok {y : U} {v : V} (ry : RU K H m y v) : ∀ {kvs : List (U × U)} {ws : List (Key × V)} {x : U} {q : Key}, RKv K H m kvs ws → RKey x q →
    RKv K H m (kvs.map fun kv => if keyEq kv.1 x = true then (kv.1, y) else kv) (ws.map fun kv => if kv.1 = q then (kv.1, v) else kv)
  | [], ws, x, q, r, hx => by simp only [RKv] at r; subst r; simp [RKv]
  | (k, u) :: rest, ws, x, q, r, hx => by
    simp only [RKv] at r
    obtain ⟨p, w, s, rfl, h1, h2, h3⟩ := r
    have ih := mapPut_ok ry h3 hx
    rw [List.map_cons, List.map_cons]
    by_cases he : keyEq k x = true
    · rw [if_pos he, if_pos ((keyEq_iff h1 hx).mp he)]
      simp only [RKv]
      exact ⟨p, v, _, rfl, h1, ry, ih⟩
    · rw [if_neg he, if_neg fun e => he ((keyEq_iff h1 hx).mpr e)]
      simp only [RKv]
      exact ⟨p, w, _, rfl, h1, h2, ih⟩
theorem RKv.snoc {x y : U} {q : Key} {v : V} (hx : RKey x q) (ry : RU K H m y v) : ∀ {kvs : List (U × U)} {ws : List (Key × V)}, RKv K H m kvs ws → RKv K H m (kvs ++ [(x, y)]) (ws ++ [(q, v)])
  | [], ws, r => by
    simp only [RKv] at r; subst r
    show RKv K H m [(x, y)] [(q, v)]
    simp only [RKv]
    exact ⟨q, v, [], rfl, hx, ry, rfl⟩
  | (k, u) :: rest, ws, r => by
    simp only [RKv] at r
    obtain ⟨p, w, s, rfl, h1, h2, h3⟩ := r
    show RKv K H m ((k, u) :: (rest ++ [(x, y)])) ((p, w) :: (s ++ [(q, v)]))
    simp only [RKv]
    exact ⟨p, w, _, rfl, h1, h2, RKv.snoc hx ry h3⟩
theorem dput_ok {kvs : List (U × U)} {ws : List (Key × V)} {x y : U} {q : Key} {v : V} (r : RKv K H m kvs ws) (hx : RKey x q) (ry : RU K H m y v) : RKv K H m (dput kvs x y) (putK ws q v) := by
  unfold dput putK
  rw [any_ok r hx]
  by_cases h : (ws.any fun kv => decide (kv.1 = q)) = true
  · rw [if_pos h, if_pos h]; exact mapPut_ok ry r hx
  · rw [if_neg h, if_neg h]; exact RKv.snoc hx ry r
end

section
variable {X : Cx}
theorem ix_pIx (hu : X.A.units + 1 < cLine) : IxR X (fun x y H Q => rP X.K pIx [x, y] H Q) := by
  intro value slice pins s σ H x y v u Q I rx ry hq hs
  obtain ⟨m, h, us, r, h', rl, ru, e, k⟩ := hq
  obtain ⟨a, b, rfl, r1, r2⟩ := ru.of_two
  cases a with
  | str z =>
    cases b <;> try (exact nomatch (show R.bad = R.ok _ _ from e))
    case int i =>
      obtain ⟨hg, e⟩ := gd_inv (show gd (decide (z.length ≤ SZ)) (match (nix z.length i).bind (fun j => z[j]?) with
        | some c => R.ok (U.str [c]) h
        | none => R.bad) = R.ok r h' from e)
      split at e
      · next c hc =>
        cases e
        rw [RU.str] at r1
        rw [RU.int] at r2
        subst r1 r2
        exact ix_str value slice pins s σ H _ _ v u Q I rx ry ⟨ts z, i, c, rfl, rfl, by rw [ts_len, ← sz_eq]; exact of_decide_eq_true hg, hc, Cont.str k rl⟩ hs
      · cases e
  | tup xs =>
    cases b <;> try (exact nomatch (show R.bad = R.ok _ _ from e))
    case int i =>
      have e : (match (nix xs.length i).bind (fun j => xs[j]?) with
        | some c => R.ok c h
        | none => R.bad) = R.ok r h' := e
      split at e
      · next c hc =>
        cases e
        obtain ⟨p, vs, rfl, q, rs⟩ := RU.tup.mp r1
        rw [RU.int] at r2
        subst r2
        obtain ⟨j, e1, e2⟩ := Option.bind_eq_some_iff.mp hc
        obtain ⟨w, e3, rw'⟩ := rs.get e2
        refine ix_tup value slice pins s σ H _ _ v u Q I rx ry ⟨p, vs, i, w, rfl, rfl, q, ?_, Cont.same k rl rw'⟩ hs
        rw [atI_nix, ← rs.length, e1]
        exact e3
      · cases e
  | ref a =>
    have e : (match (generalizing := false) h[a]? with
      | some (.dic kvs) => gd (isKey b) (match dget kvs b with
        | some v => R.ok v h
        | none => R.bad)
      | some o => match (generalizing := false) Mp.items h (.ref a), b with
        | some xs, .int i => match (nix xs.length i).bind (fun j => xs[j]?) with
          | some c => R.ok c h
          | none => R.bad
        | _, _ => R.bad
      | none => R.bad) = R.ok r h' := e
    split at e
    · next kvs hi =>
      obtain ⟨hg, e⟩ := gd_inv e
      split at e
      · next w hw =>
        cases e
        obtain ⟨p, hm, rfl⟩ := RU.ref.mp r1
        obtain ⟨ws, q, rk⟩ := rl.dic hm hi
        obtain ⟨key, hk, rfl⟩ := key_of hg r2
        have hd := dget_ok rk hk
        rw [hw] at hd
        obtain ⟨w', e1, e2⟩ := hd
        cases rx
        have g : DGet H p (kV key) (some w') := e1 ▸ DGet.k q
        exact tail_any (dict_typeIs I g) PySem.F.slot_dict_getitem.lookup (d_getItem hu I g ry fun z s' I' rz => ⟨w', H, I', rz, Cont.same k rl e2⟩) hs
      · cases e
    · next o hi hno =>
      split at e
      · next xs i e1 e0 =>
        split at e
        · next c hc =>
          cases e
          obtain ⟨p, vs, rfl, q, rs⟩ := rl.itemsL r1 e1
          rw [RU.int] at r2
          subst r2
          obtain ⟨j, e1, e2⟩ := Option.bind_eq_some_iff.mp hc
          obtain ⟨w, e3, rw'⟩ := rs.get e2
          refine ix_list value slice pins s σ H _ _ v u Q I rx ry ⟨p, vs, i, w, rfl, rfl, q, ?_, Cont.same k rl rw'⟩ hs
          rw [atI_nix, ← rs.length, e1]
          exact e3
        · cases e
      · cases e
    · cases e
  | non => cases b <;> cases (show R.bad = R.ok r h' from e)
  | bl _ => cases b <;> cases (show R.bad = R.ok r h' from e)
  | int _ => cases b <;> cases (show R.bad = R.ok r h' from e)
end
end Mp

set_option Elab.async false
set_option linter.all false
set_option maxRecDepth 100000
namespace Mp
open PySem PySem.Spec PyProof.Rows L2 TL

section
variable {X : Cx}
/-- a cut's reading by its value and bounds -/
def rCut (K : PySem.W.Frag) (x : V) (lo hi : Option Int) (H : AH) (Q : VK) : Prop :=
  ∃ m h u r h', Rel K m h H ∧ RU K H m u x ∧ cutU h u lo hi = .ok r h' ∧ ∀ m' H' v, Go m H m' H' → Rel K m' h' H' → RU K H' m' r v → Q v H'
theorem sl_pCut : SlR X (fun x lo hi H Q => rCut X.K x lo hi H Q) := by
  intro pins s σ H x v vl vu lo hi sl Q I rx hs pl pu hq
  obtain ⟨m, h, a, r, h', rl, r1, e, k⟩ := hq
  cases a with
  | str z =>
    obtain ⟨hg, e⟩ := gd_inv (show gd (decide (z.length ≤ SZ)) (R.ok (U.str (cutL z lo hi)) h) = R.ok r h' from e)
    cases e
    rw [RU.str] at r1
    subst r1
    refine sl_str pins s σ H _ v vl vu lo hi sl Q I rx hs pl pu ⟨ts z, rfl, by rw [ts_len, ← sz_eq]; exact of_decide_eq_true hg, ?_⟩
    rw [cutS_eq]; exact Cont.str k rl
  | ref a =>
    have e : (match Mp.items h (.ref a) with
      | some xs => Mp.new h (.lst (cutL xs lo hi))
      | none => R.bad) = R.ok r h' := e
    split at e
    · next xs e1 =>
      unfold Mp.new at e
      cases e
      obtain ⟨p, vs, rfl, q, rs⟩ := rl.itemsL r1 e1
      refine sl_list pins s σ H _ v vl vu lo hi sl Q I rx hs pl pu ⟨p, vs, rfl, q, ?_⟩
      rw [cutV_eq]
      exact Cont.newL k rl (rs.cut lo hi)
    · cases e
  | tup xs =>
    cases (show R.ok (U.tup (cutL xs lo hi)) h = R.ok r h' from e)
    obtain ⟨p, vs, rfl, q, rs⟩ := RU.tup.mp r1
    refine sl_tupA pins s σ H _ v vl vu lo hi sl Q I rx hs pl pu ⟨p, vs, rfl, q, fun ⟨e1, e2⟩ => ?_, fun _ => ?_⟩
    · rw [cix_eq, ← rs.length] at e1 e2
      have e3 : cutL xs lo hi = xs := by
        unfold cutL
        rw [e1, e2, List.drop_zero, Nat.sub_zero, List.take_length]
      rw [e3] at k
      exact Cont.same k rl r1
    · rw [cutV_eq]
      exact Cont.newT k rl (rs.cut lo hi)
  | non => cases (show R.bad = R.ok r h' from e)
  | bl _ => cases (show R.bad = R.ok r h' from e)
  | int _ => cases (show R.bad = R.ok r h' from e)

theorem flat_V {K : PySem.W.Frag} {H : AH} {m : Mm} {a : U} {x : V} (f : flat a = true) (r : RU K H m a x) : flatV x = true := by
  cases a with
  | non => rw [RU.non] at r; subst r; rfl
  | bl b => rw [RU.bl] at r; subst r; rfl
  | int b => rw [RU.int] at r; subst r; rfl
  | str b => rw [RU.str] at r; subst r; rfl
  | tup b => cases f
  | ref b => cases f
theorem scEq_V {K : PySem.W.Frag} {H : AH} {m : Mm} {a b : U} {x y : V} (fa : flat a = true) (fb : flat b = true) (ra : RU K H m a x) (rb : RU K H m b y) : eqV x y = scEq a b := by
  cases a <;> first | (cases fa; done) | skip
  all_goals cases b <;> first | (cases fb; done) | skip
  all_goals simp only [RU.non, RU.bl, RU.int, RU.str] at ra rb
  all_goals subst ra rb
  all_goals first | rfl | exact ts_beq _ _
theorem mem_V {K : PySem.W.Frag} {H : AH} {m : Mm} {a : U} {x : V} (fa : flat a = true) (ra : RU K H m a x) : ∀ {us : List U} {vs : List V}, us.all flat = true → RUs K H m us vs → vs.all flatV = true ∧ inV x vs = us.any fun z => scEq z a
  | [], vs, _, r => by simp only [RUs] at r; subst r; exact ⟨rfl, rfl⟩
  | u :: us, vs, h, r => by
    obtain ⟨y, ys, rfl, r1, r2⟩ := r.cons_inv
    rw [List.all_cons, Bool.and_eq_true] at h
    obtain ⟨i1, i2⟩ := mem_V fa ra h.2 r2
    refine ⟨by rw [List.all_cons, flat_V h.1 r1, i1]; rfl, ?_⟩
    unfold inV at i2 ⊢
    rw [List.any_cons, List.any_cons, i2, scEq_V h.1 fa r1 ra]
theorem xorb (n b : Bool) : xor n b = if n then !b else b := by cases n <;> cases b <;> rfl
theorem mem_run (hu : X.A.units + 1 < cLine) {n : Bool} {pins : List (Addr × Obj)} {s : Shared} {σ : L2.St} {H : AH} {x y : V} {v u : Value} {Q : VK} (I : L2.Inv X pins σ H s) (rx : RelV x v) (ry : RelV y u)
    (hq : ∃ m h a b r h', Rel X.K m h H ∧ RU X.K H m a x ∧ RU X.K H m b y ∧ memU h a b n = .ok r h' ∧ ∀ m' H' v, Go m H m' H' → Rel X.K m' h' H' → RU X.K H' m' r v → Q v H') :
    wpAny (model X.prog X.w) X.A (compareOp (if n then .NotIn else .In) v u) (EP X pins σ Q) X.xe s := by
  obtain ⟨m, h, a, b, r, h', rl, r1, r2, e, k⟩ := hq
  -- a list or a tuple
  have seq : ∀ {xs : List U} {vs : List V} {p : Addr}, y = .ref p → (SqL X.K H p vs ∨ SqT X.K H p vs) → RUs X.K H m xs vs → gd (flat a && xs.all flat) (R.ok (U.bl (xor n (xs.any fun z => scEq z a))) h) = R.ok r h' →
      wpAny (model X.prog X.w) X.A (compareOp (if n then .NotIn else .In) v u) (EP X pins σ Q) X.xe s := fun {xs vs p} ey q rs e => by
    subst ey
    obtain ⟨hg, e⟩ := gd_inv e
    cases e
    rw [Bool.and_eq_true] at hg
    obtain ⟨m1, m2⟩ := mem_V hg.1 r1 hg.2 rs
    have q' : Q (.bl (if n then !inV x vs else inV x vs)) H := by rw [m2, ← xorb]; exact Cont.bl k rl
    cases n with
    | false => exact op_in_seq pins s σ H _ _ v u Q I rx ry ⟨p, vs, rfl, q, flat_V hg.1 r1, m1, q'⟩
    | true => exact op_notIn_seq pins s σ H _ _ v u Q I rx ry ⟨p, vs, rfl, q, flat_V hg.1 r1, m1, q'⟩
  cases b with
  | str t =>
    cases a <;> try (exact nomatch (show R.bad = R.ok _ _ from e))
    case str p =>
      obtain ⟨hg, e⟩ := gd_inv (show gd (!p.isEmpty) (R.ok (U.bl (xor n (decide (0 ≤ findL t p 0)))) h) = R.ok r h' from e)
      cases e
      rw [RU.str] at r1 r2
      subst r1 r2
      have q' : Q (.bl (if n then !decide (0 ≤ findL t p 0) else decide (0 ≤ findL t p 0))) H := by rw [← xorb]; exact Cont.bl k rl
      rw [← occ_ts (isE hg)] at q'
      cases n with
      | false => exact op_in_str pins s σ H _ _ v u Q I rx ry ⟨ts p, ts t, rfl, rfl, q'⟩
      | true => exact L2.op_notIn_str pins s σ H _ _ v u Q I rx ry ⟨ts p, ts t, rfl, rfl, q'⟩
  | tup xs =>
    obtain ⟨p, vs, e1, q, rs⟩ := RU.tup.mp r2
    exact seq e1 (.inr q) rs e
  | ref i =>
    have e : (match h[i]? with
      | some (.dic kvs) => gd (isKey a) (R.ok (U.bl (xor n (dget kvs a).isSome)) h)
      | some o => match Mp.items h (.ref i) with
        | some xs => gd (flat a && xs.all flat) (R.ok (U.bl (xor n (xs.any fun z => scEq z a))) h)
        | none => R.bad
      | none => R.bad) = R.ok r h' := e
    split at e
    · next kvs hi =>
      obtain ⟨hg, e⟩ := gd_inv e
      cases e
      obtain ⟨p, hm, rfl⟩ := RU.ref.mp r2
      obtain ⟨ws, q, rk⟩ := rl.dic hm hi
      obtain ⟨key, hk, rfl⟩ := key_of hg r1
      have hd := dget_ok rk hk
      have hs : (valV ws key).isSome = (dget kvs a).isSome := by
        cases hg' : dget kvs a with
        | none => rw [hg'] at hd; rw [hd]; rfl
        | some w => rw [hg'] at hd; obtain ⟨w', e1, _⟩ := hd; rw [e1]; rfl
      have q' : Q (.bl (if n then !(valV ws key).isSome else (valV ws key).isSome)) H := by rw [hs, ← xorb]; exact Cont.bl k rl
      cases ry
      cases n with
      | false => exact d_in hu I (DGet.k q) rx fun s' I' => ⟨.bl _, H, I', rfl, q'⟩
      | true => exact d_notIn hu I (DGet.k q) rx fun s' I' => ⟨.bl _, H, I', rfl, q'⟩
    · next o hi hno =>
      split at e
      · next xs e1 =>
        obtain ⟨p, vs, e2, q, rs⟩ := rl.itemsL r2 e1
        exact seq e2 (.inl q) rs e
      · cases e
    · cases e
  | non => cases (show R.bad = R.ok r h' from e)
  | bl _ => cases (show R.bad = R.ok r h' from e)
  | int _ => cases (show R.bad = R.ok r h' from e)
theorem op_pInn (hu : X.A.units + 1 < cLine) : OpR X (compareOp .In) (fun x y H Q => rP X.K pInn [x, y] H Q) := by
  intro pins s σ H x y v u Q I rx ry hq
  obtain ⟨m, h, us, r, h', rl, ru, e, k⟩ := hq
  obtain ⟨a, b, rfl, r1, r2⟩ := ru.of_two
  exact mem_run (n := false) hu I rx ry ⟨m, h, a, b, r, h', rl, r1, r2, e, k⟩
theorem op_pNin (hu : X.A.units + 1 < cLine) : OpR X (compareOp .NotIn) (fun x y H Q => rP X.K pNin [x, y] H Q) := by
  intro pins s σ H x y v u Q I rx ry hq
  obtain ⟨m, h, us, r, h', rl, ru, e, k⟩ := hq
  obtain ⟨a, b, rfl, r1, r2⟩ := ru.of_two
  exact mem_run (n := true) hu I rx ry ⟨m, h, a, b, r, h', rl, r1, r2, e, k⟩

theorem mt_pAppend : MtM X "list.append" (fun x xs H Q => rP X.K pAppend (x :: xs) H Q) := by
  intro pins s σ H x xs v us Q I rx rv hq
  obtain ⟨m, h, uu, r, h', rl, ru, e, k⟩ := hq
  obtain ⟨a, as, rfl, r1, r2⟩ := ru.of_cons
  cases as with
  | nil => cases a <;> cases (show R.bad = R.ok r h' from e)
  | cons b bs =>
    cases bs with
    | cons _ _ => cases a <;> cases (show R.bad = R.ok r h' from e)
    | nil =>
      cases a <;> try (exact nomatch (show R.bad = R.ok _ _ from e))
      case ref i =>
        have e : (match h[i]? with
          | some (.lst xs) => gd (decide (xs.length < SZ)) (R.ok .non (h.set i (.lst (xs ++ [b]))))
          | _ => R.bad) = R.ok r h' := e
        split at e
        · next ys hi =>
          obtain ⟨hg, e⟩ := gd_inv e
          cases e
          obtain ⟨y, rfl, r3⟩ := r2.one_inv
          obtain ⟨p, hm, rfl⟩ := RU.ref.mp r1
          obtain ⟨vs, q, rs⟩ := rl.lst hm hi
          refine mt_append pins s σ H _ _ v us Q I rx rv ⟨p, vs, y, rfl, rfl, q, ?_, ?_⟩
          · rw [← rs.length, ← sz_eq]; exact of_decide_eq_true hg
          · have x := Ext.upd_lst (o := .lst (vs ++ [y])) q
            have g : Go m H m (upd H p (.lst (vs ++ [y]))) := ⟨fun _ _ e => e, x⟩
            exact k m _ _ g (rl.put hm hi rfl x ⟨_, upd_same, (rs.append (.one r3)).go g⟩ rfl) (RU.non.mpr rfl)
        · cases e
end

section
variable {X : Cx}
theorem one_arg {K : PySem.W.Frag} {H : AH} {m : Mm} {us : List U} {vs : List V} (ru : RUs K H m us vs) (f : List U → Hm → R U) {h h' : Hm} {r : U} (e : f us h = .ok r h') (hf : ∀ us, us.length ≠ 1 → f us h = .bad) : ∃ a x, us = [a] ∧ vs = [x] ∧ RU K H m a x := by
  rcases us with _ | ⟨a, _ | ⟨b, us⟩⟩
  · rw [hf [] (by simp)] at e; cases e
  · obtain ⟨x, rfl, rx⟩ := ru.one_inv; exact ⟨a, x, rfl, rfl, rx⟩
  · rw [hf _ (by simp)] at e; cases e
theorem two_arg {K : PySem.W.Frag} {H : AH} {m : Mm} {us : List U} {vs : List V} (ru : RUs K H m us vs) (f : List U → Hm → R U) {h h' : Hm} {r : U} (e : f us h = .ok r h') (hf : ∀ us, us.length ≠ 2 → f us h = .bad) : ∃ a b x y, us = [a, b] ∧ vs = [x, y] ∧ RU K H m a x ∧ RU K H m b y := by
  rcases us with _ | ⟨a, _ | ⟨b, _ | ⟨c, us⟩⟩⟩
  · rw [hf [] (by simp)] at e; cases e
  · rw [hf _ (by simp)] at e; cases e
  · obtain ⟨x, y, rfl, rx, ry⟩ := ru.two_inv; exact ⟨a, b, x, y, rfl, rfl, rx, ry⟩
  · rw [hf _ (by simp)] at e; cases e
theorem call_pAbs : CallR X (.builtin "abs") (fun vs H Q => rP X.K pAbs vs H Q) := by
  intro pins s σ H xs us Q I rv hq
  obtain ⟨m, h, uu, r, h', rl, ru, e, k⟩ := hq
  obtain ⟨a, x, rfl, rfl, r1⟩ := one_arg ru pAbs e (by rintro (_ | ⟨a, _ | ⟨b, us⟩⟩) hn <;> first | rfl | (simp at hn; done) | (cases a <;> rfl))
  cases a <;> try (exact nomatch (show R.bad = R.ok _ _ from e))
  case int i =>
    cases (show R.ok (U.int (if i < 0 then -i else i)) h = _ from e)
    rw [RU.int] at r1; subst r1
    exact call_abs pins s σ H _ us Q I rv ⟨i, rfl, Cont.int k rl⟩
theorem call_pToInt : CallR X (.type "int") (fun vs H Q => rP X.K pToInt vs H Q) := by
  intro pins s σ H xs us Q I rv hq
  obtain ⟨m, h, uu, r, h', rl, ru, e, k⟩ := hq
  obtain ⟨a, x, rfl, rfl, r1⟩ := one_arg ru pToInt e (by rintro (_ | ⟨a, _ | ⟨b, us⟩⟩) hn <;> first | rfl | (simp at hn; done) | (cases a <;> rfl))
  cases a <;> try (exact nomatch (show R.bad = R.ok _ _ from e))
  case int i =>
    cases (show R.ok (U.int i) h = _ from e)
    rw [RU.int] at r1; subst r1
    exact call_int1 pins s σ H _ us Q I rv (.inl ⟨i, rfl, Cont.int k rl⟩)
  case bl i =>
    cases (show R.ok (U.int (if i then 1 else 0)) h = _ from e)
    rw [RU.bl] at r1; subst r1
    exact call_int1 pins s σ H _ us Q I rv (.inr ⟨i, rfl, Cont.int k rl⟩)
theorem call_pMin2 (hc : X.calm = true) : CallR X (.builtin "min") (fun vs H Q => rP X.K pMin2 vs H Q) := by
  intro pins s σ H xs us Q I rv hq
  obtain ⟨m, h, uu, r, h', rl, ru, e, k⟩ := hq
  obtain ⟨a, b, x, y, rfl, rfl, r1, r2⟩ := two_arg ru pMin2 e (by rintro (_ | ⟨a, _ | ⟨b, _ | ⟨c, us⟩⟩⟩) hn <;> first | rfl | (simp at hn; done) | (cases a <;> rfl) | (cases a <;> cases b <;> rfl))
  cases a <;> cases b <;> try (exact nomatch (show R.bad = R.ok _ _ from e))
  case int.int i j =>
    cases (show R.ok (U.int (if j < i then j else i)) h = _ from e)
    rw [RU.int] at r1 r2; subst r1 r2
    exact call_min2 hc pins s σ H _ us Q I rv ⟨i, j, rfl, Cont.int k rl⟩
theorem call_pMax2 (hc : X.calm = true) : CallR X (.builtin "max") (fun vs H Q => rP X.K pMax2 vs H Q) := by
  intro pins s σ H xs us Q I rv hq
  obtain ⟨m, h, uu, r, h', rl, ru, e, k⟩ := hq
  obtain ⟨a, b, x, y, rfl, rfl, r1, r2⟩ := two_arg ru pMax2 e (by rintro (_ | ⟨a, _ | ⟨b, _ | ⟨c, us⟩⟩⟩) hn <;> first | rfl | (simp at hn; done) | (cases a <;> rfl) | (cases a <;> cases b <;> rfl))
  cases a <;> cases b <;> try (exact nomatch (show R.bad = R.ok _ _ from e))
  case int.int i j =>
    cases (show R.ok (U.int (if i < j then j else i)) h = _ from e)
    rw [RU.int] at r1 r2; subst r1 r2
    exact call_max2 hc pins s σ H _ us Q I rv ⟨i, j, rfl, Cont.int k rl⟩
theorem minL_spec : ∀ (r : List Int) (i : Int), minL i r ∈ i :: r ∧ ∀ y ∈ i :: r, minL i r ≤ y
  | [], i => ⟨List.mem_singleton.mpr rfl, fun y hy => by rw [List.mem_singleton.mp hy]; exact Int.le_refl _⟩
  | j :: r, i => by
    obtain ⟨h1, h2⟩ := minL_spec r (if j < i then j else i)
    have h3 := h2 _ List.mem_cons_self
    have h4 : (if j < i then j else i) ≤ j ∧ (if j < i then j else i) ≤ i := by split <;> omega
    have h5 : (if j < i then j else i) = j ∨ (if j < i then j else i) = i := by split <;> simp
    show minL (if j < i then j else i) r ∈ _ ∧ ∀ y ∈ _, minL (if j < i then j else i) r ≤ y
    refine ⟨?_, fun y hy => ?_⟩
    · rcases List.mem_cons.mp h1 with e | e
      · rw [e]; rcases h5 with h5 | h5 <;> rw [h5] <;> simp
      · exact List.mem_cons_of_mem _ (List.mem_cons_of_mem _ e)
    · rcases List.mem_cons.mp hy with e | hy
      · rw [e]; exact Int.le_trans h3 h4.2
      · rcases List.mem_cons.mp hy with e | hy
        · rw [e]; exact Int.le_trans h3 h4.1
        · exact h2 y (List.mem_cons_of_mem _ hy)
theorem maxL_spec : ∀ (r : List Int) (i : Int), maxL i r ∈ i :: r ∧ ∀ y ∈ i :: r, y ≤ maxL i r
  | [], i => ⟨List.mem_singleton.mpr rfl, fun y hy => by rw [List.mem_singleton.mp hy]; exact Int.le_refl _⟩
  | j :: r, i => by
    obtain ⟨h1, h2⟩ := maxL_spec r (if i < j then j else i)
    have h3 := h2 _ List.mem_cons_self
    have h4 : j ≤ (if i < j then j else i) ∧ i ≤ (if i < j then j else i) := by split <;> omega
    have h5 : (if i < j then j else i) = j ∨ (if i < j then j else i) = i := by split <;> simp
    show maxL (if i < j then j else i) r ∈ _ ∧ ∀ y ∈ _, y ≤ maxL (if i < j then j else i) r
    refine ⟨?_, fun y hy => ?_⟩
    · rcases List.mem_cons.mp h1 with e | e
      · rw [e]; rcases h5 with h5 | h5 <;> rw [h5] <;> simp
      · exact List.mem_cons_of_mem _ (List.mem_cons_of_mem _ e)
    · rcases List.mem_cons.mp hy with e | hy
      · rw [e]; exact Int.le_trans h4.2 h3
      · rcases List.mem_cons.mp hy with e | hy
        · rw [e]; exact Int.le_trans h4.1 h3
        · exact h2 y (List.mem_cons_of_mem _ hy)
theorem call_pMin1 (hc : X.calm = true) : CallR X (.builtin "min") (fun vs H Q => rP X.K pMin1 vs H Q) := by
  intro pins s σ H xs us Q I rv hq
  obtain ⟨m, h, uu, r, h', rl, ru, e, k⟩ := hq
  obtain ⟨a, x, rfl, rfl, r1⟩ := one_arg ru pMin1 e (by rintro (_ | ⟨a, _ | ⟨b, us⟩⟩) hn <;> first | rfl | (simp at hn; done) | (cases a <;> rfl))
  cases a <;> try (exact nomatch (show R.bad = R.ok _ _ from e))
  case ref i =>
    have e : (match (Mp.items h (.ref i)).bind allInt with
      | some (i :: r) => R.ok (.int (minL i r)) h
      | _ => R.bad) = R.ok r h' := e
    split at e
    · next j l hb =>
      cases e
      obtain ⟨ys, e1, e2⟩ := Option.bind_eq_some_iff.mp hb
      obtain ⟨p, vs, rfl, q, rs⟩ := rl.itemsL r1 e1
      rw [allInt_ok e2 rs] at q
      refine cr_min hc pins s σ H _ us Q I rv ⟨p, j :: l, rfl, q, by simp, fun z hz hl => ?_⟩
      obtain ⟨g1, g2⟩ := minL_spec l j
      have : z = minL j l := Int.le_antisymm (hl _ g1) (g2 _ hz)
      subst this
      exact Cont.int k rl
    · cases e
theorem call_pMax1 (hc : X.calm = true) : CallR X (.builtin "max") (fun vs H Q => rP X.K pMax1 vs H Q) := by
  intro pins s σ H xs us Q I rv hq
  obtain ⟨m, h, uu, r, h', rl, ru, e, k⟩ := hq
  obtain ⟨a, x, rfl, rfl, r1⟩ := one_arg ru pMax1 e (by rintro (_ | ⟨a, _ | ⟨b, us⟩⟩) hn <;> first | rfl | (simp at hn; done) | (cases a <;> rfl))
  cases a <;> try (exact nomatch (show R.bad = R.ok _ _ from e))
  case ref i =>
    have e : (match (Mp.items h (.ref i)).bind allInt with
      | some (i :: r) => R.ok (.int (maxL i r)) h
      | _ => R.bad) = R.ok r h' := e
    split at e
    · next j l hb =>
      cases e
      obtain ⟨ys, e1, e2⟩ := Option.bind_eq_some_iff.mp hb
      obtain ⟨p, vs, rfl, q, rs⟩ := rl.itemsL r1 e1
      rw [allInt_ok e2 rs] at q
      refine cr_max hc pins s σ H _ us Q I rv ⟨p, j :: l, rfl, q, by simp, fun z hz hl => ?_⟩
      obtain ⟨g1, g2⟩ := maxL_spec l j
      have : z = maxL j l := Int.le_antisymm (g2 _ hz) (hl _ g1)
      subst this
      exact Cont.int k rl
    · cases e
theorem sum_tup {pins : List (Addr × Obj)} {s : Shared} {σ : L2.St} {H : AH} {p : Addr} {ns : List Int} {Q : VK} (hc : X.calm = true) (I : L2.Inv X pins σ H s) (q : SqT X.K H p (ns.map V.int)) (k : Q (.int ns.sum) H) :
    wpAny (model X.prog X.w) X.A (call (.builtin "sum") [.ref p]) (EP X pins σ Q) X.xe s := by
  obtain ⟨its, rv, ht, _⟩ := I.tuple q
  have hi := Vals.ints rv
  obtain ⟨xs, e⟩ := hi.allInts.items
  have hn : numsOf (intItems xs).toList = ns := by rw [← e]; exact hi.numsOf
  rw [nums_intItems] at hn
  rw [e] at ht
  refine PySem.W.ktm_sumG (I.ok.hd hc) ht fun h' tk t' hk => ⟨.int ns.sum, H, I.kept (t' := tk) hk, ⟨t', ?_⟩, k⟩
  rw [preSum_eq, List.take_of_length_le (by simp), hn]
theorem call_pSum1 (hc : X.calm = true) : CallR X (.builtin "sum") (fun vs H Q => rP X.K pSum1 vs H Q) := by
  intro pins s σ H xs us Q I rv hq
  obtain ⟨m, h, uu, r, h', rl, ru, e, k⟩ := hq
  obtain ⟨a, x, rfl, rfl, r1⟩ := one_arg ru pSum1 e (by rintro (_ | ⟨a, _ | ⟨b, us⟩⟩) hn <;> first | rfl | (simp at hn; done))
  have e : (match (Mp.items h a).bind allInt with
    | some l => R.ok (.int l.sum) h
    | _ => R.bad) = R.ok r h' := e
  split at e
  · next l hb =>
    cases e
    obtain ⟨ys, e1, e2⟩ := Option.bind_eq_some_iff.mp hb
    obtain ⟨p, vs, rfl, q, rs⟩ := rl.items r1 e1
    rw [allInt_ok e2 rs] at q
    rcases q with q | q
    · exact cr_sum hc pins s σ H _ us Q I rv ⟨p, l, rfl, q, Cont.int k rl⟩
    · obtain ⟨u, rfl, ru'⟩ := vals1 rv
      cases ru'
      exact sum_tup hc I q (Cont.int k rl)
  · cases e
theorem call_pToTuple : CallR X (.type "tuple") (fun vs H Q => rP X.K pToTuple vs H Q) := by
  intro pins s σ H xs us Q I rv hq
  obtain ⟨m, h, uu, r, h', rl, ru, e, k⟩ := hq
  obtain ⟨a, x, rfl, rfl, r1⟩ := one_arg ru pToTuple e (by rintro (_ | ⟨a, _ | ⟨b, us⟩⟩) hn <;> first | rfl | (simp at hn; done) | (cases a <;> rfl))
  cases a <;> try (exact nomatch (show R.bad = R.ok _ _ from e))
  case tup ys =>
    cases (show R.ok (U.tup ys) h = _ from e)
    obtain ⟨p, vs, rfl, q, rs⟩ := RU.tup.mp r1
    exact call_tuple_of pins s σ H _ us Q I rv ⟨p, vs, rfl, .inr ⟨q, Cont.same k rl r1⟩⟩
  case ref i =>
    have e : (match Mp.items h (.ref i) with
      | some xs => R.ok (.tup xs) h
      | none => R.bad) = R.ok r h' := e
    split at e
    · next ys e1 =>
      cases e
      obtain ⟨p, vs, rfl, q, rs⟩ := rl.itemsL r1 e1
      exact call_tuple_of pins s σ H _ us Q I rv ⟨p, vs, rfl, .inl ⟨q, Cont.newT k rl rs⟩⟩
    · cases e
theorem call_pToList : CallR X (.type "list") (fun vs H Q => rP X.K pToList vs H Q) := by
  intro pins s σ H xs us Q I rv hq
  obtain ⟨m, h, uu, r, h', rl, ru, e, k⟩ := hq
  obtain ⟨a, x, rfl, rfl, r1⟩ := one_arg ru pToList e (by rintro (_ | ⟨a, _ | ⟨b, us⟩⟩) hn <;> first | rfl | (simp at hn; done))
  have e : (match Mp.items h a with
    | some xs => Mp.new h (.lst xs)
    | none => R.bad) = R.ok r h' := e
  split at e
  · next ys e1 =>
    unfold Mp.new at e
    cases e
    obtain ⟨p, vs, rfl, q, rs⟩ := rl.items r1 e1
    exact call_list_of pins s σ H _ us Q I rv ⟨p, vs, rfl, q, Cont.newL k rl rs⟩
  · cases e
theorem allBl_ok {K : PySem.W.Frag} {m : Mm} {H : AH} : ∀ {xs : List U} {l : List Bool} {vs : List V}, allBl xs = some l → RUs K H m xs vs → vs = l.map V.bl
  | [], l, vs, e, r => by simp only [allBl] at e; cases e; simpa [RUs] using r
  | x :: xs, l, vs, e, r => by
    obtain ⟨y, ys, rfl, r1, r2⟩ := r.cons_inv
    cases x <;> simp only [allBl] at e <;> try (cases e; done)
    case bl i =>
      rw [Option.map_eq_some_iff] at e
      obtain ⟨l', e1, rfl⟩ := e
      rw [RU.bl] at r1
      subst r1
      rw [allBl_ok e1 r2]
      rfl
theorem call_pAll1 (hc : X.calm = true) : CallR X (.builtin "all") (fun vs H Q => rP X.K pAll1 vs H Q) := by
  intro pins s σ H xs us Q I rv hq
  obtain ⟨m, h, uu, r, h', rl, ru, e, k⟩ := hq
  obtain ⟨a, x, rfl, rfl, r1⟩ := one_arg ru pAll1 e (by rintro (_ | ⟨a, _ | ⟨b, us⟩⟩) hn <;> first | rfl | (simp at hn; done) | (cases a <;> rfl))
  cases a <;> try (exact nomatch (show R.bad = R.ok _ _ from e))
  case ref i =>
    have e : (match (Mp.items h (.ref i)).bind allBl with
      | some l => R.ok (.bl (l.all id)) h
      | none => R.bad) = R.ok r h' := e
    split at e
    · next l hb =>
      cases e
      obtain ⟨ys, e1, e2⟩ := Option.bind_eq_some_iff.mp hb
      obtain ⟨p, vs, rfl, q, rs⟩ := rl.itemsL r1 e1
      rw [allBl_ok e2 rs] at q
      exact cr_all hc pins s σ H _ us Q I rv ⟨p, l, rfl, q, Cont.bl k rl⟩
    · cases e
def Tn.name : Tn → String
  | .non => "NoneType"
  | .bool => "bool"
  | .int => "int"
  | .str => "str"
  | .tuple => "tuple"
  | .list => "list"
  | .dict => "dict"
theorem kit_isSub (K : PySem.W.Frag) (a b : Tn) : PySem.W.kitOne K (.type a.name) (.type b.name) = some (isSub a b) := by
  refine kit_ty ?_
  cases a <;> cases b <;> decide +kernel
theorem tyN_ok {K : PySem.W.Frag} {H : AH} {m : Mm} {h : Hm} {a : U} {x : V} {t : Tn} (rl : Rel K m h H) (r : RU K H m a x) (e : tyN h a = some t) : TyX K H x (.type t.name) := by
  cases a with
  | non => rw [RU.non] at r; subst r; cases e; exact .base .non
  | bl b => rw [RU.bl] at r; subst r; cases e; exact .base (.bl b)
  | int b => rw [RU.int] at r; subst r; cases e; exact .base (.int b)
  | str b => rw [RU.str] at r; subst r; cases e; exact .base (.str _)
  | tup xs =>
    obtain ⟨p, vs, rfl, q, rs⟩ := RU.tup.mp r
    cases e
    rcases q with (q | ⟨o, q⟩) | ⟨o, its, n, q, qc, _⟩
    · exact .base (.tup q)
    · exact .fTuple q
    · exact .kTuple q qc
  | ref i =>
    obtain ⟨p, hm, rfl⟩ := RU.ref.mp r
    simp only [tyN] at e
    cases hi : h[i]? with
    | none => rw [hi] at e; cases e
    | some o =>
      rw [hi] at e
      cases o with
      | lst xs => cases e; obtain ⟨vs, q, _⟩ := rl.lst hm hi; exact .base (.lst q)
      | frz xs =>
        cases e
        obtain ⟨vs, q, _⟩ := rl.frz hm hi
        rcases q with ⟨o, q⟩ | ⟨o, its, n, q, qc, _⟩
        · exact .base (.frz q)
        · exact .kList q qc
      | dic xs => cases e; obtain ⟨vs, q, _⟩ := rl.dic hm hi; exact .base (.dK q)
/-- isinstance, the class handed in -/
theorem call_pIsi (T : Tn) : CallR X (.builtin "isinstance") (fun vs H Q => ∃ x, vs = [x, .ty T.name] ∧ rP X.K (pIsi T) [x] H Q) := by
  intro pins s σ H xs us Q I rv hq
  obtain ⟨x, rfl, m, h, uu, r, h', rl, ru, e, k⟩ := hq
  obtain ⟨a, rfl, r1⟩ := ru.of_one
  have e : (match tyN h a with
    | some t => R.ok (.bl (isSub t T)) h
    | none => R.bad) = R.ok r h' := e
  split at e
  · next t ht =>
    cases e
    exact call_isi pins s σ H _ us Q I rv ⟨x, .ty T.name, _, _, _, rfl, .ty _, tyN_ok rl r1 ht, kit_isSub X.K t T, Cont.bl k rl⟩
  · cases e
end
end Mp

set_option Elab.async false
set_option linter.all false
set_option maxRecDepth 100000
namespace Mp
open PySem PySem.Spec PyProof.Rows L2 TL

theorem tsS (s : String) : (s : Str) = ts (tl (s : Str)) := (ts_tl _).symm
theorem num_ts (i : Int) : ((toString i : String) : Str) = ts (numT i) := by
  refine ext_tl ?_
  rw [tl_ts]
  cases i with
  | ofNat n =>
    have h : ¬ ((Int.ofNat n) < 0) := by simp
    unfold numT
    rw [if_neg h]
    exact TL.tl_num n
  | negSucc n =>
    have h : (Int.negSucc n) < 0 := Int.negSucc_lt_zero n
    unfold numT
    rw [if_pos h]
    have e : (toString (Int.negSucc n) : String) = "-" ++ toString (n + 1) := rfl
    rw [e]
    have e2 : Str.ofString ("-" ++ toString (n + 1)) = Str.ofString "-" ++ Str.ofString (toString (n + 1)) := by
      refine ext_tl ?_
      rw [TL.tl_append, TL.tl_ofString, TL.tl_ofString, TL.tl_ofString]
      simp
    show tl (Str.ofString _) = _
    rw [e2, TL.tl_append]
    have e3 := TL.tl_num (n + 1)
    have e4 : (toString (((n + 1 : Nat)) : Int) : String) = toString (n + 1) := rfl
    rw [e4] at e3
    rw [e3]
    rfl
theorem quote_ts {s : List Nat} (h : s.all (fun c => decide (32 ≤ c) && decide (c ≤ 126) && !(c == 39) && !(c == 92)) = true) : reprText (ts s) = ts (39 :: s ++ [39]) := by
  have h0 : (ts s).cps.contains 39 = false := by
    rw [Bool.eq_false_iff]
    intro hc
    have hm : 39 ∈ s := by
      have := Array.contains_iff_mem.mp hc
      simpa [ts] using this
    have := List.all_eq_true.mp h 39 hm
    simp at this
  have hq : reprQuote (ts s) = 39 := by
    unfold reprQuote
    rw [h0]; rfl
  unfold reprText
  rw [hq]
  refine ext_tl ?_
  rw [tl_ts]
  show (((ts s).cps.foldl (fun out c => out ++ (Builtin.Str.reprChar 39 c).toArray) #[39]).push 39).toList = _
  rw [Array.toList_push]
  have key : ∀ (l : List Nat) (acc : Array Nat), l.all (fun c => decide (32 ≤ c) && decide (c ≤ 126) && !(c == 39) && !(c == 92)) = true → (l.foldl (fun out c => out ++ (Builtin.Str.reprChar 39 c).toArray) acc).toList = acc.toList ++ l := by
    intro l
    induction l with
    | nil => intro acc _; simp
    | cons c r ih =>
      intro acc hl
      rw [List.all_cons, Bool.and_eq_true] at hl
      rw [List.foldl_cons, ih _ hl.2]
      simp only [Bool.and_eq_true, decide_eq_true_eq, Bool.not_eq_true', beq_eq_false_iff_ne] at hl
      obtain ⟨⟨⟨⟨a1, a2⟩, a3⟩, a4⟩, _⟩ := hl
      have e : Builtin.Str.reprChar 39 c = [c] := by
        have all : ∀ c : Fin 128, 32 ≤ c.val → c.val ≤ 126 → c.val ≠ 39 → c.val ≠ 92 → Builtin.Str.reprChar 39 c.val = [c.val] := by decide +kernel
        exact all ⟨c, by omega⟩ a1 a2 a3 a4
      rw [e]; simp
  have := key s #[39] h
  rw [← Array.foldl_toList]
  show ((s.foldl (fun out c => out ++ (Builtin.Str.reprChar 39 c).toArray) #[39]).toList ++ [39]) = _
  rw [this]
  simp
mutual
theorem D.shown_py : ∀ d : D, D.rok d = true → PyData.shown d.py = ts d.shown
  | .non, _ => by simp only [D.py, D.shown, PyData.shown]; exact ext_tl rfl
  | .bl true, _ => by simp only [D.py, D.shown, PyData.shown]; exact ext_tl rfl
  | .bl false, _ => by simp only [D.py, D.shown, PyData.shown]; exact ext_tl rfl
  | .int i, _ => by simp only [D.py, D.shown, PyData.shown]; exact num_ts i
  | .str s, h => by simp only [D.py, D.shown, PyData.shown]; exact quote_ts h
  | .lst xs, h => by
    simp only [D.rok] at h
    simp only [D.py, D.shown]
    rw [PyData.shown_list, D.showns_py xs h]
    have e1 : ("[" : Str) = ts [91] := ext_tl rfl
    have e2 : ("]" : Str) = ts [93] := ext_tl rfl
    have e3 : (", " : Str) = ts [44, 32] := ext_tl rfl
    rw [e1, e2, e3, join_ts, ts_append, ts_append]
    rfl
  | .tup xs, h => by
    simp only [D.rok] at h
    simp only [D.py, D.shown]
    rw [PyData.shown_tuple, D.showns_py xs h]
    have e1 : ("(" : Str) = ts [40] := ext_tl rfl
    have e3 : (", " : Str) = ts [44, 32] := ext_tl rfl
    have hl : (D.pys xs).length = xs.length := D.pys_len xs
    rw [e1, e3, join_ts, ts_append, hl]
    have e4 : (((if xs.length == 1 then ",)" else ")" : String)) : Str) = ts (if xs.length == 1 then [44, 41] else [41]) := by
      split <;> exact ext_tl rfl
    rw [e4, ts_append]
    rfl
theorem D.showns_py : ∀ d : List D, D.roks d = true → PyData.shownAll (D.pys d) = (D.showns d).map ts
  | [], _ => by simp only [D.pys, D.showns, PyData.shownAll, List.map_nil]
  | x :: xs, h => by
    simp only [D.roks, Bool.and_eq_true] at h
    simp only [D.pys, D.showns, PyData.shownAll, List.map_cons, D.shown_py x h.1, D.showns_py xs h.2]
theorem D.pys_len : ∀ d : List D, (D.pys d).length = d.length
  | [] => rfl
  | x :: xs => by simp only [D.pys, List.length_cons, D.pys_len xs]
end
mutual
theorem D.showable : ∀ d : D, D.rok d = true → PyData.showable d.py = true
  | .non, _ => by simp only [D.py, PyData.showable]
  | .bl true, _ => by simp only [D.py, PyData.showable]
  | .bl false, _ => by simp only [D.py, PyData.showable]
  | .int i, h => by simp only [D.rok] at h; simp only [D.py, PyData.showable, h]
  | .str s, h => by simp only [D.py, PyData.showable]
  | .lst xs, h => by simp only [D.rok] at h; simp only [D.py, PyData.showable, D.showables xs h]
  | .tup xs, h => by simp only [D.rok] at h; simp only [D.py, PyData.showable, D.showables xs h]
theorem D.showables : ∀ d : List D, D.roks d = true → PyData.showableAll (D.pys d) = true
  | [], _ => by simp only [D.pys, PyData.showableAll]
  | x :: xs, h => by
    simp only [D.roks, Bool.and_eq_true] at h
    simp only [D.pys, PyData.showableAll, D.showable x h.1, D.showables xs h.2, Bool.and_self]
end
mutual
theorem D.nodict : ∀ d : D, PyData.hasDict d.py = false
  | .non => by simp only [D.py, PyData.hasDict]
  | .bl _ => by simp only [D.py, PyData.hasDict]
  | .int i => by simp only [D.py, PyData.hasDict]
  | .str s => by simp only [D.py, PyData.hasDict]
  | .lst xs => by simp only [D.py, PyData.hasDict, D.nodicts xs]
  | .tup xs => by simp only [D.py, PyData.hasDict, D.nodicts xs]
theorem D.nodicts : ∀ d : List D, PyData.hasDictAll (D.pys d) = false
  | [] => by simp only [D.pys, PyData.hasDictAll]
  | x :: xs => by simp only [D.pys, PyData.hasDictAll, D.nodict x, D.nodicts xs, Bool.or_self]
end
section
variable {X : Cx}
theorem call_pRepr (hg : X.A.guards = some []) (hu : X.A.units + 64 < cLine) : CallR X (.builtin "repr") (fun vs H Q => rP X.K pRepr vs H Q) := by
  intro pins s σ H xs us Q I rv hq
  obtain ⟨m, h, uu, r, h', rl, ru, e, k⟩ := hq
  obtain ⟨a, x, rfl, rfl, r1⟩ := one_arg ru pRepr e (by rintro (_ | ⟨a, _ | ⟨b, us⟩⟩) hn <;> first | rfl | (simp at hn; done))
  have e : (match toD h 12 a with
    | some d => gd (isRef a && D.rok d && decide (d.shown.length ≤ SZ)) (R.ok (.str d.shown) h)
    | none => R.bad) = R.ok r h' := e
  split at e
  · next d hd =>
    obtain ⟨hgd, e⟩ := gd_inv e
    cases e
    simp only [Bool.and_eq_true, decide_eq_true_eq] at hgd
    obtain ⟨⟨g1, g2⟩, g3⟩ := hgd
    obtain ⟨p, rfl⟩ : ∃ p, x = .ref p := by
      cases a <;> first | (cases g1; done) | skip
      · obtain ⟨p, vs, e, _⟩ := RU.tup.mp r1; exact ⟨p, e⟩
      · obtain ⟨p, _, e⟩ := RU.ref.mp r1; exact ⟨p, e⟩
    obtain ⟨u, rfl, rx⟩ := vals1 rv
    obtain ⟨as, rd⟩ := Dp.reads I d.py (.ref p) u (toD_dp rl 12 a _ d r1 hd) rx
    cases rx
    have hdep := toD_depth h 12 a d hd
    refine repr_of_reads' rd (D.showable d g2) (fun z => by rw [D.nodict] at z; cases z) hg (by omega) (fun b o e => e) (fun h2 u' tk hk => ⟨.str (ts d.shown), H, I.kept (t' := tk) hk, ⟨u', ?_⟩, Cont.str k rl⟩) ?_
    · rw [D.shown_py d g2]
    · rw [D.shown_py d g2, ts_len, ← sz_eq]; exact g3
  · cases e
end
end Mp

set_option Elab.async false
set_option linter.all false
set_option maxRecDepth 100000
set_option maxHeartbeats 1000000
namespace Mp
open PySem PySem.Spec PyProof.Rows L2 TL
variable {X : Cx} {tg : Expr}

mutual
theorem U.beq_eq : ∀ {a b : U}, U.beq a b = true → a = b
  | .non, .non, _ => rfl
  | .bl a, .bl b, h => by simp only [U.beq, beq_iff_eq] at h; rw [h]
  | .int a, .int b, h => by simp only [U.beq, beq_iff_eq] at h; rw [h]
  | .str a, .str b, h => by simp only [U.beq, beq_iff_eq] at h; rw [h]
  | .tup a, .tup b, h => by simp only [U.beq] at h; rw [U.beqs_eq h]
  | .ref a, .ref b, h => by simp only [U.beq, beq_iff_eq] at h; rw [h]
  | .non, .bl _, h => by simp [U.beq] at h
  | .non, .int _, h => by simp [U.beq] at h
  | .non, .str _, h => by simp [U.beq] at h
  | .non, .tup _, h => by simp [U.beq] at h
  | .non, .ref _, h => by simp [U.beq] at h
  | .bl _, .non, h => by simp [U.beq] at h
  | .bl _, .int _, h => by simp [U.beq] at h
  | .bl _, .str _, h => by simp [U.beq] at h
  | .bl _, .tup _, h => by simp [U.beq] at h
  | .bl _, .ref _, h => by simp [U.beq] at h
  | .int _, .non, h => by simp [U.beq] at h
  | .int _, .bl _, h => by simp [U.beq] at h
  | .int _, .str _, h => by simp [U.beq] at h
  | .int _, .tup _, h => by simp [U.beq] at h
  | .int _, .ref _, h => by simp [U.beq] at h
  | .str _, .non, h => by simp [U.beq] at h
  | .str _, .bl _, h => by simp [U.beq] at h
  | .str _, .int _, h => by simp [U.beq] at h
  | .str _, .tup _, h => by simp [U.beq] at h
  | .str _, .ref _, h => by simp [U.beq] at h
  | .tup _, .non, h => by simp [U.beq] at h
  | .tup _, .bl _, h => by simp [U.beq] at h
  | .tup _, .int _, h => by simp [U.beq] at h
  | .tup _, .str _, h => by simp [U.beq] at h
  | .tup _, .ref _, h => by simp [U.beq] at h
  | .ref _, .non, h => by simp [U.beq] at h
  | .ref _, .bl _, h => by simp [U.beq] at h
  | .ref _, .int _, h => by simp [U.beq] at h
  | .ref _, .str _, h => by simp [U.beq] at h
  | .ref _, .tup _, h => by simp [U.beq] at h
theorem U.beqs_eq : ∀ {a b : List U}, U.beqs a b = true → a = b
  | [], [], _ => rfl
  | x :: xs, y :: ys, h => by
    simp only [U.beqs, Bool.and_eq_true] at h
    rw [U.beq_eq h.1, U.beqs_eq h.2]
  | [], _ :: _, h => by simp [U.beqs] at h
  | _ :: _, [], h => by simp [U.beqs] at h
end
theorem O.beqKv_eq : ∀ {a b : List (U × U)}, O.beqKv a b = true → a = b
  | [], [], _ => rfl
  | (a, b) :: r, (c, d) :: s, h => by
    simp only [O.beqKv, Bool.and_eq_true] at h
    rw [U.beq_eq h.1.1, U.beq_eq h.1.2, O.beqKv_eq h.2]
  | [], _ :: _, h => by simp [O.beqKv] at h
  | _ :: _, [], h => by simp [O.beqKv] at h
theorem O.beq_eq {a b : O} (h : O.beq a b = true) : a = b := by
  cases a with
  | lst xs => cases b with
    | lst ys => simp only [O.beq] at h; rw [U.beqs_eq h]
    | frz ys => simp [O.beq] at h
    | dic ys => simp [O.beq] at h
  | frz xs => cases b with
    | frz ys => simp only [O.beq] at h; rw [U.beqs_eq h]
    | lst ys => simp [O.beq] at h
    | dic ys => simp [O.beq] at h
  | dic xs => cases b with
    | dic ys => simp only [O.beq] at h; rw [O.beqKv_eq h]
    | lst ys => simp [O.beq] at h
    | frz ys => simp [O.beq] at h
theorem obeq_eq {a b : Option O} (h : obeq a b = true) : ∃ o, a = some o ∧ b = some o := by
  cases a with
  | none => simp [obeq] at h
  | some x => cases b with
    | none => simp [obeq] at h
    | some y => simp only [obeq] at h; rw [O.beq_eq h]; exact ⟨y, rfl, rfl⟩
theorem still_get {h0 h : Hm} {g : List Nat} {i : Nat} (e : still h0 h g = true) (hi : i ∈ g) : ∃ o, h0[i]? = some o ∧ h[i]? = some o :=
  obeq_eq (List.all_eq_true.mp e i hi)
theorem still_app {h0 h : Hm} {g g' : List Nat} : still h0 h (g ++ g') = true ↔ still h0 h g = true ∧ still h0 h g' = true := by
  unfold still
  rw [List.all_append, Bool.and_eq_true]

inductive Src where
  | L (a : Addr) | T (a : Addr) | S (x : Str) (t : Tok)
def Src.has (K : PySem.W.Frag) (H : AH) : Src → List V → Prop
  | .L a, xs => SqL K H a xs
  | .T a, xs => SqT K H a xs
  | .S x _, xs => xs = (tl x).map fun c => V.str (ts [c])
def Src.iter : Src → Heap → Addr → Nat → Prop
  | .L a, h, it, i => h.IsListIter it a i
  | .T a, h, it, i => h.IsTupleIter it a i
  | .S x t, h, it, i => h.IsStrIter it (strIterType x) x t i
def Src.fp : Src → Addr → List Addr
  | .L a, it => [it, a]
  | .T a, it => [it, a]
  | .S _ _, it => [it]
def Src.low : Src → Nat → Prop
  | .L a, n => a < n
  | .T a, n => a < n
  | .S _ _, _ => True
def Src.val : Src → Value
  | .L a => .ref a
  | .T a => .ref a
  | .S x t => .str x t
def Src.obj : Src → Obj
  | .L a => { cls := .type "list_iterator", data := .fields #[.ref a, .int 0 0] }
  | .T a => { cls := .type "tuple_iterator", data := .fields #[.ref a, .int 0 0] }
  | .S x t => { cls := .type (strIterType x), data := .fields #[.str x t, .int 0 0] }
def Src.olds : Src → List Addr
  | .L a => [a]
  | .T a => [a]
  | .S _ _ => []
section
variable {src : Src} {pins : List (Addr × Obj)} {σ : L2.St} {H : AH} {s : Shared} {xs : List V}
theorem Src.live {h : Heap} {it : Addr} {i : Nat} (st : src.iter h it i) : ∃ o, h.get? it = some o ∧ ∀ v, o.data ≠ .cell v := by
  cases src with
  | L a => obtain ⟨o, e, c, d⟩ := st; exact ⟨o, e, fun v z => by rw [d] at z; cases z⟩
  | T a => obtain ⟨o, e, c, d⟩ := st; exact ⟨o, e, fun v z => by rw [d] at z; cases z⟩
  | S x t => obtain ⟨o, e, c, d⟩ := st; exact ⟨o, e, fun v z => by rw [d] at z; cases z⟩
theorem Src.iter_at {h h' : Heap} {it : Addr} {i : Nat} (st : src.iter h it i) (k : ∀ o, h.get? it = some o → h'.get? it = some o) : src.iter h' it i := by
  cases src with
  | L a => exact Heap.IsListIter.at st k
  | T a => exact Heap.IsTupleIter.at st k
  | S x t => obtain ⟨o, e, r⟩ := st; exact ⟨o, k o e, r⟩
theorem Src.iter0 {h : Heap} {it : Addr} (e : h.get? it = some src.obj) : src.iter h it 0 := by
  cases src with
  | L a => exact ⟨_, e, rfl, rfl⟩
  | T a => exact ⟨_, e, rfl, rfl⟩
  | S x t => exact ⟨_, e, rfl, rfl⟩
theorem Src.fp_eq (it : Addr) : src.fp it = it :: src.olds := by cases src <;> rfl
theorem Src.low_of (I : Inv X pins σ H s) (h : src.has X.K H xs) : ∀ b ∈ src.olds, b < s.heap.objs.size := by
  cases src with
  | L a => obtain ⟨its, rv, p, hz⟩ := I.list h; intro b hb; rw [List.mem_singleton.mp hb]; exact p.lt
  | T a =>
    obtain ⟨its, rv, p, hz⟩ := I.tuple h
    intro b hb; rw [List.mem_singleton.mp hb]
    obtain ⟨o, e, _⟩ := p
    exact Heap.lt_size e
  | S x t => intro b hb; cases hb
theorem Src.draws (I : Inv X pins σ H s) (hc : X.calm = true) (h : src.has X.K H xs) (it : Addr) (ho : it ∉ src.olds) :
    ∃ (P : Nat → Value → Prop) (St : Nat → Heap → Prop), Draws X.prog X.w X.A.in1 it (src.fp it) xs.length P St ∧ (∀ i, src.iter s.heap it i → St i s.heap) ∧ (∀ i h, St i h → src.iter h it i) ∧
      ∀ i u, P i u → ∃ x, xs[i]? = some x ∧ RelV x u := by
  have hh : X.A.in1.handled = none := I.ok.hd hc
  have get : ∀ {its : List Value}, Vals xs its → ∀ (i : Nat) (u : Value), its.toArray[i]? = some u → ∃ x, xs[i]? = some x ∧ RelV x u := fun {its} rv i u e => by
    have e' : its[i]? = some u := by simpa using e
    have hl : i < xs.length := by rw [rv.length]; exact (List.getElem?_eq_some_iff.mp e').1
    obtain ⟨v, hv, r⟩ := rv.get (List.getElem?_eq_getElem hl)
    rw [e'] at hv; cases hv
    exact ⟨_, List.getElem?_eq_getElem hl, r⟩
  cases src with
  | L a =>
    obtain ⟨its, rv, p, hz⟩ := I.list h
    have hl : xs.length = its.toArray.size := by rw [rv.length]; simp
    rw [hl]
    exact ⟨_, _, Draws.list hh it a (fun z => ho (by simp [Src.olds, z])) its.toArray, fun i st => ⟨st, p.isList⟩, fun i h st => st.1, get rv⟩
  | T a =>
    obtain ⟨its, rv, p, hz⟩ := I.tuple h
    have hl : xs.length = its.toArray.size := by rw [rv.length]; simp
    rw [hl]
    exact ⟨_, _, Draws.tuple hh it a (fun z => ho (by simp [Src.olds, z])) its.toArray, fun i st => ⟨st, p⟩, fun i h st => st.1, get rv⟩
  | S x t =>
    have hl : xs.length = x.cps.size := by
      have h' : xs = (tl x).map fun c => V.str (ts [c]) := h
      rw [h', List.length_map]; rfl
    rw [hl]
    refine ⟨_, _, Draws.text hh it x t, fun i st => st, fun i h st => st, fun i u hu => ?_⟩
    obtain ⟨c, w, e, rfl⟩ := hu
    have h' : xs = (tl x).map fun c => V.str (ts [c]) := h
    refine ⟨.str (ts [c]), ?_, ⟨w, rfl⟩⟩
    rw [h', List.getElem?_map]
    have : (tl x)[i]? = some c := by rw [tl]; simpa using e
    rw [this]; rfl
theorem Src.begins (I : Inv X pins σ H s) (h : src.has X.K H xs) : ∃ Hb, Begins src.val src.obj Hb ∧ Hb s.heap := by
  cases src with
  | L a => obtain ⟨its, rv, p, hz⟩ := I.list h; exact ⟨_, begins_list a its.toArray, p.isList⟩
  | T a => obtain ⟨its, rv, p, hz⟩ := I.tuple h; exact ⟨_, begins_tuple a its.toArray, p⟩
  | S x t => exact ⟨_, begins_text x t, trivial⟩
theorem Src.inj {ys : List V} (I : Inv X pins σ H s) (h : src.has X.K H xs) (h' : src.has X.K H ys) : ys = xs := by
  cases src with
  | L a => exact I.list_inj h' h
  | T a => exact I.tuple_inj h' h
  | S x t => exact Eq.trans h' (Eq.symm h)
end
end Mp

set_option Elab.async false
set_option linter.all false
set_option maxRecDepth 100000
set_option maxHeartbeats 1000000
namespace Mp
open PySem PySem.Spec PyProof.Rows L2 TL
variable {X : Cx} {tg : Expr}

def Src.oneIt (K : PySem.W.Frag) (src : Src) : L2.It :=
  ⟨fun i H => ∃ vs, src.has K H vs ∧ i < vs.length, fun i H x H' => H' = H ∧ ∀ vs, src.has K H vs → vs[i]? = some x, fun i H => ∃ vs, src.has K H vs ∧ i = vs.length⟩
def Src.enumIt (K : PySem.W.Frag) (src : Src) : L2.It :=
  ⟨fun i H => ∃ vs, src.has K H vs ∧ i < vs.length, fun i H v H' => ∃ T x, v = .ref T ∧ H T = none ∧ H' = upd H T (.tup [.int (i : Nat), x]) ∧ ∀ vs, src.has K H vs → vs[i]? = some x, fun i H => ∃ vs, src.has K H vs ∧ i = vs.length⟩
def Src.zipIt (K : PySem.W.Frag) (a b : Src) : L2.It :=
  ⟨fun i H => ∃ vs ws, a.has K H vs ∧ b.has K H ws ∧ i < vs.length ∧ i < ws.length,
    fun i H v H' => ∃ T x y, v = .ref T ∧ H T = none ∧ H' = upd H T (.tup [x, y]) ∧ (∀ vs, a.has K H vs → vs[i]? = some x) ∧ ∀ vs, b.has K H vs → vs[i]? = some y,
    fun i H => ∃ vs ws, a.has K H vs ∧ b.has K H ws ∧ i = min vs.length ws.length⟩

theorem turn_mono {P : Program} {w : World} {K : PySem.W.Frag} {J J' : L2.It} {fp : List Addr} {it : Addr} {tn : Nat → Heap → Prop} (T : Turn P w K tg J fp it tn) (hg : ∀ i H, J'.go i H → J.go i H)
    (hy : ∀ i H x H', J'.go i H → J.yld i H x H' → J'.yld i H x H') (hs : ∀ i H, J'.stop i H → J.stop i H) : Turn P w K tg J' fp it tn where
  mem := T.mem
  obj := T.obj
  keep := T.keep
  item := fun X hP hw hK hc i pins s σ H E I hf st hj => thn (T.item X hP hw hK hc i pins s σ H E I hf st (hg i H hj)) fun r s1 ⟨u, e, q⟩ => ⟨u, e, thn q fun _ s2 ⟨x, H', I', r', y, st', f⟩ => ⟨x, H', I', r', hy i H x H' hj y, st', f⟩⟩
  done := fun X hP hw hK hc i pins s σ H E I hf st hj => T.done X hP hw hK hc i pins s σ H E I hf st (hs i H hj)
  self := T.self

theorem turn_src {P : Program} {w : World} {K : PySem.W.Frag} (src : Src) (it : Addr) : Turn P w K tg (src.oneIt K) [it] it (fun i h => src.iter h it i) := by
  cases src with
  | L a =>
    refine turn_mono (turn_list a it) (fun i H q => ?_) (fun i H x H' _ y => y) fun i H q => ?_
    · obtain ⟨vs, h, hi⟩ := q; exact ⟨vs, vs[i], h, List.getElem?_eq_getElem hi⟩
    · obtain ⟨vs, h, hi⟩ := q; exact ⟨vs, h, by omega⟩
  | T a =>
    refine turn_mono (turn_tuple a it) (fun i H q => ?_) (fun i H x H' _ y => y) fun i H q => ?_
    · obtain ⟨vs, h, hi⟩ := q; exact ⟨vs, vs[i], h, List.getElem?_eq_getElem hi⟩
    · obtain ⟨vs, h, hi⟩ := q; exact ⟨vs, h, by omega⟩
  | S x t =>
    have hty : strIterType x = "str_ascii_iterator" ∨ strIterType x = "str_iterator" := by
      unfold strIterType; cases x.cps.all (· < 128)
      · exact .inr rfl
      · exact .inl rfl
    have hl : ∀ {vs : List V} {H : AH}, (Src.S x t).has K H vs → vs.length = x.cps.size := fun {vs H} h => by
      have h' : vs = (tl x).map fun c => V.str (ts [c]) := h
      rw [h', List.length_map]; rfl
    refine turn_mono (turn_str it x t (strIterType x) hty) (fun i H q => ?_) (fun i H v H' _ y => ?_) fun i H q => ?_
    · obtain ⟨vs, h, hi⟩ := q; rw [hl h] at hi; exact hi
    · obtain ⟨e, c, hc, rfl⟩ := y
      refine ⟨e, fun vs h => ?_⟩
      have h' : vs = (tl x).map fun c => V.str (ts [c]) := h
      rw [h', List.getElem?_map]
      have : (tl x)[i]? = some c := by rw [tl]; simpa using hc
      rw [this]; rfl
    · obtain ⟨vs, h, hi⟩ := q; rw [hl h] at hi; exact Nat.le_of_eq hi.symm

theorem turn_enumS {P : Program} {w : World} {K : PySem.W.Frag} {elts : List Expr} {kk : Nat} {tpos : Pos} (src : Src) (e it : Addr) (ho : it ∉ src.olds) (hne : e ≠ it) (hef : e ∉ src.fp it) :
    Turn P w K (.Tuple elts kk tpos) (src.enumIt K) [e, it] e (fun i h => (∃ old, IsEnum h e it ((i : Nat) : Int) old) ∧ src.iter h it i) where
  mem := by simp
  obj := fun i h st b hb => by
    obtain ⟨⟨old, he⟩, hi⟩ := st
    have e' : b = e ∨ b = it := by simpa using hb
    rcases e' with z | z
    · rw [z]; exact ⟨_, he, fun v q => nomatch q⟩
    · rw [z]; exact Src.live hi
  keep := fun i h h' st k => let ⟨⟨old, he⟩, hi⟩ := st; ⟨⟨old, k e (by simp) _ he⟩, Src.iter_at hi fun o q => k it (by simp) o q⟩
  item := by
    intro X hP hw hK hc i pins s σ H E I hf st hg
    subst hP hw hK
    obtain ⟨⟨old, he⟩, hit⟩ := st
    obtain ⟨vs, hv, hi⟩ := hg
    obtain ⟨Pp, St, D, toSt, ofSt, hP⟩ := Src.draws I hc hv it ho
    have hel : e < s.heap.objs.size := Heap.lt_size he
    have hil : it < s.heap.objs.size := by obtain ⟨_, q, _⟩ := Src.live hit; exact Heap.lt_size q
    refine wpAny_pyNext_enum_itemC D he (toSt i hit) hi hne hef fun u h' tk hPu ho hit' hT hsz hk => ?_
    obtain ⟨x, hx, ru⟩ := hP i u hPu
    refine ⟨_, rfl, wpAny_letOwnedTupleGo_enum (s := { s with heap := h', toks := tk + 1 }) ho fun h'' he' sb => ?_⟩
    have hT2 : h''.get? s.heap.objs.size = some { cls := .type "tuple", data := .seq #[.int i tk, u] } := (sb.2 _ (Nat.ne_of_gt hel)).trans hT
    have new : ObjOk X.prog X.w (upd H s.heap.objs.size (.tup [.int (i : Nat), x])) h'' s.heap.objs.size (.tup [.int (i : Nat), x]) :=
      ⟨by show 2 ≤ sizeLine; decide, [.int i tk, u], .cons ⟨_, rfl⟩ (.cons ru .nil), ⟨_, hT2, rfl, _, rfl⟩⟩
    have I1 : Inv X pins σ (upd H s.heap.objs.size (.tup [.int (i : Nat), x])) { s with heap := h'', toks := tk + 1 } :=
      I.turnedNew (ch := [e, it]) (fun b ob hb q => (sb.2 b (fun z => hb (by simp [z]))).trans (hk b ob (fun z => hb (by simp [z])) (fun z => hb (by simp [z])) q)) hf (Nat.le_refl _) new
    refine ⟨.ref s.heap.objs.size, _, I1, rfl, ⟨_, x, rfl, I.hok.fresh (Nat.le_refl _), rfl, fun ys hy => by rw [Src.inj I hv hy]; exact hx⟩, ⟨⟨u, ?_⟩, Src.iter_at (ofSt _ _ hit') fun o q => (sb.2 it (Ne.symm hne)).trans q⟩, fun b hb => ?_⟩
    · have e1 : ((i + 1 : Nat) : Int) = (i : Int) + 1 := by omega
      rw [e1]; exact he'
    · have hb' : b < s.heap.objs.size := by
        have e' : b = e ∨ b = it := by simpa using hb
        rcases e' with z | z
        · rw [z]; exact hel
        · rw [z]; exact hil
      rw [upd_ne (Nat.ne_of_lt hb')]
      exact (hf b hb).1
  done := by
    intro X hP hw hK hc i pins s σ H E I hf st hg
    subst hP hw hK
    obtain ⟨⟨old, he⟩, hit⟩ := st
    obtain ⟨vs, hv, hi⟩ := hg
    obtain ⟨Pp, St, D, toSt, ofSt, hP⟩ := Src.draws I hc hv it ho
    obtain ⟨f0, f1, f2, f3, f4, f5⟩ := hf it (by simp)
    subst hi
    exact wpAny_pyNext_enum_endD D he (toSt _ hit) fun h' eb => ⟨rfl, I.turned (t' := s.toks) (fun b o hb q => eb b o hb q) f0 f1 f3 f4 f5⟩
  self := fun A i s Q E st h => let ⟨⟨_, he⟩, _⟩ := st; wpAny_pyIter_enum he h

theorem turn_zipS {P : Program} {w : World} {K : PySem.W.Frag} {elts : List Expr} {kk : Nat} {tpos : Pos} (a b : Src) {z TI TO i1 i2 : Addr} (S : ZipSep2 z TI TO i1 i2 (a.fp i1) (b.fp i2)) (o1 : i1 ∉ a.olds) (o2 : i2 ∉ b.olds) :
    Turn P w K (.Tuple elts kk tpos) (Src.zipIt K a b) [z, TI, TO, i1, i2] z (fun i h => IsZip h z TI TO .none ∧ IsTupOf2 h TI (.ref i1) (.ref i2) ∧ (∃ x y, IsTupOf2 h TO x y) ∧ a.iter h i1 i ∧ b.iter h i2 i) where
  mem := by simp
  obj := fun i h st c hc => by
    obtain ⟨hz, hTI, ⟨x, y, hTO⟩, h1, h2⟩ := st
    have e' : c = z ∨ c = TI ∨ c = TO ∨ c = i1 ∨ c = i2 := by simpa using hc
    rcases e' with q | q | q | q | q
    · rw [q]; exact ⟨_, hz, fun v q => nomatch q⟩
    · rw [q]; exact ⟨_, hTI, fun v q => nomatch q⟩
    · rw [q]; exact ⟨_, hTO, fun v q => nomatch q⟩
    · rw [q]; exact Src.live h1
    · rw [q]; exact Src.live h2
  keep := fun i h h' st k => by
    obtain ⟨hz, hTI, ⟨x, y, hTO⟩, h1, h2⟩ := st
    exact ⟨k z (by simp) _ hz, k TI (by simp) _ hTI, ⟨x, y, k TO (by simp) _ hTO⟩, Src.iter_at h1 fun o q => k i1 (by simp) o q, Src.iter_at h2 fun o q => k i2 (by simp) o q⟩
  item := by
    intro X hP hw hK hc i pins s σ H E I hf st hg
    subst hP hw hK
    obtain ⟨hz, hTI, ⟨x0, y0, hTO⟩, h1, h2⟩ := st
    obtain ⟨vs, ws, hv, hw', hi, hi'⟩ := hg
    obtain ⟨P1, St1, D1, toSt1, ofSt1, hP1⟩ := Src.draws I hc hv i1 o1
    obtain ⟨P2, St2, D2, toSt2, ofSt2, hP2⟩ := Src.draws I hc hw' i2 o2
    have hzl : z < s.heap.objs.size := Heap.lt_size hz
    refine wpAny_pyNext_zipD2_item S D1 D2 hz hTI hTO (toSt1 _ h1) (toSt2 _ h2) hi hi' fun u u2 h' tk p1 p2 z' TO' h1' h2' hT hsz hk => ?_
    obtain ⟨x, hx, ru⟩ := hP1 i u p1
    obtain ⟨y, hy, ru2⟩ := hP2 i u2 p2
    refine ⟨_, rfl, wpAny_letOwnedTupleGo_zip (s := { s with heap := h', toks := tk }) z' fun h'' z'' sb => ?_⟩
    have hT2 : h''.get? s.heap.objs.size = some { cls := .type "tuple", data := .seq #[u, u2] } := (sb.2 _ (Nat.ne_of_gt hzl)).trans hT
    have new : ObjOk X.prog X.w (upd H s.heap.objs.size (.tup [x, y])) h'' s.heap.objs.size (.tup [x, y]) :=
      ⟨by show 2 ≤ sizeLine; decide, [u, u2], .cons ru (.cons ru2 .nil), ⟨_, hT2, rfl, _, rfl⟩⟩
    have I1 : Inv X pins σ (upd H s.heap.objs.size (.tup [x, y])) { s with heap := h'', toks := tk } :=
      I.turnedNew (ch := [z, TI, TO, i1, i2]) (fun c o hb q => (sb.2 c (fun q' => hb (by simp [q']))).trans (hk c o (fun q' => hb (by simp [q'])) (fun q' => hb (by simp [q'])) (fun q' => hb (by simp [q'])) (fun q' => hb (by simp [q'])) q)) hf (Nat.le_refl _) new
    refine ⟨.ref s.heap.objs.size, _, I1, rfl, ⟨_, x, y, rfl, I.hok.fresh (Nat.le_refl _), rfl, fun l hl => by rw [Src.inj I hv hl]; exact hx, fun l hl => by rw [Src.inj I hw' hl]; exact hy⟩, ⟨z'', ?_, ⟨u, u2, ?_⟩, ?_, ?_⟩, fun c hcm => ?_⟩
    · exact (sb.2 _ S.TIz).trans (hk _ _ S.TIz S.TITO S.TIi1 S.TIi2 hTI)
    · exact (sb.2 _ S.TOz).trans TO'
    · exact Src.iter_at (ofSt1 _ _ h1') fun o q => (sb.2 _ (Ne.symm S.zi1)).trans q
    · exact Src.iter_at (ofSt2 _ _ h2') fun o q => (sb.2 _ (Ne.symm S.zi2)).trans q
    · have hlt : c < s.heap.objs.size := by
        have e' : c = z ∨ c = TI ∨ c = TO ∨ c = i1 ∨ c = i2 := by simpa using hcm
        rcases e' with q | q | q | q | q
        · rw [q]; exact hzl
        · rw [q]; exact Heap.lt_size hTI
        · rw [q]; exact Heap.lt_size hTO
        · rw [q]; obtain ⟨_, e1, _⟩ := Src.live h1; exact Heap.lt_size e1
        · rw [q]; obtain ⟨_, e2, _⟩ := Src.live h2; exact Heap.lt_size e2
      rw [upd_ne (Nat.ne_of_lt hlt)]
      exact (hf c hcm).1
  done := by
    intro X hP hw hK hc i pins s σ H E I hf st hg
    subst hP hw hK
    obtain ⟨hz, hTI, ⟨x0, y0, hTO⟩, h1, h2⟩ := st
    obtain ⟨vs, ws, hv, hw', hi⟩ := hg
    obtain ⟨P1, St1, D1, toSt1, ofSt1, hP1⟩ := Src.draws I hc hv i1 o1
    obtain ⟨P2, St2, D2, toSt2, ofSt2, hP2⟩ := Src.draws I hc hw' i2 o2
    exact wpAny_pyNext_zipD2_end S D1 D2 hz hTI hTO (toSt1 _ h1) (toSt2 _ h2) (by omega) (by omega) (by omega) fun h' tk hk => ⟨rfl, I.turnedL (t' := tk) (ch := [z, TI, TO, i1, i2]) (fun c o hb q =>
      hk c o (fun q' => hb (by simp [q'])) (fun q' => hb (by simp [q'])) (fun q' => hb (by simp [q'])) (fun q' => hb (by simp [q'])) q) hf⟩
  self := fun A i s Q E st h => wpAny_pyIter_zip st.1 h

theorem meets_enumB {v : Value} {o : Obj} {H : Heap → Prop} (B : Begins v o H) :
    Meets (Builtin.«enumerate.__new__» ⟨[.type "enumerate", v], []⟩) (fun _ R s => H s.heap ∧
      R (.ok (.ret (.ref (s.heap.push o).objs.size))) { s with heap := (s.heap.push o).push { cls := .type "enumerate", data := .fields #[.none, .bool false, .ref s.heap.objs.size, rawInt 0, .none, .none] } }) :=
  .of_wp fun prog w A R s h => by
    obtain ⟨hp, g, d, tk, os⟩ := s; obtain ⟨h1, h⟩ := h
    have hsub := sub_enumerate
    have q1 : ∀ {A' : Around} {E : Value → Shared → Prop} {Q : Value → Shared → Prop}, Q (.ref hp.objs.size) ⟨hp.push o, g, d, tk, os⟩ → wpAny (model prog w) A' (pyIter v) Q E ⟨hp, g, d, tk, os⟩ :=
      fun q => B.iter prog w _ _ ⟨hp, g, d, tk, os⟩ _ h1 q
    wp_walk using q1
    refine wpAny_stack_any fun st => wpAny_pure ?_
    split
    · rename_i c _ _ _ _ _
      cases (c == Value.type "enumerate")
      · wp_walk using q1
        exact ⟨_, rfl, h⟩
      · wp_walk using q1
        exact ⟨_, rfl, h⟩
    · wp_walk using q1
      exact ⟨_, rfl, h⟩
theorem enum1_begins {prog : Program} {w : World} {A : Around} {E : Value → Shared → Prop} {s : Shared} {v : Value} {o : Obj} {H : Heap → Prop} {Q : Value → Shared → Prop} (B : Begins v o H) (h1 : H s.heap)
    (h : ∀ h', IsEnum h' (s.heap.objs.size + 1) s.heap.objs.size 0 .none → h'.get? s.heap.objs.size = some o → h'.objs.size = s.heap.objs.size + 2 →
      (∀ b o, s.heap.get? b = some o → h'.get? b = some o) → Q (.ref (s.heap.objs.size + 1)) { s with heap := h' }) :
    wpAny (model prog w) A (call (.type "enumerate") [v]) Q E s := by
  refine callType_new F.called_enumerate (by decide) (F.typeCall_enumerate_1 _) (F.newCall_enumerate_1 _) (fun obj => F.args_object_init_2 obj _) F.entry_enumerate_new
    (meets_enumB B) ⟨h1, ?_⟩
  have hz : (s.heap.push o).objs.size = s.heap.objs.size + 1 := Heap.size_push ..
  show _ ∧ _
  rw [hz]
  have he : IsEnum ((s.heap.push o).push { cls := .type "enumerate", data := .fields #[.none, .bool false, .ref s.heap.objs.size, rawInt 0, .none, .none] }) (s.heap.objs.size + 1) s.heap.objs.size 0 .none := by
    have := Heap.get?_push_size (s.heap.push o) (o := { cls := .type "enumerate", data := .fields #[.none, .bool false, .ref s.heap.objs.size, rawInt 0, .none, .none] }) rfl
    rw [hz] at this; exact this
  refine ⟨⟨_, he, rfl⟩, h _ he (Heap.get?_push_of_some _ (Heap.get?_push_size _ B.free)) (by rw [Heap.size_push, hz]) fun b o x => Heap.get?_push_of_some _ (Heap.get?_push_of_some _ x)⟩

section
variable {pins : List (Addr × Obj)} {σ : L2.St} {H : AH} {s : Shared} {R : L2.It → AH → Prop} {vs ws : List V}
theorem it_one {src : Src} (I : Inv X pins σ H s) (h : src.has X.K H vs) (q : R (src.oneIt X.K) H) : wpAny (model X.prog X.w) X.A (pyIter src.val) (PIE X pins σ tg R) X.xe s := by
  obtain ⟨Hb, B, hb⟩ := Src.begins I h
  exact B.iter X.prog X.w X.A X.xe s _ hb (pi_one (tk := s.toks) I _ (turn_src src _) (Src.iter0 (Heap.get?_push_size _ B.free)) q)
theorem it_enum {src : Src} {elts : List Expr} {kk : Nat} {tpos : Pos} (I : Inv X pins σ H s) (h : src.has X.K H vs) (q : R (src.enumIt X.K) H) :
    wpAny (model X.prog X.w) X.A (call (.type "enumerate") [src.val]) (fun v s1 => wpAny (model X.prog X.w) X.A (pyIter v) (PIE X pins σ (.Tuple elts kk tpos) R) X.xe s1) X.xe s := by
  obtain ⟨Hb, B, hb⟩ := Src.begins I h
  have low := Src.low_of I h
  refine enum1_begins B hb fun h' he hit hsz hk => wpAny_pyIter_enum he ?_
  have I2 : Inv X pins σ H { s with heap := h' } := I.kept (t' := s.toks) hk
  have nlow : ∀ n, s.heap.objs.size ≤ n → n ∉ src.olds := fun n hn z => Nat.lt_irrefl _ (Nat.lt_of_lt_of_le (low n z) hn)
  refine ⟨s.heap.objs.size + 1, [s.heap.objs.size + 1, s.heap.objs.size], _, _, H, rfl, I2, turn_enumS src (s.heap.objs.size + 1) s.heap.objs.size (nlow _ (Nat.le_refl _)) (Nat.succ_ne_self _) (by
    rw [Src.fp_eq]
    intro z
    rcases List.mem_cons.mp z with z | z
    · exact Nat.succ_ne_self _ z
    · exact nlow _ (Nat.le_add_right _ _) z), ⟨⟨.none, he⟩, Src.iter0 hit⟩, fun b hb => ?_, q⟩
  have e' : b = s.heap.objs.size + 1 ∨ b = s.heap.objs.size := by simpa using hb
  have hle : s.heap.objs.size ≤ b := by
    rcases e' with z | z
    · rw [z]; exact Nat.le_add_right _ _
    · rw [z]; exact Nat.le_refl _
  exact I.fpOk hle (I.hok.fresh hle)
theorem it_zip {a b : Src} {elts : List Expr} {kk : Nat} {tpos : Pos} (I : Inv X pins σ H s) (h : a.has X.K H vs) (h2 : b.has X.K H ws) (q : R (Src.zipIt X.K a b) H) :
    wpAny (model X.prog X.w) X.A (call (.type "zip") [a.val, b.val]) (fun v s1 => wpAny (model X.prog X.w) X.A (pyIter v) (PIE X pins σ (.Tuple elts kk tpos) R) X.xe s1) X.xe s := by
  obtain ⟨Hb, B, hb⟩ := Src.begins I h
  obtain ⟨Hb2, B2, hb2⟩ := Src.begins I h2
  have low := Src.low_of I h
  have low2 := Src.low_of I h2
  refine zip_begins2 B B2 hb hb2 fun h' hz hTI hTO h1 h2' hsz hk => wpAny_pyIter_zip hz ?_
  have I2 : Inv X pins σ H { s with heap := h' } := I.kept (t' := s.toks) hk
  have sep := zip_sep2 low low2
  rw [← Src.fp_eq, ← Src.fp_eq] at sep
  refine ⟨s.heap.objs.size + 4, [s.heap.objs.size + 4, s.heap.objs.size + 2, s.heap.objs.size + 3, s.heap.objs.size, s.heap.objs.size + 1], _, _, H, rfl, I2, turn_zipS a b sep
    (fun z => Nat.lt_irrefl _ (low _ z)) (fun z => Nat.lt_irrefl _ (Nat.lt_of_le_of_lt (Nat.le_add_right _ _) (low2 _ z))), ⟨hz, hTI, ⟨_, _, hTO⟩, Src.iter0 h1, Src.iter0 h2'⟩, fun c hcm => ?_, q⟩
  have e' : c = s.heap.objs.size + 4 ∨ c = s.heap.objs.size + 2 ∨ c = s.heap.objs.size + 3 ∨ c = s.heap.objs.size ∨ c = s.heap.objs.size + 1 := by simpa using hcm
  have hle : s.heap.objs.size ≤ c := by
    rcases e' with z | z | z | z | z
    · rw [z]; exact Nat.le_add_right _ _
    · rw [z]; exact Nat.le_add_right _ _
    · rw [z]; exact Nat.le_add_right _ _
    · rw [z]; exact Nat.le_refl _
    · rw [z]; exact Nat.le_add_right _ _
  exact I.fpOk hle (I.hok.fresh hle)
end
end Mp

set_option Elab.async false
set_option linter.all false
set_option maxRecDepth 100000
set_option maxHeartbeats 1000000
namespace Mp
open PySem PySem.Spec PyProof.Rows L2 TL

structure Wk (K : PySem.W.Frag) (m1 : Mm) (h1 : Hm) (H1 : AH) (xs : List U) (g : List Nat) (J : L2.It) : Prop where
  go : ∀ i m' h' H', i < xs.length → Go m1 H1 m' H' → Rel K m' h' H' → still h1 h' g = true → J.go i H'
  yld : ∀ i m' h' H' x H'', i < xs.length → Go m1 H1 m' H' → Rel K m' h' H' → still h1 h' g = true → J.yld i H' x H'' → ∃ u, xs[i]? = some u ∧ Ext H' H'' ∧ Rel K m' h' H'' ∧ RU K H'' m' u x
  stop : ∀ m' h' H', Go m1 H1 m' H' → Rel K m' h' H' → still h1 h' g = true → J.stop xs.length H'
def SrcOk (K : PySem.W.Frag) (m1 : Mm) (h1 : Hm) (H1 : AH) (xs : List U) (g : List Nat) (src : Src) : Prop :=
  ∀ m' h' H', Go m1 H1 m' H' → Rel K m' h' H' → still h1 h' g = true → ∃ vs, src.has K H' vs ∧ RUs K H' m' xs vs

section
variable {K : PySem.W.Frag} {m1 : Mm} {h1 : Hm} {H1 : AH} {xs ys : List U} {g g' : List Nat}
theorem RUs.strs {H : AH} {m : Mm} : ∀ (s : List Nat), RUs K H m (s.map fun c => .str [c]) (s.map fun c => V.str (ts [c]))
  | [] => .nil
  | c :: s => .cons (RU.str.mpr rfl) (RUs.strs s)
theorem src_of {u : U} {v : V} {w : Value} (rl : Rel K m1 h1 H1) (ru : RU K H1 m1 u v) (e : walked h1 u = some (xs, g)) (rv : RelV v w) : ∃ src : Src, w = src.val ∧ SrcOk K m1 h1 H1 xs g src ∧ ∃ vs, src.has K H1 vs := by
  cases u with
  | tup ys =>
    simp only [walked] at e; cases e
    obtain ⟨a, vs, rfl, q, rs⟩ := RU.tup.mp ru
    exact ⟨.T a, rv, fun m' h' H' go _ _ => ⟨vs, SqT.ext go.ext q, rs.go go⟩, vs, q⟩
  | str s =>
    simp only [walked] at e; cases e
    rw [RU.str] at ru; subst ru
    obtain ⟨t, rfl⟩ := rv
    exact ⟨.S (ts s) t, rfl, fun m' h' H' go _ _ => ⟨_, rfl, by rw [tl_ts]; exact RUs.strs s⟩, _, rfl⟩
  | ref i =>
    obtain ⟨a, hm, rfl⟩ := RU.ref.mp ru
    simp only [walked] at e
    cases hi : h1[i]? with
    | none => rw [hi] at e; cases e
    | some o =>
      rw [hi] at e
      cases o with
      | lst zs =>
        cases e
        refine ⟨.L a, rv, fun m' h' H' go rl' st => ?_, let ⟨vs, p, _⟩ := rl.lst hm hi; ⟨vs, SqL.of p⟩⟩
        obtain ⟨o, e1, e2⟩ := still_get st (List.mem_singleton_self i)
        rw [hi] at e1; cases e1
        obtain ⟨vs, p, q⟩ := rl'.lst (go.sub _ _ hm) e2
        exact ⟨vs, SqL.of p, q⟩
      | frz zs =>
        cases e
        refine ⟨.L a, rv, fun m' h' H' go rl' st => ?_, let ⟨vs, p, _⟩ := rl.frz hm hi; ⟨vs, p.sq⟩⟩
        obtain ⟨o, e1, e2⟩ := still_get st (List.mem_singleton_self i)
        rw [hi] at e1; cases e1
        obtain ⟨vs, p, q⟩ := rl'.frz (go.sub _ _ hm) e2
        exact ⟨vs, p.sq, q⟩
      | dic kvs => cases e
  | _ => simp only [walked] at e; cases e

theorem Rel.tupNew {m : Mm} {h : Hm} {H : AH} {T : Addr} {vs : List V} (r : Rel K m h H) (hT : H T = none) : Rel K m h (upd H T (.tup vs)) :=
  ⟨fun i a e => let ⟨o, e1, q⟩ := r.ob i a e; ⟨o, e1, q.keep ⟨fun _ _ e => e, Ext.upd_new hT⟩ fun mu => let ⟨z, hz⟩ := q.there mu; upd_ne (ne_of_none hz hT)⟩, r.inj⟩
theorem RU.pairNew {m : Mm} {H : AH} {T : Addr} {x y : U} {v w : V} (hT : H T = none) (a : RU K H m x v) (b : RU K H m y w) : RU K (upd H T (.tup [v, w])) m (.tup [x, y]) (.ref T) :=
  RU.tup.mpr ⟨T, [v, w], rfl, SqT.of (upd_same ..), RUs.go ⟨fun _ _ e => e, Ext.upd_new hT⟩ (.cons a (.one b))⟩

theorem wk_one {src : Src} (h : SrcOk K m1 h1 H1 xs g src) : Wk K m1 h1 H1 xs g (src.oneIt K) := by
  refine ⟨fun i m' h' H' hi go rl st => ?_, fun i m' h' H' x H'' hi go rl st y => ?_, fun m' h' H' go rl st => ?_⟩
  · obtain ⟨vs, p, q⟩ := h m' h' H' go rl st
    exact ⟨vs, p, by rw [← q.length]; exact hi⟩
  · obtain ⟨vs, p, q⟩ := h m' h' H' go rl st
    obtain ⟨rfl, y⟩ := y
    obtain ⟨v, e, r⟩ := q.get (List.getElem?_eq_getElem hi)
    rw [y vs p] at e; cases e
    exact ⟨_, List.getElem?_eq_getElem hi, Ext.refl, rl, r⟩
  · obtain ⟨vs, p, q⟩ := h m' h' H' go rl st
    exact ⟨vs, p, q.length⟩
theorem enumU_length : ∀ (n : Nat) (xs : List U), (enumU n xs).length = xs.length
  | _, [] => rfl
  | n, x :: xs => by simp [enumU, enumU_length (n + 1) xs]
theorem enumU_get : ∀ (n i : Nat) (xs : List U), (enumU n xs)[i]? = xs[i]?.map fun x => .tup [.int (n + i : Nat), x]
  | _, _, [] => by simp [enumU]
  | n, 0, x :: xs => by simp [enumU]
  | n, i + 1, x :: xs => by
    rw [enumU, List.getElem?_cons_succ, enumU_get (n + 1) i xs, List.getElem?_cons_succ]
    have : n + 1 + i = n + (i + 1) := by omega
    rw [this]
theorem zipU_length : ∀ (xs ys : List U), (zipU xs ys).length = min xs.length ys.length
  | [], ys => by simp [zipU]
  | x :: xs, [] => by simp [zipU]
  | x :: xs, y :: ys => by simp [zipU, zipU_length xs ys]
theorem zipU_get : ∀ (i : Nat) (xs ys : List U) (x y : U), xs[i]? = some x → ys[i]? = some y → (zipU xs ys)[i]? = some (.tup [x, y])
  | _, [], _, _, _, h, _ => by simp at h
  | _, _ :: _, [], _, _, _, h => by simp at h
  | 0, x :: xs, y :: ys, a, b, h, h' => by simp at h h'; subst h; subst h'; rfl
  | i + 1, x :: xs, y :: ys, a, b, h, h' => zipU_get i xs ys a b (by simpa using h) (by simpa using h')
theorem wk_enum {src : Src} (h : SrcOk K m1 h1 H1 xs g src) : Wk K m1 h1 H1 (enumU 0 xs) g (src.enumIt K) := by
  refine ⟨fun i m' h' H' hi go rl st => ?_, fun i m' h' H' x H'' hi go rl st y => ?_, fun m' h' H' go rl st => ?_⟩
  · obtain ⟨vs, p, q⟩ := h m' h' H' go rl st
    rw [enumU_length] at hi
    exact ⟨vs, p, by rw [← q.length]; exact hi⟩
  · obtain ⟨vs, p, q⟩ := h m' h' H' go rl st
    rw [enumU_length] at hi
    obtain ⟨T, x', rfl, hT, rfl, y⟩ := y
    obtain ⟨v, e, r⟩ := q.get (List.getElem?_eq_getElem hi)
    rw [y vs p] at e; cases e
    refine ⟨_, by rw [enumU_get, List.getElem?_eq_getElem hi]; rfl, Ext.upd_new hT, rl.tupNew hT, RU.pairNew hT (RU.int.mpr ?_) r⟩
    rw [Nat.zero_add]
  · obtain ⟨vs, p, q⟩ := h m' h' H' go rl st
    exact ⟨vs, p, by rw [enumU_length]; exact q.length⟩
theorem wk_zip {a b : Src} (h : SrcOk K m1 h1 H1 xs g a) (h2 : SrcOk K m1 h1 H1 ys g' b) : Wk K m1 h1 H1 (zipU xs ys) (g ++ g') (Src.zipIt K a b) := by
  refine ⟨fun i m' h' H' hi go rl st => ?_, fun i m' h' H' x H'' hi go rl st y => ?_, fun m' h' H' go rl st => ?_⟩
  · rw [still_app] at st
    obtain ⟨vs, p, q⟩ := h m' h' H' go rl st.1
    obtain ⟨ws, p2, q2⟩ := h2 m' h' H' go rl st.2
    rw [zipU_length] at hi
    exact ⟨vs, ws, p, p2, by rw [← q.length]; omega, by rw [← q2.length]; omega⟩
  · rw [still_app] at st
    obtain ⟨vs, p, q⟩ := h m' h' H' go rl st.1
    obtain ⟨ws, p2, q2⟩ := h2 m' h' H' go rl st.2
    rw [zipU_length] at hi
    obtain ⟨T, x', y', rfl, hT, rfl, y1, y2⟩ := y
    have hi1 : i < xs.length := by omega
    have hi2 : i < ys.length := by omega
    obtain ⟨v, e, r⟩ := q.get (List.getElem?_eq_getElem hi1)
    rw [y1 vs p] at e; cases e
    obtain ⟨v, e, r2⟩ := q2.get (List.getElem?_eq_getElem hi2)
    rw [y2 ws p2] at e; cases e
    exact ⟨_, zipU_get _ _ _ _ _ (List.getElem?_eq_getElem hi1) (List.getElem?_eq_getElem hi2), Ext.upd_new hT, rl.tupNew hT, RU.pairNew hT r r2⟩
  · rw [still_app] at st
    obtain ⟨vs, p, q⟩ := h m' h' H' go rl st.1
    obtain ⟨ws, p2, q2⟩ := h2 m' h' H' go rl st.2
    exact ⟨vs, ws, p, p2, by rw [zipU_length, q.length, q2.length]⟩
theorem upTo_length (a c : Int) : ∀ n : Nat, (upTo a c n).length = n
  | 0 => rfl
  | n + 1 => by simp [upTo, upTo_length (a + c) c n]
theorem upTo_get : ∀ (i n : Nat) (a c : Int), i < n → (upTo a c n)[i]? = some (.int (a + (i : Nat) * c))
  | _, 0, _, _, h => by omega
  | 0, n + 1, a, c, _ => by simp [upTo]
  | i + 1, n + 1, a, c, h => by
    rw [upTo, List.getElem?_cons_succ, upTo_get i n (a + c) c (by omega)]
    have e : a + c + (i : Nat) * c = a + ((i + 1 : Nat) : Int) * c := by
      rw [Int.natCast_add, Int.add_mul]; simp only [Int.natCast_one, Int.one_mul]; omega
    rw [e]
theorem wk_itr {lo : Int} {n : Nat} : Wk K m1 h1 H1 (upTo lo 1 n) [] (Itr lo n) := by
  refine ⟨fun i m' h' H' hi go rl st => ?_, fun i m' h' H' x H'' hi go rl st y => ?_, fun m' h' H' go rl st => ?_⟩
  · rw [upTo_length] at hi; exact hi
  · rw [upTo_length] at hi
    obtain ⟨rfl, rfl⟩ := y
    refine ⟨_, upTo_get i n lo 1 hi, Ext.refl, rl, RU.int.mpr ?_⟩
    rw [Int.mul_one]
  · rw [upTo_length]; exact Nat.le_refl _
theorem wk_itc {lo c : Int} {n : Nat} : Wk K m1 h1 H1 (upTo lo c n) [] (Itc lo c n) := by
  refine ⟨fun i m' h' H' hi go rl st => ?_, fun i m' h' H' x H'' hi go rl st y => ?_, fun m' h' H' go rl st => ?_⟩
  · rw [upTo_length] at hi; exact hi
  · rw [upTo_length] at hi
    obtain ⟨rfl, rfl⟩ := y
    exact ⟨_, upTo_get i n lo c hi, Ext.refl, rl, RU.int.mpr rfl⟩
  · rw [upTo_length]; exact Nat.le_refl _
end

def tI (K : PySem.W.Frag) (cl : Nat → List U → Hm → R U) (x : Mp.It) : TI := fun σ H R =>
  ∃ m r h p h1, RSt K H m r σ ∧ Rel K m h H ∧ evi cl x r h = .ok p h1 ∧ ∀ m1 H1 J, Go m H m1 H1 → Rel K m1 h1 H1 → Wk K m1 h1 H1 p.1 p.2 J → R J H1
def rI (K : PySem.W.Frag) (f : List U → Hm → R (List U × List Nat)) (vs : List V) (H : AH) (R : L2.It → AH → Prop) : Prop :=
  ∃ m h us p h1, Rel K m h H ∧ RUs K H m us vs ∧ f us h = .ok p h1 ∧ ∀ m1 H1 J, Go m H m1 H1 → Rel K m1 h1 H1 → Wk K m1 h1 H1 p.1 p.2 J → R J H1
section
variable {X : Cx} {cl : Nat → List U → Hm → R U} {tg e : Expr} {x : Ex} {es : Exs} {σ : L2.St} {H : AH} {Q : L2.It → AH → Prop} {K : PySem.W.Frag}
theorem tI_call {k : Ik} (q : tI K cl (.call k es) σ H Q) : tSs K cl es σ H fun vs H1 => rI K (itR k) vs H1 Q := by
  obtain ⟨m, r, h, p, h1, st, rl, ev, cont⟩ := q
  rw [evi] at ev
  obtain ⟨us, h2, e1, e2⟩ := R.bind_inv ev
  exact ⟨m, r, h, us, h2, st, rl, e1, fun m' H' vs go rl' rs => ⟨m', h2, us, p, h1, rl', rs, e2, fun m1 H1 J go' => cont m1 H1 J (go.trans go')⟩⟩
theorem pi_ofE (he : PE X e (tS X.K cl x)) : PI X tg e (tI X.K cl (.ofE x)) := by
  refine ⟨fun pins s σ H R' I hw => ?_⟩
  obtain ⟨m, r, h, p, h1, st, rl, ev, cont⟩ := hw
  rw [evi] at ev
  obtain ⟨u, h2, e1, e2⟩ := R.bind_inv ev
  split at e2
  · rename_i p' hp
    cases e2
    refine thn (he.run pins s σ H (fun v H1 => ∃ m1, Go m H m1 H1 ∧ Rel X.K m1 h1 H1 ∧ RU X.K H1 m1 u v) I ⟨m, r, h, u, h1, st, rl, e1, fun m' H' v go rl' ru => ⟨m', go, rl', ru⟩⟩) fun w s1 ⟨v, H1, I1, rv, m1, go, rl1, ru⟩ => ?_
    obtain ⟨src, rfl, ok, vs, hv⟩ := src_of (xs := p.1) (g := p.2) rl1 ru hp rv
    exact it_one I1 hv (cont m1 H1 _ go rl1 (wk_one ok))
  · cases e2
section
variable {pos p : Pos} {el : List Expr}
theorem ts_range1 {a : Expr} (h : PEs X cl es [a]) (hg : Gl X "range") (hm : X.mg "range" = none) : PI X tg (.Call (.Name "range" p) [a] [] pos) (tI X.K cl (.call .range1 es)) := by
  refine ⟨fun pins s σ H R' I hw => (pi_range1 hg hm h.pa (by rw [star_cons (by simpa using h.stars)]; rfl)).run pins s σ H R' I (tG.mono (tI_call hw) fun vs H1 q => ?_)⟩
  obtain ⟨m, h0, us, pp, h1, rl, rs, e, cont⟩ := q
  change range1R us h0 = _ at e
  unfold range1R at e
  split at e
  · obtain ⟨y, rfl, ry⟩ := rs.one_inv
    rw [RU.int] at ry; subst ry
    obtain ⟨g, e⟩ := gd_inv e
    cases e
    simp only [small62, Bool.and_eq_true, decide_eq_true_eq] at g
    exact ⟨_, rfl, g.1, g.2, cont m H1 _ Go.refl rl wk_itr⟩
  · cases e
theorem ts_range2 {a b : Expr} (h : PEs X cl es [a, b]) (hg : Gl X "range") (hm : X.mg "range" = none) : PI X tg (.Call (.Name "range" p) [a, b] [] pos) (tI X.K cl (.call .range2 es)) := by
  have st := h.stars
  simp only [List.all_cons, List.all_nil, Bool.and_eq_true] at st
  refine ⟨fun pins s σ H R' I hw => (pi_range2 hg hm h.pa (by rw [star_cons st.1, star_cons st.2.1]; rfl) (by rw [star_cons st.2.1]; rfl)).run pins s σ H R' I (tG.mono (tI_call hw) fun vs H1 q => ?_)⟩
  obtain ⟨m, h0, us, pp, h1, rl, rs, e, cont⟩ := q
  change range2R us h0 = _ at e
  unfold range2R at e
  split at e
  · obtain ⟨y, y', rfl, ry, ry'⟩ := rs.two_inv
    rw [RU.int] at ry ry'; subst ry; subst ry'
    obtain ⟨g, e⟩ := gd_inv e
    cases e
    simp only [small62, Bool.and_eq_true, decide_eq_true_eq] at g
    exact ⟨_, _, rfl, ⟨g.1.1, g.1.2, g.2.1, g.2.2⟩, cont m H1 _ Go.refl rl wk_itr⟩
  · cases e
theorem ts_range3 {a b c : Expr} (h : PEs X cl es [a, b, c]) (hg : Gl X "range") (hm : X.mg "range" = none) : PI X tg (.Call (.Name "range" p) [a, b, c] [] pos) (tI X.K cl (.call .range3 es)) := by
  have st := h.stars
  simp only [List.all_cons, List.all_nil, Bool.and_eq_true] at st
  refine ⟨fun pins s σ H R' I hw => (pi_range3 hg hm h.pa (by rw [star_cons st.1]) (star_none (by simp [st.2]))).run pins s σ H R' I (tG.mono (tI_call hw) fun vs H1 q => ?_)⟩
  obtain ⟨m, h0, us, pp, h1, rl, rs, e, cont⟩ := q
  change range3R us h0 = _ at e
  unfold range3R at e
  split at e
  · obtain ⟨y, y', y'', rfl, ry, ry', ry''⟩ := rs.three_inv
    rw [RU.int] at ry ry' ry''; subst ry; subst ry'; subst ry''
    obtain ⟨g, e⟩ := gd_inv e
    cases e
    simp only [small62, Bool.and_eq_true, decide_eq_true_eq, beq_iff_eq] at g
    obtain ⟨⟨⟨g1, g2⟩, g3, g4⟩, rfl⟩ := g
    exact ⟨_, _, _, _, rfl, RgC.neg g1 g2 g3 g4, cont m H1 _ Go.refl rl wk_itc⟩
  · cases e
variable {elts : List Expr} {kk : Nat} {tpos : Pos}
theorem ts_enum {a : Expr} (h : PEs X cl es [a]) (hg : Gl X "enumerate") (hm : X.mg "enumerate" = none) : PI X (.Tuple elts kk tpos) (.Call (.Name "enumerate" p) [a] [] pos) (tI X.K cl (.call .enum es)) := by
  refine ⟨fun pins s σ H R' I hw => Call_ (ld_blt I hg hm boot_enumerate (PyProof.Rows.callWith_type1 (thn (h.pa.run pos pins s σ H _ I (tI_call hw)) fun us' s1 ⟨vs, H1, I1, r1, q⟩ => ?_) (by rw [star_cons (by simpa using h.stars)]) rfl))⟩
  obtain ⟨m, h0, us, pp, h1, rl, rs, e, cont⟩ := q
  change enumR us h0 = _ at e
  unfold enumR at e
  split at e
  · obtain ⟨y, rfl, ry⟩ := rs.one_inv
    split at e
    · rename_i pq hp
      cases e
      cases r1 with
      | cons r rr =>
        cases rr
        obtain ⟨src, rfl, ok, ws, hv⟩ := src_of (xs := pq.1) (g := pq.2) rl ry hp r
        exact it_enum I1 hv (cont m H1 _ Go.refl rl (wk_enum ok))
    · cases e
  · cases e
theorem ts_zip {a b : Expr} (h : PEs X cl es [a, b]) (hg : Gl X "zip") (hm : X.mg "zip" = none) : PI X (.Tuple elts kk tpos) (.Call (.Name "zip" p) [a, b] [] pos) (tI X.K cl (.call .zip es)) := by
  have st := h.stars
  simp only [List.all_cons, List.all_nil, Bool.and_eq_true] at st
  refine ⟨fun pins s σ H R' I hw => Call_ (ld_blt I hg hm PyProof.Rows.boot_zip (PyProof.Rows.callWith_type1 (thn (h.pa.run pos pins s σ H _ I (tI_call hw)) fun us' s1 ⟨vs, H1, I1, r1, q⟩ => ?_) (by rw [star_cons st.1]) (star_none (by simp [st.2]))))⟩
  obtain ⟨m, h0, us, pp, h1, rl, rs, e, cont⟩ := q
  change zipR us h0 = _ at e
  unfold zipR at e
  split at e
  · obtain ⟨y, y', rfl, ry, ry'⟩ := rs.two_inv
    split at e
    · rename_i pq pq' hp hp'
      cases e
      cases r1 with
      | cons r rr =>
        cases rr with
        | cons r' rr =>
          cases rr
          obtain ⟨src, rfl, ok, ws, hv⟩ := src_of (xs := pq.1) (g := pq.2) rl ry hp r
          obtain ⟨src', rfl, ok', ws', hv'⟩ := src_of (xs := pq'.1) (g := pq'.2) rl ry' hp' r'
          exact it_zip I1 hv hv' (cont m H1 _ Go.refl rl (wk_zip ok ok'))
    · cases e
  · cases e
end
end
end Mp

set_option Elab.async false
set_option linter.all false
set_option maxRecDepth 100000
set_option maxHeartbeats 1000000
namespace Mp
open PySem PySem.Spec PyProof.Rows L2 TL

/-- where a run leads is where the model is to go -/
def FlOk (K : PySem.W.Frag) (D : L2.Ends) (m : Mm) (H : AH) (h' : Hm) : Fl → Prop
  | .next r' => ∀ m' H' σ', Go m H m' H' → Rel K m' h' H' → RSt K H' m' r' σ' → D.nx σ' H'
  | .ret u => ∀ m' H' v, Go m H m' H' → Rel K m' h' H' → RU K H' m' u v → D.rt v H'
  | .brk r' => ∀ m' H' σ', Go m H m' H' → Rel K m' h' H' → RSt K H' m' r' σ' → D.bk σ' H'
  | .cont r' => ∀ m' H' σ', Go m H m' H' → Rel K m' h' H' → RSt K H' m' r' σ' → D.ct σ' H'
  | .exn _ _ => False
def tM (K : PySem.W.Frag) (f : En → Hm → R Fl) : L2.TS := fun D σ H => ∃ m r h fl h', RSt K H m r σ ∧ Rel K m h H ∧ f r h = .ok fl h' ∧ FlOk K D m H h' fl
section
variable {K : PySem.W.Frag} {D : L2.Ends} {m m' : Mm} {H H' : AH} {h : Hm} {fl : Fl}
theorem FlOk.go (g : Go m H m' H') (q : FlOk K D m H h fl) : FlOk K D m' H' h fl := by
  cases fl with
  | next r => exact fun m2 H2 σ' g2 => q m2 H2 σ' (g.trans g2)
  | ret u => exact fun m2 H2 v g2 => q m2 H2 v (g.trans g2)
  | brk r => exact fun m2 H2 σ' g2 => q m2 H2 σ' (g.trans g2)
  | cont r => exact fun m2 H2 σ' g2 => q m2 H2 σ' (g.trans g2)
  | exn e r => exact q
theorem toS_inv {r : En} {x : R Fl} {h' : Hm} (e : toS r x = .ok fl h') (q : FlOk K D m H h' fl) : x = .ok fl h' := by
  cases x with
  | ok a b => exact e
  | exc a b =>
    simp only [toS] at e
    cases e
    exact False.elim q
  | bad => cases e

def Pt.names : Pt → List Nat
  | .nm i => [i]
  | .two a b => [a, b]
  | .three a b c => [a, b, c]
def gPt (K : PySem.W.Frag) : Pt → L2.TG
  | .nm i => gName i
  | .two a b => gTup K 2 (gCons (gName a) (gCons (gName b) gNil))
  | .three a b c => gTup K 3 (gCons (gName a) (gCons (gName b) (gCons (gName c) gNil)))
theorem wipe_set_in {σ : L2.St} {v : Option V} {i : Nat} : ∀ {vs : List Nat}, i ∈ vs → L2.wipe (σ.set i v) vs = L2.wipe σ vs
  | [], h => by cases h
  | w :: vs, h => by
    unfold L2.wipe
    by_cases hw : i ∈ vs
    · rw [wipe_set_in hw]
    · have e : i = w := by
        rcases List.mem_cons.mp h with h | h
        · exact h
        · exact absurd h hw
      subst e
      have out : ∀ {ws : List Nat}, i ∉ ws → L2.wipe (σ.set i v) ws = (L2.wipe σ ws).set i v := fun {ws} => by
        induction ws with
        | nil => intro _; rfl
        | cons a ws ih =>
          intro hn
          unfold L2.wipe
          have h1 : a ≠ i := fun z => hn (by rw [z]; exact List.mem_cons_self)
          rw [ih fun z => hn (List.mem_cons_of_mem _ z), List.set_comm _ _ (Ne.symm h1)]
      rw [out hw, List.set_set]
theorem wipe_idem {σ : L2.St} (vs : List Nat) : L2.wipe (L2.wipe σ vs) vs = L2.wipe σ vs := by
  have key : ∀ (ws : List Nat), (∀ i ∈ ws, i ∈ vs) → ∀ τ : L2.St, L2.wipe (L2.wipe τ ws) vs = L2.wipe τ vs := by
    intro ws
    induction ws with
    | nil => intro _ τ; rfl
    | cons a ws ih =>
      intro hs τ
      show L2.wipe ((L2.wipe τ ws).set a none) vs = _
      rw [wipe_set_in (hs a List.mem_cons_self), ih fun i hi => hs i (List.mem_cons_of_mem _ hi)]
  exact key vs (fun _ h => h) σ
theorem gPt_ok {p : Pt} {u : U} {v : V} {r r' : En} {σ : L2.St} {Q : L2.St → AH → Prop} (ru : RU K H m u v) (st : RSt K H m r σ) (e : bindP p u r = some r')
    (q : ∀ σ', RSt K H m r' σ' → (∀ vs : List Nat, (∀ i ∈ p.names, i ∈ vs) → L2.wipe σ' vs = L2.wipe σ vs) → Q σ' H) : gPt K p v σ H Q := by
  cases p with
  | nm i =>
    simp only [bindP] at e; cases e
    exact q _ (st.set i ru) fun vs hv => wipe_set_in (hv i (by simp [Pt.names]))
  | two a b =>
    unfold bindP at e
    split at e
    · rename_i h1; cases h1
    · rename_i a' b' x y r0 h1; cases h1; cases e
      obtain ⟨ad, vs, rfl, sq, rs⟩ := RU.tup.mp ru
      obtain ⟨v1, v2, rfl, r1, r2⟩ := rs.two_inv
      refine ⟨ad, _, rfl, sq, rfl, v1, [v2], rfl, v2, [], rfl, rfl, ?_⟩
      refine q _ ((st.set _ r1).set _ r2) fun vs hv => ?_
      rw [wipe_set_in (hv _ (by simp [Pt.names])), wipe_set_in (hv _ (by simp [Pt.names]))]
    · rename_i h1; cases h1
    · cases e
  | three a b c =>
    unfold bindP at e
    split at e
    · rename_i h1; cases h1
    · rename_i h1; cases h1
    · rename_i a' b' c' x y z r0 h1; cases h1; cases e
      obtain ⟨ad, vs, rfl, sq, rs⟩ := RU.tup.mp ru
      obtain ⟨v1, v2, v3, rfl, r1, r2, r3⟩ := rs.three_inv
      refine ⟨ad, _, rfl, sq, rfl, v1, [v2, v3], rfl, v2, [v3], rfl, v3, [], rfl, rfl, ?_⟩
      refine q _ (((st.set _ r1).set _ r2).set _ r3) fun vs hv => ?_
      rw [wipe_set_in (hv _ (by simp [Pt.names])), wipe_set_in (hv _ (by simp [Pt.names])), wipe_set_in (hv _ (by simp [Pt.names]))]
    · cases e
end

section
variable {X : Cx} {cl : Nat → List U → Hm → R U} {st : Stmt} {sts : List Stmt} {e : Expr} {x : Ex} {pos : Pos} {t : Ts}
theorem tM_asg {p : Pt} {D : L2.Ends} {σ : L2.St} {H : AH} (q : tM X.K (exs cl (.asg p x)) D σ H) : tAsg (tS X.K cl x) (gPt X.K p) D σ H := by
  obtain ⟨m, r, h, fl, h', st, rl, e, ok⟩ := q
  rw [exs] at e
  have e := toS_inv e ok
  obtain ⟨u, h1, e1, e2⟩ := R.bind_inv e
  refine ⟨m, r, h, u, h1, st, rl, e1, fun m' H' v go rl' ru => ?_⟩
  split at e2
  · rename_i r' hr
    cases e2
    exact gPt_ok ru (st.go go) hr fun σ' st' _ => ok m' H' σ' go rl' st'
  · cases e2
theorem tM_expr {D : L2.Ends} {σ : L2.St} {H : AH} (q : tM X.K (exs cl (.expr x)) D σ H) : tDrop (tS X.K cl x) D σ H := by
  obtain ⟨m, r, h, fl, h', st, rl, e, ok⟩ := q
  rw [exs] at e
  have e := toS_inv e ok
  obtain ⟨u, h1, e1, e2⟩ := R.bind_inv e
  cases e2
  exact ⟨m, r, h, u, _, st, rl, e1, fun m' H' v go rl' ru => ok m' H' σ go rl' (st.go go)⟩
theorem tM_ret {D : L2.Ends} {σ : L2.St} {H : AH} (q : tM X.K (exs cl (.ret x)) D σ H) : tRet (tS X.K cl x) D σ H := by
  obtain ⟨m, r, h, fl, h', st, rl, e, ok⟩ := q
  rw [exs] at e
  have e := toS_inv e ok
  obtain ⟨u, h1, e1, e2⟩ := R.bind_inv e
  cases e2
  exact ⟨m, r, h, u, _, st, rl, e1, fun m' H' v go rl' ru => ok m' H' v go rl' ru⟩
theorem tM_if {a b : Sms} {D : L2.Ends} {σ : L2.St} {H : AH} (q : tM X.K (exs cl (.ifs t a b)) D σ H) : tIfS (tT X.K cl t) (tM X.K (exss cl a)) (tM X.K (exss cl b)) D σ H := by
  obtain ⟨m, r, h, fl, h', st, rl, e, ok⟩ := q
  rw [exs] at e
  have e := toS_inv e ok
  obtain ⟨c, h1, e1, e2⟩ := R.bind_inv e
  refine ⟨m, r, h, c, h1, st, rl, e1, fun m' H' d go rl' hd => ?_⟩
  subst hd
  cases c with
  | true => exact ⟨m', r, h1, fl, h', st.go go, rl', e2, ok.go go⟩
  | false => exact ⟨m', r, h1, fl, h', st.go go, rl', e2, ok.go go⟩
theorem tM_cons {s : Sm} {ss : Sms} {D : L2.Ends} {σ : L2.St} {H : AH} (q : tM X.K (exss cl (.cons s ss)) D σ H) : tSeq (tM X.K (exs cl s)) (tM X.K (exss cl ss)) D σ H := by
  obtain ⟨m, r, h, fl, h', st, rl, e, ok⟩ := q
  rw [exss] at e
  obtain ⟨f, h1, e1, e2⟩ := R.bind_inv e
  refine ⟨m, r, h, f, h1, st, rl, e1, ?_⟩
  cases f with
  | next r' => exact fun m' H' σ' go rl' st' => ⟨m', r', h1, fl, h', st', rl', e2, ok.go go⟩
  | ret u => cases e2; exact ok
  | brk r' => cases e2; exact ok
  | cont r' => cases e2; exact ok
  | exn a b => cases e2; exact ok
theorem tM_nil {D : L2.Ends} {σ : L2.St} {H : AH} (q : tM X.K (exss cl .nil) D σ H) : D.nx σ H := by
  obtain ⟨m, r, h, fl, h', st, rl, e, ok⟩ := q
  rw [exss] at e; cases e
  exact ok m H σ Go.refl rl st

theorem tM_while {b : Sms} {D : L2.Ends} {σ : L2.St} {H : AH} (q : tM X.K (exs cl (.whl t b)) D σ H) : tWhile (tT X.K cl t) (tM X.K (exss cl b)) D σ H := by
  obtain ⟨m, r, h, fl, h', st, rl, e, ok⟩ := q
  rw [exs] at e
  have e := toS_inv e ok
  refine ⟨fun k σ H => tM X.K (whileL (tst cl t) (exss cl b) k) D σ H, ⟨turns, m, r, h, fl, h', st, rl, e, ok⟩, ?_⟩
  rintro k σ H ⟨m, r, h, fl, h', st, rl, e, ok⟩
  cases k with
  | zero => cases e
  | succ k =>
    rw [whileL] at e
    obtain ⟨c, h1, e1, e2⟩ := R.bind_inv e
    refine ⟨m, r, h, c, h1, st, rl, e1, fun m' H' d go rl' hd => ?_⟩
    subst hd
    cases c with
    | false =>
      simp only [Bool.false_eq_true, if_false] at e2 ⊢
      cases e2
      exact ok m' H' σ go rl' (st.go go)
    | true =>
      simp only [if_true] at e2 ⊢
      obtain ⟨f, h2, e3, e4⟩ := R.bind_inv e2
      refine ⟨fun σ' H' => tM X.K (whileL (tst cl t) (exss cl b) k) D σ' H', fun σ' H' w => ⟨k, Nat.lt_succ_self k, w⟩, m', r, h1, f, h2, st.go go, rl', e3, ?_⟩
      cases f with
      | next r' => exact fun m2 H2 σ' g2 rl2 st2 => ⟨m2, r', h2, fl, h', st2, rl2, e4, ok.go (go.trans g2)⟩
      | cont r' => exact fun m2 H2 σ' g2 rl2 st2 => ⟨m2, r', h2, fl, h', st2, rl2, e4, ok.go (go.trans g2)⟩
      | brk r' => cases e4; exact fun m2 H2 σ' g2 => ok m2 H2 σ' (go.trans g2)
      | ret u => cases e4; exact fun m2 H2 v g2 => ok m2 H2 v (go.trans g2)
      | exn a b => cases e4; exact ok
theorem tM_for {it : Mp.It} {p : Pt} {b : Sms} {D : L2.Ends} {σ : L2.St} {H : AH} (q : tM X.K (exs cl (.for_ it p b)) D σ H) : tFor (tI X.K cl it) (gPt X.K p) (tM X.K (exss cl b)) D σ H := by
  obtain ⟨m, r, h, fl, h', st, rl, e, ok⟩ := q
  rw [exs] at e
  have e := toS_inv e ok
  obtain ⟨⟨xs, g⟩, h1, e1, e2⟩ := R.bind_inv e
  refine ⟨m, r, h, (xs, g), h1, st, rl, e1, fun m1 H1 J go rl1 wk => ?_⟩
  have ok1 := ok.go go
  have st1 := st.go go
  clear ok st rl e e1 go
  let F := forL (fun h' => still h1 h' g) (fun x r' h' => match bindP p x r' with
      | some r2 => exss cl b r2 h'
      | none => .bad)
  refine ⟨fun i n σ H => n = xs.length - i ∧ i ≤ xs.length ∧ ∃ m2 r2 h2, Go m1 H1 m2 H ∧ RSt X.K H m2 r2 σ ∧ Rel X.K m2 h2 H ∧ F (xs.drop i) r2 h2 = .ok fl h' ∧ FlOk X.K D m2 H h' fl,
    ⟨xs.length, by simp, Nat.zero_le _, m1, r, h1, Go.refl, st1, rl1, by rw [List.drop_zero]; exact e2, ok1⟩, ?_⟩
  rintro i n σ H ⟨rfl, hi, m2, r2, h2, go2, st2, rl2, e3, ok2⟩
  by_cases hlt : i < xs.length
  · rw [List.drop_eq_getElem_cons hlt] at e3
    obtain ⟨c1, e4⟩ := gd_inv (show gd _ _ = _ from e3)
    obtain ⟨f, h3, e5, e6⟩ := R.bind_inv e4
    refine .inr ⟨wk.go i m2 h2 H hlt go2 rl2 c1, fun σ' H' => ∃ m2 r2 h2, Go m1 H1 m2 H' ∧ RSt X.K H' m2 r2 σ' ∧ Rel X.K m2 h2 H' ∧ F (xs.drop (i + 1)) r2 h2 = .ok fl h' ∧ FlOk X.K D m2 H' h' fl, fun σ' H' w => ⟨_, by omega, rfl, hlt, w⟩, fun v H' y => ?_⟩
    obtain ⟨u, hu, x2, rl3, ru⟩ := wk.yld i m2 h2 H v H' hlt go2 rl2 c1 y
    rw [List.getElem?_eq_getElem hlt] at hu; cases hu
    have go3 : Go m2 H m2 H' := ⟨fun _ _ e => e, x2⟩
    cases hb : bindP p xs[i] r2 with
    | none => simp only [hb] at e5; cases e5
    | some r3 =>
      simp only [hb] at e5
      refine gPt_ok ru (st2.go go3) hb fun σ' st3 _ => ⟨m2, r3, h2, f, h3, st3, rl3, e5, ?_⟩
      cases f with
      | next r' => exact fun m4 H4 σ4 g4 rl4 st4 => ⟨m4, r', h3, (go2.trans go3).trans g4, st4, rl4, e6, ok2.go (go3.trans g4)⟩
      | cont r' => exact fun m4 H4 σ4 g4 rl4 st4 => ⟨m4, r', h3, (go2.trans go3).trans g4, st4, rl4, e6, ok2.go (go3.trans g4)⟩
      | brk r' => cases e6; exact fun m4 H4 σ4 g4 => ok2 m4 H4 σ4 (go3.trans g4)
      | ret u => cases e6; exact fun m4 H4 v g4 => ok2 m4 H4 v (go3.trans g4)
      | exn a b => cases e6; exact ok2
  · have e4 : i = xs.length := by omega
    subst e4
    rw [List.drop_length] at e3
    obtain ⟨c1, e4⟩ := gd_inv (show gd _ _ = _ from e3)
    cases e4
    exact .inl ⟨wk.stop m2 _ H go2 rl2 c1, ok2 m2 H σ Go.refl rl2 st2⟩

theorem tS_comp {it : Mp.It} {p : Pt} {own : List Nat} {c : Ts} {elt : Ex} {σ : L2.St} {H : AH} {Q : VK} (hp : ∀ i ∈ p.names, i ∈ own) (q : tS X.K cl (.comp it p own c elt) σ H Q) :
    tLc (tI X.K cl it) (gPt X.K p) (tT X.K cl c) (tS X.K cl elt) own σ H Q := by
  obtain ⟨m, r, h, a, h', st, rl, e, cont⟩ := q
  rw [ev] at e
  obtain ⟨⟨xs, g⟩, h1, e1, e2⟩ := R.bind_inv e
  refine ⟨m, r, h, (xs, g), h1, st, rl, e1, fun m1 H1 J go rl1 wk Dd hD => ?_⟩
  have st1 := st.go go
  have cont1 : ∀ m' H' v, Go m1 H1 m' H' → Rel X.K m' h' H' → RU X.K H' m' a v → Q v H' := fun m' H' v g' => cont m' H' v (go.trans g')
  clear cont st rl e e1 go
  -- the new list
  have hn : RO X.K (upd H1 Dd (.lst [])) (mset m1 h1.length Dd) (.lst []) Dd := ⟨[], upd_same .., .nil⟩
  have rl2 := rl1.new hD hn
  have go2 : Go m1 H1 (mset m1 h1.length Dd) (upd H1 Dd (.lst [])) := rl1.goNew hD
  let F := compL (fun h' => still h1 h' g) h1.length (fun x h2 => match bindP p x (Mp.wipe r own) with
        | none => .bad
        | some r2 => (tst cl c r2 h2).bind fun b h3 => if b = true then (ev cl elt r2 h3).bind fun u h4 => .ok (some u) h4 else .ok none h3)
  let W : Nat → AH → Prop := fun i H => ∃ m2 h2 acc, Go (mset m1 h1.length Dd) (upd H1 Dd (.lst [])) m2 H ∧ Rel X.K m2 h2 H ∧ F (xs.drop i) acc h2 = .ok a h'
  refine ⟨fun i n H => n = xs.length - i ∧ i ≤ xs.length ∧ W i H, ⟨xs.length, by simp, Nat.zero_le _, _, _, [], Go.refl, rl2, by rw [List.drop_zero]; exact e2⟩, ?_⟩
  rintro i n H ⟨rfl, hi, m2, h2, acc, go3, rl3, e3⟩
  have goA := go2.trans go3
  have mD : m2 h1.length = some Dd := go3.sub _ _ mset_self
  have look : ∀ {m4 : Mm} {h4 : Hm} {H4 : AH} {acc : List U}, Go m2 H m4 H4 → Rel X.K m4 h4 H4 → obeq h4[h1.length]? (some (.lst acc)) = true → ∃ vs, h4[h1.length]? = some (.lst acc) ∧ H4 Dd = some (.lst vs) ∧ RUs X.K H4 m4 acc vs := fun g4 rl4 ob => by
    obtain ⟨o, z1, z2⟩ := obeq_eq ob
    cases z2
    obtain ⟨vs, p1, p2⟩ := rl4.lst (g4.sub _ _ mD) z1
    exact ⟨vs, z1, p1, p2⟩
  by_cases hlt : i < xs.length
  · rw [List.drop_eq_getElem_cons hlt] at e3
    obtain ⟨c1, e4⟩ := gd_inv (show gd _ _ = _ from e3)
    rw [Bool.and_eq_true] at c1
    obtain ⟨f, h3, e5, e6⟩ := R.bind_inv e4
    refine .inr ⟨wk.go i m2 h2 H hlt goA rl3 c1.1, fun H' => W (i + 1) H', fun H' w => ⟨_, by omega, rfl, hlt, w⟩, fun v H' y => ?_⟩
    obtain ⟨u, hu, x2, rl4, ru⟩ := wk.yld i m2 h2 H v H' hlt goA rl3 c1.1 y
    rw [List.getElem?_eq_getElem hlt] at hu; cases hu
    have go4 : Go m2 H m2 H' := ⟨fun _ _ e => e, x2⟩
    cases hb : bindP p xs[i] (Mp.wipe r own) with
    | none => simp only [hb] at e5; cases e5
    | some r3 =>
      simp only [hb] at e5
      obtain ⟨b, h4, e7, e8⟩ := R.bind_inv e5
      refine gPt_ok ru ((st1.go ((goA.trans go4))).wipe own) hb fun σ' st3 hw => ⟨?_, m2, r3, h2, b, h4, st3, rl4, e7, fun m5 H5 b' g5 rl5 hbb => ?_⟩
      · rw [hw own hp, wipe_idem]
      · subst hbb
        cases b with
        | false =>
          simp only [Bool.false_eq_true, if_false] at e8 ⊢
          cases e8
          exact ⟨m5, _, acc, (go3.trans go4).trans g5, rl5, e6⟩
        | true =>
          simp only [if_true] at e8 ⊢
          obtain ⟨w, h5, e9, e10⟩ := R.bind_inv e8
          cases e10
          obtain ⟨c2, e11⟩ := gd_inv (show gd _ _ = _ from e6)
          rw [Bool.and_eq_true, decide_eq_true_eq] at c2
          refine ⟨m5, r3, h4, w, h3, st3.go g5, rl5, e9, fun m6 H6 y g6 rl6 ry => ?_⟩
          obtain ⟨vs, z1, z2, z3⟩ := look ((go4.trans g5).trans g6) rl6 c2.1
          have hl := z3.length
          have gx : Go m6 H6 m6 (upd H6 Dd (.lst (vs ++ [y]))) := ⟨fun _ _ e => e, Ext.upd_lst z2⟩
          refine ⟨vs, z2, by rw [← hl, sizeLine_eq]; exact c2.2, m6, _, _, (((go3.trans go4).trans g5).trans g6).trans gx, ?_, e11⟩
          exact rl6.put (((go3.trans go4).trans g5).trans g6 |>.sub _ _ mset_self) z1 rfl (Ext.upd_lst z2) ⟨_, upd_same .., (z3.append (.one ry)).go gx⟩ rfl
  · have e4 : i = xs.length := by omega
    subst e4
    rw [List.drop_length] at e3
    obtain ⟨c1, e4⟩ := gd_inv (show gd _ _ = _ from e3)
    rw [Bool.and_eq_true] at c1
    cases e4
    exact .inl ⟨wk.stop m2 _ H goA rl3 c1.1, cont1 m2 H _ goA rl3 (RU.ref.mpr ⟨Dd, mD, rfl⟩)⟩
end
end Mp

set_option Elab.async false
set_option linter.all false
set_option maxRecDepth 100000
set_option maxHeartbeats 1000000
namespace Mp
open PySem PySem.Spec PyProof.Rows L2 TL
variable {X : Cx} {cl : Nat → List U → Hm → R U} {es : Exs} {pos p2 p3 : Pos} {a b c o : Expr} {el : List Expr} {p p' : Prim}

theorem tS_each {σ : L2.St} {H : AH} {Q : VK} (h : tS X.K cl (.prim p es) σ H Q) : tEach X.K cl es σ H fun vs H1 => rP X.K (prim p) vs H1 Q :=
  tEach_of (tS_prim (fun r h => rfl) h)
theorem r_bin {op : Operator} (h : PEs X cl es [a, b]) (ho : OpR X (binaryOp op) (fun x y H Q => rP X.K (prim p) [x, y] H Q)) : PE X (.BinOp a op b pos) (tS X.K cl (.prim p es)) := by
  obtain ⟨x, y, rfl, ha, hb⟩ := h.two
  exact (pe_op ho ha hb).weak fun σ H Q q => tS_each q
theorem r_cmp {op : CmpOp} (h : PEs X cl es [a, b]) (ho : OpR X (compareOp op) (fun x y H Q => rP X.K (prim p) [x, y] H Q)) (hm : behindInMarks op b = false) : PE X (.Compare a [op] [b] pos) (tS X.K cl (.prim p es)) := by
  obtain ⟨x, y, rfl, ha, hb⟩ := h.two
  exact (pe_cmpR ho ha hb hm).weak fun σ H Q q => tS_each q
/-- a test that is a bool -/
theorem tT_bool {x : Ex} (hb : ∀ r h u h', ev cl x r h = .ok u h' → ∃ k : Bool, u = .bl k) {σ : L2.St} {H : AH} {Q : Bool → AH → Prop} (q : tT X.K cl (.val x) σ H Q) : tS X.K cl x σ H fun v H1 => ∃ k, v = .bl k ∧ Q k H1 := by
  obtain ⟨m, r, h, t, h', st, rl, e, cont⟩ := q
  rw [tst] at e
  obtain ⟨u, h1, e1, e2⟩ := R.bind_inv e
  obtain ⟨kk, hk⟩ := hb _ _ _ _ e1
  subst hk
  cases e2
  exact ⟨m, r, h, _, _, st, rl, e1, fun m' H' v go rl' ru => ⟨_, RU.bl.mp ru, cont m' H' _ go rl' rfl⟩⟩
theorem ev_prim_bool (hb : ∀ us h u h', prim p us h = .ok u h' → ∃ k, u = .bl k) (r : En) (h : Hm) (u : U) (h' : Hm) (e : ev cl (.prim p es) r h = .ok u h') : ∃ k, u = .bl k := by
  rw [ev] at e
  obtain ⟨us, h1, _, e2⟩ := R.bind_inv e
  exact hb _ _ _ _ e2
theorem t_cmp {op : CmpOp} (h : PEs X cl es [a, b]) (ho : OpR X (compareOp op) (fun x y H Q => rP X.K (prim p) [x, y] H Q)) (hm : behindInMarks op b = false) (hb : ∀ us h u h', prim p us h = .ok u h' → ∃ k, u = .bl k) :
    PT X (.Compare a [op] [b] pos) (tT X.K cl (.val (.prim p es))) := by
  obtain ⟨x, y, rfl, ha, hbb⟩ := h.two
  exact (pt_cmpR ho ha hbb hm).weak fun σ H Q q => tS_each (tT_bool (ev_prim_bool hb) q)
theorem r_un {op : UnaryOp} (h : PEs X cl es [a]) (ho : UnR X (unaryOp op) (fun x H Q => rP X.K (prim p) [x] H Q)) : PE X (.UnaryOp op a pos) (tS X.K cl (.prim p es)) := by
  obtain ⟨x, rfl, ha⟩ := h.one
  exact (pe_un ho ha).weak fun σ H Q q => tS_each q

theorem pIsN_bool : ∀ us h u h', prim .isN us h = .ok u h' → ∃ k, u = .bl k := fun us h u h' e => by
  change pIsN us h = _ at e; unfold pIsN at e; split at e
  · cases e; exact ⟨_, rfl⟩
  · cases e
theorem pIsNN_bool : ∀ us h u h', prim .isNN us h = .ok u h' → ∃ k, u = .bl k := fun us h u h' e => by
  change pIsNN us h = _ at e; unfold pIsNN at e; split at e
  · cases e; exact ⟨_, rfl⟩
  · cases e
theorem pc_pIsN {j : Nat} (h : PEs X cl es [a]) : PC X .Is a (.Constant .none j p2) (tS X.K cl (.prim .isN es)) := by
  obtain ⟨x, rfl, ha⟩ := h.one
  exact ⟨fun pins s σ H Q I q => (pc_isN ha).run pins s σ H Q I (tG.mono (tS_each q) fun v H1 q1 => un_isN q1)⟩
theorem pc_pIsNN {j : Nat} (h : PEs X cl es [a]) : PC X .IsNot a (.Constant .none j p2) (tS X.K cl (.prim .isNN es)) := by
  obtain ⟨x, rfl, ha⟩ := h.one
  exact ⟨fun pins s σ H Q I q => (pc_notN ha).run pins s σ H Q I (tG.mono (tS_each q) fun v H1 q1 => un_isNN q1)⟩
theorem r_isN {j : Nat} (h : PEs X cl es [a]) : PE X (.Compare a [.Is] [.Constant .none j p2] pos) (tS X.K cl (.prim .isN es)) := pe_cmp (pc_pIsN h)
theorem r_isNN {j : Nat} (h : PEs X cl es [a]) : PE X (.Compare a [.IsNot] [.Constant .none j p2] pos) (tS X.K cl (.prim .isNN es)) := pe_cmp (pc_pIsNN h)
theorem t_isN {j : Nat} (h : PEs X cl es [a]) : PT X (.Compare a [.Is] [.Constant .none j p2] pos) (tT X.K cl (.val (.prim .isN es))) :=
  (pt_cmp (pc_pIsN h)).weak fun σ H Q q => tT_bool (ev_prim_bool pIsN_bool) q
theorem t_isNN {j : Nat} (h : PEs X cl es [a]) : PT X (.Compare a [.IsNot] [.Constant .none j p2] pos) (tT X.K cl (.val (.prim .isNN es))) :=
  (pt_cmp (pc_pIsNN h)).weak fun σ H Q q => tT_bool (ev_prim_bool pIsNN_bool) q
/-- is True and the like: k the constant -/
def boolF (neg k : Bool) : List U → Hm → R U
  | [.bl b], h => .ok (.bl (xor neg (b == k))) h
  | _, _ => .bad
theorem op_isK (k : Bool) (hf : prim p = boolF false k) : OpR X (compareOp .Is) (fun x y H Q => y = .bl k ∧ rP X.K (prim p) [x] H Q) := by
  intro pins s σ H x y v u Q I rx ry hq
  obtain ⟨rfl, m, h, us, r, h', rl, ru, e, cont⟩ := hq
  obtain ⟨a, rfl, r1⟩ := ru.of_one
  rw [hf] at e
  cases a <;> try (exact nomatch (show R.bad = R.ok _ _ from e))
  case bl b =>
    cases (show R.ok (U.bl (xor false (b == k))) h = _ from e)
    refine op_isBl pins s σ H x _ v u Q I rx ry ⟨b, k, RU.bl.mp r1, rfl, ?_⟩
    have := Cont.bl cont rl
    rw [Bool.false_xor] at this
    have e : decide (b = k) = (b == k) := by cases b <;> cases k <;> rfl
    rw [e]; exact this
theorem op_isNK (k : Bool) (hf : prim p = boolF true k) : OpR X (compareOp .IsNot) (fun x y H Q => y = .bl k ∧ rP X.K (prim p) [x] H Q) := by
  intro pins s σ H x y v u Q I rx ry hq
  obtain ⟨rfl, m, h, us, r, h', rl, ru, e, cont⟩ := hq
  obtain ⟨a, rfl, r1⟩ := ru.of_one
  rw [hf] at e
  cases a <;> try (exact nomatch (show R.bad = R.ok _ _ from e))
  case bl b =>
    cases (show R.ok (U.bl (xor true (b == k))) h = _ from e)
    refine op_notBl pins s σ H x _ v u Q I rx ry ⟨b, k, RU.bl.mp r1, rfl, ?_⟩
    have := Cont.bl cont rl
    have e : (!decide (b = k)) = xor true (b == k) := by cases b <;> cases k <;> rfl
    rw [e]; exact this
theorem isT_eq : prim .isT = boolF false true := by
  funext us h
  show pIsT us h = boolF false true us h
  unfold pIsT boolF
  split
  · next b => cases b <;> rfl
  · next hn => first | rfl | (split <;> first | rfl | (next b => exact absurd rfl (hn b)))
theorem isNT_eq : prim .isNT = boolF true true := by
  funext us h
  show pIsNT us h = boolF true true us h
  unfold pIsNT boolF
  split
  · next b => cases b <;> rfl
  · next hn => first | rfl | (split <;> first | rfl | (next b => exact absurd rfl (hn b)))
theorem isF_eq : prim .isF = boolF false false := by
  funext us h
  show pIsF us h = boolF false false us h
  unfold pIsF boolF
  split
  · next b => cases b <;> rfl
  · next hn => first | rfl | (split <;> first | rfl | (next b => exact absurd rfl (hn b)))
theorem isNF_eq : prim .isNF = boolF true false := by
  funext us h
  show pIsNF us h = boolF true false us h
  unfold pIsNF boolF
  split
  · next b => cases b <;> rfl
  · next hn => first | rfl | (split <;> first | rfl | (next b => exact absurd rfl (hn b)))
theorem boolF_bool {n k : Bool} (hf : prim p = boolF n k) : ∀ us h u h', prim p us h = .ok u h' → ∃ k, u = .bl k := fun us h u h' e => by
  rw [hf] at e
  unfold boolF at e; split at e
  · cases e; exact ⟨_, rfl⟩
  · cases e
theorem r_isK {op : CmpOp} {k : Bool} {j : Nat} (h : PEs X cl es [a]) (ho : OpR X (compareOp op) (fun x y H Q => y = .bl k ∧ rP X.K (prim p) [x] H Q)) (hm : behindInMarks op (.Constant (.bool k) j p2) = false) :
    PE X (.Compare a [op] [.Constant (.bool k) j p2] pos) (tS X.K cl (.prim p es)) := by
  obtain ⟨x, rfl, ha⟩ := h.one
  exact (pe_cmpR ho ha pe_bl hm).weak fun σ H Q q => tG.mono (tS_each q) fun v H1 q1 => ⟨rfl, q1⟩
theorem t_isK {op : CmpOp} {k : Bool} {j : Nat} (h : PEs X cl es [a]) (ho : OpR X (compareOp op) (fun x y H Q => y = .bl k ∧ rP X.K (prim p) [x] H Q)) (hm : behindInMarks op (.Constant (.bool k) j p2) = false)
    (hb : ∀ us h u h', prim p us h = .ok u h' → ∃ k, u = .bl k) : PT X (.Compare a [op] [.Constant (.bool k) j p2] pos) (tT X.K cl (.val (.prim p es))) := by
  obtain ⟨x, rfl, ha⟩ := h.one
  exact (pt_cmpR ho ha pe_bl hm).weak fun σ H Q q => tG.mono (tS_each (tT_bool (ev_prim_bool hb) q)) fun v H1 q1 => ⟨rfl, q1⟩

theorem few_of {es : List Expr} {env : Env} {pos : Pos} (h : es.all nostar = true) (hl : es.length < 30) :
    ((backTo pos (starEach es env)).all (fun x => !x.1) && (backToKw pos (keywordEach [] env)).all (fun x => x.1.isSome) && decide (es.length + ([] : List Keyword).length + (if ([] : List Keyword).isEmpty then 0 else 1) < 30)) = true := by
  have h1 : (backTo pos (starEach es env)).all (fun x => !x.1) = true := by
    have := star_none (env := env) (pos := pos) h
    rw [List.all_eq_true]
    intro x hx
    rw [List.any_eq_false] at this
    simpa using this x hx
  rw [h1, Bool.true_and, Bool.and_eq_true]
  exact ⟨rfl, by simpa using hl⟩
theorem PEs.heads {e : Expr} (h : PEs X cl es (e :: el)) {pos : Pos} : starEach (e :: el) X.env = (false, eval e X.env) :: starEach el X.env ∧ (backTo pos (starEach el X.env)).any (·.1) = false := by
  have st := h.stars
  rw [List.all_cons, Bool.and_eq_true] at st
  exact ⟨star_cons st.1, star_none st.2⟩
theorem r_call {x : Str} {id : String} {e : Expr} (h : PEs X cl es (e :: el)) (hc : CallR X (.builtin id) (fun vs H Q => rP X.K (prim p) vs H Q)) (hg : Gl X x) (hm : X.mg x = none) (hv : bootBuiltins x = some (.builtin id)) (hn : x ≠ "__name__") (hdb : (x == ("__debug__" : Str)) = false) :
    PE X (.Call (.Name x p2) (e :: el) [] pos) (tS X.K cl (.prim p es)) :=
  (pe_callB hc hg hm hv h.pa hn hdb (h.heads (pos := pos)).1 h.heads.2).weak fun σ H Q q => tS_prim (fun r h => rfl) q
theorem r_callT {x : Str} {T : String} {e : Expr} (h : PEs X cl es (e :: el)) (hc : CallR X (.type T) (fun vs H Q => rP X.K (prim p) vs H Q)) (hg : Gl X x) (hm : X.mg x = none) (hv : bootBuiltins x = some (.type T)) (hn : x ≠ "__name__") (hdb : (x == ("__debug__" : Str)) = false) :
    PE X (.Call (.Name x p2) (e :: el) [] pos) (tS X.K cl (.prim p es)) :=
  (pe_callTy hc hg hm hv h.pa hn hdb (h.heads (pos := pos)).1 h.heads.2).weak fun σ H Q q => tS_prim (fun r h => rfl) q
/-- an own def -/
theorem r_fn {x : Str} {fa : Addr} {e : Expr} {k : Nat} (h : PEs X cl es (e :: el)) (hc : CallR X (.ref fa) (fun vs H Q => rP X.K (cl k) vs H Q)) (hg : Gl X x) (hm : X.mg x = some (.ref fa)) (hk : PySem.W.keepIn X.K (.ref fa) = true) (hdb : (x == ("__debug__" : Str)) = false) :
    PE X (.Call (.Name x p2) (e :: el) [] pos) (tS X.K cl (.call k es)) := by
  refine ⟨fun pins s σ H Q I q => ?_⟩
  refine wpAny_Call_Name_kw (ld_glob I hg hm ?_ hdb)
  exact PySem.W.callWith_K (h₀ := X.base) I.ok.mod.kin hk (thn (h.pa.run pos pins s σ H _ I (tS_prim (p := cl k) (fun r h => rfl) q)) fun us s1 ⟨vs, H1, I1, r, q1⟩ => ⟨I1.kIn, hc pins s1 σ H1 vs us Q I1 r q1⟩) (h.heads (pos := pos)).1 h.heads.2

theorem r_ix (hu : X.A.units + 1 < cLine) (h : PEs X cl es [a, b]) (hs : PlainIx b) : PE X (.Subscript a b pos) (tS X.K cl (.prim .ix es)) := by
  obtain ⟨x, y, rfl, ha, hb⟩ := h.two
  exact (pe_ix (ix_pIx hu) ha hb hs).weak fun σ H Q q => tS_each q
theorem cut_shape {lo hi : Bool} {us : List U} {h h' : Hm} {u : U} (e : prim (.cut lo hi) us h = .ok u h') : ∃ x ps, us = x :: ps ∧ ∃ l r, (if lo then ∃ i, l = some i ∧ ps[0]? = some (.int i) else l = none) ∧
    (if hi then ∃ i, r = some i ∧ ps[if lo then 1 else 0]? = some (.int i) else r = none) ∧ cutU h x l r = .ok u h' := by
  change pCut lo hi us h = _ at e
  unfold pCut at e
  split at e
  · rename_i x ps
    refine ⟨x, ps, rfl, ?_⟩
    split at e
    · exact ⟨some _, some _, ⟨_, rfl, rfl⟩, ⟨_, rfl, rfl⟩, e⟩
    · exact ⟨some _, none, ⟨_, rfl, rfl⟩, rfl, e⟩
    · exact ⟨none, some _, rfl, ⟨_, rfl, rfl⟩, e⟩
    · exact ⟨none, none, rfl, rfl, e⟩
    · cases e
  · cases e
theorem r_cut00 (h : PEs X cl es [a]) : PE X (.Subscript a (.Slice none none none p2) pos) (tS X.K cl (.prim (.cut false false) es)) := by
  obtain ⟨x, rfl, ha⟩ := h.one
  refine (pe_slice sl_pCut ha po_none po_none).weak fun σ H Q q => tG.mono (tS_each q) fun v H1 q1 => ?_
  obtain ⟨m, h, us, u, h', rl, rs, e, k⟩ := q1
  obtain ⟨a1, rfl, r1⟩ := rs.of_one
  exact ⟨m, h, a1, u, h', rl, r1, e, k⟩
theorem r_cut10 (h : PEs X cl es [a, b]) : PE X (.Subscript a (.Slice (some b) none none p2) pos) (tS X.K cl (.prim (.cut true false) es)) := by
  obtain ⟨x, y, rfl, ha, hb⟩ := h.two
  refine (pe_slice sl_pCut ha (po_some hb) po_none).weak fun σ H Q q => tG.mono (tS_each q) fun v H1 q1 => tG.mono q1 fun w H2 q2 => ?_
  obtain ⟨m, h, us, u, h', rl, rs, e, k⟩ := q2
  obtain ⟨a1, a2, rfl, r1, r2⟩ := rs.of_two
  obtain ⟨_, _, e0, l, r, hl, hr, ec⟩ := cut_shape e
  cases e0
  obtain ⟨i, rfl, e1⟩ := hl
  cases hr
  cases e1
  exact ⟨i, RU.int.mp r2, m, h, a1, u, h', rl, r1, ec, k⟩
theorem r_cut01 (h : PEs X cl es [a, b]) : PE X (.Subscript a (.Slice none (some b) none p2) pos) (tS X.K cl (.prim (.cut false true) es)) := by
  obtain ⟨x, y, rfl, ha, hb⟩ := h.two
  refine (pe_slice sl_pCut ha po_none (po_some hb)).weak fun σ H Q q => tG.mono (tS_each q) fun v H1 q1 => tG.mono q1 fun w H2 q2 => ?_
  obtain ⟨m, h, us, u, h', rl, rs, e, k⟩ := q2
  obtain ⟨a1, a2, rfl, r1, r2⟩ := rs.of_two
  obtain ⟨_, _, e0, l, r, hl, hr, ec⟩ := cut_shape e
  cases e0
  obtain ⟨i, rfl, e1⟩ := hr
  cases hl
  cases e1
  exact ⟨i, RU.int.mp r2, m, h, a1, u, h', rl, r1, ec, k⟩
theorem r_cut11 (h : PEs X cl es [a, b, c]) : PE X (.Subscript a (.Slice (some b) (some c) none p2) pos) (tS X.K cl (.prim (.cut true true) es)) := by
  obtain ⟨x, y, z, rfl, ha, hb, hc⟩ := h.three
  refine (pe_slice sl_pCut ha (po_some hb) (po_some hc)).weak fun σ H Q q => ?_
  refine tG.mono (tG.seq (relA := RU X.K) (f := ev cl x) (k := fun u r h1 => (ev cl y r h1).bind fun w h2 => (ev cl z r h2).bind fun t h3 => prim (.cut true true) [u, w, t] h3) (fun r h => ?_) q) fun v H1 q1 => ?_
  · simp only [ev, evs]
    cases ev cl x r h with
    | ok u h1 =>
      simp only [R.bind_ok]
      cases ev cl y r h1 with
      | ok w h2 =>
        simp only [R.bind_ok]
        cases ev cl z r h2 <;> rfl
      | exc _ _ => rfl
      | bad => rfl
    | exc _ _ => rfl
    | bad => rfl
  · obtain ⟨m, r, h, u, d, h', st, rl, ru, ek, cont⟩ := q1
    obtain ⟨w, h2, e1, e2⟩ := R.bind_inv ek
    obtain ⟨t, h3, e3, e4⟩ := R.bind_inv e2
    obtain ⟨_, _, e0, l, r', hl, hr, ec⟩ := cut_shape e4
    cases e0
    obtain ⟨i, rfl, ei⟩ := hl
    obtain ⟨j, rfl, ej⟩ := hr
    cases ei
    cases ej
    exact ⟨m, r, h, _, h2, st, rl, e1, fun m2 H2 v2 g2 rl2 rw => ⟨i, RU.int.mp rw, m2, r, h2, _, h3, st.go g2, rl2, e3, fun m3 H3 v3 g3 rl3 rt => ⟨j, RU.int.mp rt, m3, h3, u, d, h', rl3, ru.go (g2.trans g3), ec, fun m' H' v' g' => cont m' H' v' ((g2.trans g3).trans g')⟩⟩⟩

theorem rev_pick (z : List Nat) : ((Builtin.Str.strSliceIndices none none (-1) z.length).filterMap ((ts z).cps[·]?)).toArray = z.reverse.toArray := by
  have h1 : Builtin.Str.strSliceIndices none none (-1) z.length = sliceRange ((z.length : Int) - 1) (-1) (-1) := rfl
  rw [h1, PySem.W.krv_sliceRange, PySem.W.krv_range, List.filterMap_reverse]
  have h2 := PySem.W.krv_all (ts z).cps
  have h3 : (ts z).cps.size = z.length := by simp [ts]
  rw [h3] at h2
  rw [h2]
  rfl
theorem r_rev {j : Nat} {p4 p5 : Pos} (h : PEs X cl es [a]) : PE X (.Subscript a (.Slice none none (some (.UnaryOp .USub (.Constant (.int 1) j p4) p5)) p2) pos) (tS X.K cl (.prim .rev es)) := by
  obtain ⟨x, rfl, ha⟩ := h.one
  refine ⟨fun pins s σ H Q I q => ?_⟩
  refine Subscript_ (thn (ha.run pins s σ H _ I (tS_each q)) fun v s1 ⟨x1, H1, I1, rv, q1⟩ => ?_)
  obtain ⟨m, h, us, u, h', rl, rs, e, cont⟩ := q1
  obtain ⟨a1, rfl, r1⟩ := rs.of_one
  have neg : PO X (some (.UnaryOp .USub (.Constant (.int 1) j p4) p5)) (tPart (tUn (rU fun i => .int (-i)) (tC (.int 1)))) := po_some (pe_un un_neg pe_int)
  refine wpAny_Slice (thn (po_none.run pins s1 σ H1 (fun o H2 => o = none ∧ H2 = H1) I1 ⟨rfl, rfl⟩) fun vl s2 ⟨l, H2, I2, pl, el, e2⟩ => thn (po_none.run pins s2 σ H1 (fun o H3 => o = none ∧ H3 = H1) (e2 ▸ I2) ⟨rfl, rfl⟩) fun vu s3 ⟨u2, H3, I3, pu, eu, e3⟩ => thn (neg.run pins s3 σ H1 (fun o H4 => o = some (-1) ∧ H4 = H1) (e3 ▸ I3) ⟨1, rfl, -1, rfl, rfl, rfl⟩) fun vs s4 ⟨o, H4, I4, ps, eo, e4⟩ => ?_)
  subst el eu eo e4
  have I5 : Inv X pins σ H4 { s4 with heap := s4.heap.push { cls := .type "slice", data := .fields #[vl, vu, vs] } } := I4.kept (t' := s4.toks) fun b ob q => Heap.get?_push_of_some _ q
  change pRev [a1] h = _ at e
  unfold pRev at e
  split at e
  · rename_i z hz
    cases hz
    obtain ⟨hg, e⟩ := gd_inv e
    cases e
    rw [RU.str] at r1
    subst r1
    obtain ⟨t, rfl⟩ := rv
    obtain ⟨tl', rfl, e5⟩ := IsPart.raw pl
    obtain ⟨tu', rfl, e6⟩ := IsPart.raw pu
    obtain ⟨ts', rfl, e7⟩ := IsPart.raw ps
    refine tail_any (ops := [.str (ts z) t, .ref s4.heap.objs.size]) (typeIs_str _ _ _) F.slot_str_getitem.lookup ?_ (by with_unfolding_all rfl)
    refine wpAny_getItem_str_slice (l := tl') (u := tu') (st := ts') ⟨_, Heap.get?_push_size _ rfl, rfl, rfl⟩ (by rw [e7]; rfl) ?_
    have hl : (z.reverse : List Nat).length ≤ sizeLine := by rw [List.length_reverse, sizeLine_eq]; exact of_decide_eq_true hg
    unfold sliceMade slicePicked
    rw [e5, e6, e7, ts_len]
    rw [show (Option.getD (some (-1 : Int)) 1) = -1 from rfl, show ((-1 : Int) == 1) = false from rfl, Bool.false_and, if_neg Bool.false_ne_true, rev_pick]
    exact ⟨by rw [ts_len z.reverse |>.symm] at hl; exact hl, .str (ts z.reverse), H4, I5.tok _, ⟨_, rfl⟩, Cont.str cont rl⟩
  · rename_i i hz
    cases hz
    split at e
    · rename_i xs hx
      cases e
      obtain ⟨ad, vs', rfl, sq, rs'⟩ := rl.itemsL r1 hx
      cases rv
      obtain ⟨its, r, ht, hz⟩ := I5.list sq
      refine tail_any (ops := [.ref ad, .ref s4.heap.objs.size]) ht.isList.typeIs (PySem.slot_list_getitem.lookup) ?_ (by with_unfolding_all rfl)
      have hlen := r.length
      refine wpAny_getItem_list_slice ht.isList (Heap.IsSliceOf.new _ vl vu vs) pl pu ps (by decide) ?_ (by rw [List.size_toArray]; omega)
      rw [PySem.W.krv_pick]
      exact ⟨.ref _, _, I5.laid (t' := s4.toks) (o := .lst vs'.reverse) (fun b ob q => Heap.get?_push_of_some _ q) (Nat.le_refl _) ⟨by rw [List.length_reverse]; exact hz, _, 0, r.reverse, Heap.get?_push_size _ rfl⟩, rfl, Cont.newL cont rl rs'.reverse _ (I5.hok.fresh (Nat.le_refl _))⟩
    · cases e
  · cases e
end Mp

set_option Elab.async false
set_option linter.all false
set_option maxRecDepth 100000
set_option maxHeartbeats 1000000
namespace Mp
open PySem PySem.Spec PyProof.Rows L2 TL
variable {X : Cx} {cl : Nat → List U → Hm → R U} {es : Exs} {pos p2 p3 apos cpos : Pos} {a b c o e : Expr} {el : List Expr} {p p' : Prim}

def tnName : Tn → String
  | .str => "str" | .list => "list" | .dict => "dict" | .int => "int" | .bool => "bool" | .tuple => "tuple" | .non => "NoneType"
theorem tyV_of {K : PySem.W.Frag} {m : Mm} {h : Hm} {H : AH} {u : U} {v : V} {t : Tn} (rl : Rel K m h H) (ru : RU K H m u v) (e : tyN h u = some t) (ht : t = .str ∨ t = .list ∨ t = .dict) : tyV K (tnName t) v H := by
  cases u with
  | str s => cases e; rw [RU.str] at ru; subst ru; rfl
  | ref i =>
    obtain ⟨a, hm, rfl⟩ := RU.ref.mp ru
    simp only [tyN] at e
    split at e
    · rename_i xs hi; cases e; obtain ⟨vs, p, q⟩ := rl.lst hm hi; exact .inl ⟨rfl, vs, SqL.of p⟩
    · rename_i xs hi; cases e; obtain ⟨vs, p, q⟩ := rl.frz hm hi; exact .inl ⟨rfl, vs, p.sq⟩
    · rename_i xs hi; cases e; obtain ⟨vs, p, q⟩ := rl.dic hm hi; exact .inr (.inr (.inl ⟨rfl, .inl ⟨_, p⟩⟩))
    · cases e
  | non => cases e; rcases ht with h | h | h <;> cases h
  | bl b => cases e; rcases ht with h | h | h <;> cases h
  | int b => cases e; rcases ht with h | h | h <;> cases h
  | tup b => cases e; rcases ht with h | h | h <;> cases h
/-- o.m(..): its parts one after another -/
theorem tS_meth {t : Tn} {x : Ex} {σ : L2.St} {H : AH} {Q : VK} (ht : t = .str ∨ t = .list ∨ t = .dict) (q : tS X.K cl (.meth t p x es) σ H Q) :
    tS X.K cl x σ H fun v H1 => tyV X.K (tnName t) v H1 ∧ tSs X.K cl es σ H1 fun vs H2 => rP X.K (prim p) (v :: vs) H2 Q := by
  refine tG.mono (tG.seq (relA := RU X.K) (f := ev cl x) (k := fun u r h1 => gd (tyN h1 u == some t) ((evs cl es r h1).bind fun us h2 => prim p (u :: us) h2)) (fun r h => by rw [ev]) q) fun v H1 q1 => ?_
  obtain ⟨m, r, h, u, d, h', st, rl, ru, ek, cont⟩ := q1
  obtain ⟨g, ek⟩ := gd_inv ek
  obtain ⟨us, h2, e1, e2⟩ := R.bind_inv ek
  refine ⟨tyV_of rl ru (by simpa using g) ht, m, r, h, us, h2, st, rl, e1, fun m2 H2 vs g2 rl2 rs => ⟨m2, h2, u :: us, d, h', rl2, .cons (ru.go g2) rs, e2, fun m3 H3 v' g3 => cont m3 H3 v' (g2.trans g3)⟩⟩
def baseOk : Expr → Bool
  | .Call (.Name _ _) [] [] _ => false
  | _ => true
theorem base_of {env : Env} {name : Str} (h : baseOk o = true) : attributeBase o name env (eval o env) = eval o env := by
  unfold attributeBase
  split
  · cases h
  · rfl
theorem r_meth {t : Tn} {x : Ex} {name : Str} {id : String} (ht : t = .str ∨ t = .list ∨ t = .dict) (ho : PE X o (tS X.K cl x)) (h : PEs X cl es (e :: el)) (pa : PlainAttrs (tnName t)) (slot : Slot (tnName t) name id) (hty : typeOf (.builtin id) = pure (.type "method_descriptor"))
    (hm : MtR X id (fun x xs H Q => rP X.K (prim p) (x :: xs) H Q)) (hb : baseOk o = true) (hl : (e :: el).length < 30) (hline : (apos.endLine == cpos.line) = true) : PE X (.Call (.Attribute o name apos) (e :: el) [] cpos) (tS X.K cl (.meth t p x es)) :=
  (pe_bm pa slot hty hm ho h.pa (base_of hb) (few_of h.stars hl) hline (h.heads (pos := cpos)).1 h.heads.2).weak fun σ H Q q => tS_meth ht q

theorem rkey_kV {u : U} {k : Key} {K : PySem.W.Frag} {H : AH} {m : Mm} {v : V} (h1 : isKey u = true) (r : RU K H m u v) : ∃ q, RKey u q ∧ v = kV q := key_of h1 r
theorem mt_pGet1 (hu : X.A.units + 1 < cLine) : MtR X "dict.get" (fun x xs H Q => rP X.K pGet1 (x :: xs) H Q) := by
  intro pins s σ H x xs v us Q I rx rs hq
  obtain ⟨m, h, uu, r, h', rl, ru, e, cont⟩ := hq
  unfold pGet1 at e
  split at e
  · rename_i i k
    obtain ⟨y, ys, e0, r1, r2⟩ := ru.cons_inv
    cases e0
    obtain ⟨z, e1, r3⟩ := r2.one_inv
    subst e1
    split at e
    · rename_i kvs hi
      obtain ⟨g, e⟩ := gd_inv e
      cases e
      obtain ⟨ad, hm, rfl⟩ := RU.ref.mp r1
      obtain ⟨ws, hd, rk⟩ := rl.dic hm hi
      obtain ⟨q, hk, rfl⟩ := key_of g r3
      cases rx
      obtain ⟨w, rfl, rw'⟩ := Vals.one rs
      refine d_get1 hu I (DGet.k hd) rw' fun w' s' I' rv => ⟨_, H, I', rv, ?_⟩
      refine Cont.same cont rl ?_
      have h0 := dget_ok rk hk
      cases hd0 : dget kvs k with
      | none => rw [hd0] at h0; rw [h0]; exact RU.non.mpr rfl
      | some u' => rw [hd0] at h0; obtain ⟨v', h2, h3⟩ := h0; rw [h2]; exact h3
    · cases e
  · cases e
theorem mt_pGet2 (hu : X.A.units + 1 < cLine) : MtR X "dict.get" (fun x xs H Q => rP X.K pGet2 (x :: xs) H Q) := by
  intro pins s σ H x xs v us Q I rx rs hq
  obtain ⟨m, h, uu, r, h', rl, ru, e, cont⟩ := hq
  unfold pGet2 at e
  split at e
  · rename_i i k d
    obtain ⟨y, ys, e0, r1, r2⟩ := ru.cons_inv
    cases e0
    obtain ⟨z, z', e1, r3, r4⟩ := r2.two_inv
    subst e1
    split at e
    · rename_i kvs hi
      obtain ⟨g, e⟩ := gd_inv e
      cases e
      obtain ⟨ad, hm, rfl⟩ := RU.ref.mp r1
      obtain ⟨ws, hd, rk⟩ := rl.dic hm hi
      obtain ⟨q, hk, rfl⟩ := key_of g r3
      cases rx
      obtain ⟨w, w2, rfl, rw', rw2⟩ := Vals.two rs
      refine d_get2 hu I (DGet.k hd) rw' rw2 fun w' s' I' rv => ⟨_, H, I', rv, ?_⟩
      refine Cont.same cont rl ?_
      have h0 := dget_ok rk hk
      cases hd0 : dget kvs k with
      | none => rw [hd0] at h0; rw [h0]; exact r4
      | some u' => rw [hd0] at h0; obtain ⟨v', h2, h3⟩ := h0; rw [h2]; exact h3
    · cases e
  · cases e

theorem tS_chain {x y z : Ex} {σ : L2.St} {H : AH} {Q : VK} (q : tS X.K cl (.chain p p' x y z) σ H Q) :
    tChain (fun x y H Q => rP X.K (prim p) [x, y] H Q) (fun x y H Q => rP X.K (prim p') [x, y] H Q) (tS X.K cl x) (tS X.K cl y) (tS X.K cl z) σ H Q := by
  refine tG.mono (tG.seq (relA := RU X.K) (f := ev cl x) (k := fun u r h1 => (ev cl y r h1).bind fun v h2 => (prim p [u, v] h2).bind fun w h3 => match w with
    | .bl true => (ev cl z r h3).bind fun x h4 => prim p' [v, x] h4
    | .bl false => .ok (.bl false) h3
    | _ => .bad) (fun r h => by rw [ev] <;> rfl) q) fun v H1 q1 => ?_
  obtain ⟨m, r, h, u, d, h', st, rl, ru, ek, cont⟩ := q1
  obtain ⟨w, h2, e1, e2⟩ := R.bind_inv ek
  obtain ⟨t, h3, e3, e4⟩ := R.bind_inv e2
  refine ⟨m, r, h, w, h2, st, rl, e1, fun m2 H2 v2 g2 rl2 rw => ⟨m2, h2, [u, w], t, h3, rl2, .cons (ru.go g2) (.one rw), e3, fun m3 H3 v3 g3 rl3 rt => ?_⟩⟩
  split at e4
  · refine ⟨true, RU.bl.mp rt, ?_⟩
    obtain ⟨x4, h4, e5, e6⟩ := R.bind_inv e4
    refine iteT ⟨m3, r, h3, x4, h4, st.go (g2.trans g3), rl3, e5, fun m4 H4 v4 g4 rl4 rx => ⟨m4, h4, [w, x4], d, h', rl4, .cons (rw.go (g3.trans g4)) (.one rx), e6, fun m5 H5 v5 g5 => cont m5 H5 v5 (((g2.trans g3).trans g4).trans g5)⟩⟩
  · cases e4
    exact ⟨false, RU.bl.mp rt, iteF (Cont.bl (fun m' H' v' g' => cont m' H' v' ((g2.trans g3).trans g')) rl3)⟩
  · cases e4
def pb (p : Prim) : Prop := ∀ us h u h', prim p us h = .ok u h' → ∃ k : Bool, u = .bl k
theorem chain_bool {x y z : Ex} (hb : pb p') (r : En) (h : Hm) (u : U) (h' : Hm) (e : ev cl (.chain p p' x y z) r h = .ok u h') : ∃ k : Bool, u = .bl k := by
  rw [ev] at e
  obtain ⟨u1, h1, _, e⟩ := R.bind_inv e
  obtain ⟨u2, h2, _, e⟩ := R.bind_inv e
  obtain ⟨u3, h3, _, e⟩ := R.bind_inv e
  split at e
  · obtain ⟨u4, h4, _, e⟩ := R.bind_inv e
    exact hb _ _ _ _ e
  · cases e; exact ⟨_, rfl⟩
  · cases e
theorem r_chain {op op' : CmpOp} {x y z : Ex} (ha : PE X a (tS X.K cl x)) (hb : PE X b (tS X.K cl y)) (hc : PE X c (tS X.K cl z)) (ho : OpR X (compareOp op) (fun x y H Q => rP X.K (prim p) [x, y] H Q)) (ho' : OpR X (compareOp op') (fun x y H Q => rP X.K (prim p') [x, y] H Q))
    (hm : lastMarks [op, op'] [b, c] = false) : PE X (.Compare a [op, op'] [b, c] pos) (tS X.K cl (.chain p p' x y z)) :=
  (pe_chain ho ho' ha hb hc hm).weak fun σ H Q q => tS_chain q
theorem t_chain {op op' : CmpOp} {x y z : Ex} (ha : PE X a (tS X.K cl x)) (hb : PE X b (tS X.K cl y)) (hc : PE X c (tS X.K cl z)) (ho : OpR X (compareOp op) (fun x y H Q => rP X.K (prim p) [x, y] H Q)) (ho' : OpR X (compareOp op') (fun x y H Q => rP X.K (prim p') [x, y] H Q))
    (hm : lastMarks [op, op'] [b, c] = false) (hp : pb p') : PT X (.Compare a [op, op'] [b, c] pos) (tT X.K cl (.val (.chain p p' x y z))) :=
  (pt_chain ho ho' ha hb hc hm).weak fun σ H Q q => tS_chain (tT_bool (chain_bool hp) q)

theorem r_tup {k : Nat} (h : PEs X cl es el) : PE X (.Tuple el k pos) (tS X.K cl (.prim .tup es)) := by
  refine (pe_tup h.pa).weak fun σ H Q q => tG.mono (tS_prim (p := prim .tup) (fun r h => rfl) q) fun vs H1 q1 => ?_
  obtain ⟨m, h, us, u, h', rl, rs, e, cont⟩ := q1
  obtain ⟨g, e⟩ := gd_inv (show gd _ _ = _ from e)
  cases e
  exact ⟨by rw [← rs.length, sizeLine_eq]; exact of_decide_eq_true g, Cont.newT cont rl rs⟩
theorem r_lst (h : PEs X cl es el) : PE X (.List el pos) (tS X.K cl (.prim .lst es)) := by
  refine (pe_lst h.pa).weak fun σ H Q q => tG.mono (tS_prim (p := prim .lst) (fun r h => rfl) q) fun vs H1 q1 => ?_
  obtain ⟨m, h, us, u, h', rl, rs, e, cont⟩ := q1
  obtain ⟨g, e⟩ := gd_inv (show gd _ _ = _ from e)
  unfold Mp.new at e
  cases e
  exact ⟨by rw [← rs.length, sizeLine_eq]; exact of_decide_eq_true g, Cont.newL cont rl rs⟩
theorem r_dic (h : PEs X cl es []) : PE X (.Dict [] [] pos) (tS X.K cl (.prim .dic es)) := by
  cases h
  refine pe_dnewK.weak fun σ H Q q => ?_
  have q1 := tSs_nil (tS_prim (p := prim .dic) (fun r h => rfl) q)
  obtain ⟨m, h, us, u, h', rl, rs, e, cont⟩ := q1
  have : us = [] := by
    cases us with
    | nil => rfl
    | cons x xs => obtain ⟨_, _, z, _⟩ := rs.cons_inv; cases z
  subst this
  cases (show Mp.new h (.dic []) = _ from e)
  intro p hp
  exact cont _ _ _ (rl.goNew hp) (rl.new hp ⟨[], upd_same .., by simp [RKv]⟩) (RU.ref.mpr ⟨p, mset_self, rfl⟩)
/-- isinstance(x, T) -/
theorem r_isi {T : Tn} {nm : Str} (h : PEs X cl es [a]) (hg : Gl X "isinstance") (hm : X.mg "isinstance" = none) (ht : PE X (.Name nm p3) (tC (.ty T.name))) (na : nostar a = true) : PE X (.Call (.Name "isinstance" p2) [a, .Name nm p3] [] pos) (tS X.K cl (.prim (.isi T) es)) := by
  obtain ⟨x, rfl, ha⟩ := h.one
  have pa := pa_cons ha (pa_cons ht pa_nil (by rfl)) (star_cons na)
  refine (pe_callB (call_pIsi T) hg hm (by decide +kernel) pa (by decide) (by decide) (star_cons na) (by rfl)).weak fun σ H Q q => ?_
  exact tG.mono (tS_each q) fun v H1 q1 => ⟨v, rfl, q1⟩

def rStore (K : PySem.W.Frag) : V → V → V → AH → (AH → Prop) → Prop := fun o i v H Q => ∃ m h ou iu u h', Rel K m h H ∧ RU K H m ou o ∧ RU K H m iu i ∧ RU K H m u v ∧ store ou iu u h = some h' ∧ ∀ m' H', Go m H m' H' → Rel K m' h' H' → Q H'
theorem set_store (hu : X.A.units + 1 < cLine) : PSet X (rStore X.K) := by
  intro pins s σ H o i v ov iv uv Q I ro ri rv hq
  obtain ⟨m, h, ou, iu, u, h', rl, r1, r2, r3, e, cont⟩ := hq
  unfold store at e
  split at e
  · rename_i ad
    obtain ⟨pa, hm, rfl⟩ := RU.ref.mp r1
    split at e
    · rename_i xs hi
      split at e
      · rename_i k
        cases hj : nix xs.length k with
        | none => rw [hj] at e; cases e
        | some j =>
          rw [hj] at e; cases e
          obtain ⟨vs, hp, rs⟩ := rl.lst hm hi
          have hx : Ext H (upd H pa (.lst (vs.set j v))) := Ext.upd_lst hp
          have gx : Go m H m (upd H pa (.lst (vs.set j v))) := ⟨fun _ _ e => e, hx⟩
          exact set_list pins s σ H _ i v ov iv uv Q I ro ri rv ⟨pa, vs, k, j, rfl, RU.int.mp r2, hp, by rw [← rs.length]; exact hj,
            cont m _ gx (rl.put hm hi rfl hx ⟨_, upd_same .., (rs.set r3 j).go gx⟩ rfl)⟩
      · cases e
    · rename_i kvs hi
      split at e
      · rename_i hk
        cases e
        obtain ⟨ws, hp, rk⟩ := rl.dic hm hi
        obtain ⟨q, hq, rfl⟩ := key_of hk.1 r2
        have hx : Ext H (upd H pa (.dK (putK ws q v))) := Ext.upd_dK hp
        have gx : Go m H m (upd H pa (.dK (putK ws q v))) := ⟨fun _ _ e => e, hx⟩
        cases ro
        refine d_setItem hu I (DPut.k hp (by rw [← rk.length, sizeLine_eq]; exact hk.2)) ri rv fun s' I' => ⟨_, I', ?_⟩
        exact cont m _ gx (rl.put hm hi rfl hx ⟨_, upd_same .., (dput_ok rk hq r3).go gx⟩ rfl)
      · cases e
    · cases e
  · cases e
theorem tM_asgIx {x y z : Ex} {D : L2.Ends} {σ : L2.St} {H : AH} (q : tM X.K (exs cl (.asgIx x y z)) D σ H) : tAsg (tS X.K cl z) (gSub (tS X.K cl x) (tS X.K cl y) (rStore X.K)) D σ H := by
  obtain ⟨m, r, h, fl, h', st, rl, e, ok⟩ := q
  rw [exs] at e
  have e := toS_inv e ok
  obtain ⟨u, h1, e1, e⟩ := R.bind_inv e
  obtain ⟨ou, h2, e2, e⟩ := R.bind_inv e
  obtain ⟨iu, h3, e3, e⟩ := R.bind_inv e
  refine ⟨m, r, h, u, h1, st, rl, e1, fun m1 H1 v g1 rl1 ru => ⟨m1, r, h1, ou, h2, st.go g1, rl1, e2, fun m2 H2 vo g2 rl2 ro => ⟨m2, r, h2, iu, h3, st.go (g1.trans g2), rl2, e3, fun m3 H3 vi g3 rl3 ri => ?_⟩⟩⟩
  split at e
  · rename_i h4 hs
    cases e
    exact ⟨m3, h3, ou, iu, u, _, rl3, ro.go g3, ri, ru.go (g2.trans g3), hs, fun m4 H4 g4 rl4 => ok m4 H4 σ (((g1.trans g2).trans g3).trans g4) rl4 (st.go (((g1.trans g2).trans g3).trans g4))⟩
  · cases e
theorem tM_aug {i : Nat} {x : Ex} {D : L2.Ends} {σ : L2.St} {H : AH} {f : Int → Int → Int} (hf : ∀ u v w, augR p u v = some w → ∃ i j, u = .int i ∧ v = .int j ∧ w = .int (f i j)) (q : tM X.K (exs cl (.aug i p x)) D σ H) : tAug i (tS X.K cl x) (ipI f) D σ H := by
  obtain ⟨m, r, h, fl, h', st, rl, e, ok⟩ := q
  rw [exs] at e
  split at e
  · rename_i u hu
    have e := toS_inv e ok
    obtain ⟨w, h1, e1, e2⟩ := R.bind_inv e
    obtain ⟨v, hv, rv⟩ := st.at_ i u hu
    refine ⟨v, hv, m, r, h, w, h1, st, rl, e1, fun m1 H1 y g1 rl1 ry => ?_⟩
    split at e2
    · rename_i z hz
      cases e2
      obtain ⟨i1, j1, rfl, rfl, rfl⟩ := hf _ _ _ hz
      exact ⟨i1, j1, RU.int.mp rv, RU.int.mp ry, ok m1 H1 _ g1 rl1 ((st.go g1).set i (RU.int.mpr rfl))⟩
    · cases e2
  · cases e
theorem aug_add : ∀ u v w, augR .add u v = some w → ∃ i j, u = .int i ∧ v = .int j ∧ w = .int (i + j) := fun u v w e => by
  unfold augR at e; split at e
  · cases e; exact ⟨_, _, rfl, rfl, rfl⟩
  · rename_i h; cases h
  · cases e
theorem aug_sub : ∀ u v w, augR .sub u v = some w → ∃ i j, u = .int i ∧ v = .int j ∧ w = .int (i - j) := fun u v w e => by
  unfold augR at e; split at e
  · rename_i h; cases h
  · cases e; exact ⟨_, _, rfl, rfl, rfl⟩
  · cases e
end Mp

set_option Elab.async false
set_option linter.all false
set_option maxRecDepth 100000
set_option maxHeartbeats 1000000
namespace Mp
open PySem PySem.Spec PyProof.Rows L2 TL

structure Cc where
  sc : Scope
  fn : Str → Bool
def gl (c : Cc) (x : Str) : Bool := decide (c.sc.names.lookup x = some .globalImplicit)
def vis (c : Cc) (x : Str) : Bool := match c.sc.names.lookup x with
  | some .local => true
  | some .cell => true
  | some .free => true
  | _ => false
def plainName (x : Str) : Bool := !(x == ("__debug__" : Str)) && !(x == ("__classdict__" : Str))
def opOf : Prim → Option Operator
  | .add => some .Add | .sub => some .Sub | .mul => some .Mult | .fdiv => some .FloorDiv | .mod => some .Mod | .pow => some .Pow | _ => none
def cmpOf : Prim → Option CmpOp
  | .eq => some .Eq | .ne => some .NotEq | .lt => some .Lt | .le => some .LtE | .gt => some .Gt | .ge => some .GtE | .inn => some .In | .nin => some .NotIn | _ => none
/-- is True, ..: the comparison and the constant -/
def isOf : Prim → Option (CmpOp × Bool)
  | .isT => some (.Is, true) | .isNT => some (.IsNot, true) | .isF => some (.Is, false) | .isNF => some (.IsNot, false) | _ => none
def fnOf : Prim → Option (Str × Nat)
  | .len => some ("len", 1) | .abs => some ("abs", 1) | .min2 => some ("min", 2) | .max2 => some ("max", 2) | .min1 => some ("min", 1) | .max1 => some ("max", 1) | .sum1 => some ("sum", 1)
  | .repr => some ("repr", 1) | .all1 => some ("all", 1) | .toInt => some ("int", 1) | .toTuple => some ("tuple", 1) | .toList => some ("list", 1) | _ => none
def tnOf : Tn → Option Str
  | .str => some "str" | .int => some "int" | .bool => some "bool" | .list => some "list" | .tuple => some "tuple" | .dict => some "dict" | .non => none
def notSlice : Expr → Bool
  | .Slice _ _ _ _ => false
  | _ => true
def shape (c : Cc) (p : Prim) (e : Expr) : Option (List Expr) :=
  match p, e with
  | .neg, .UnaryOp .USub a _ => some [a]
  | .isN, .Compare a [.Is] [.Constant .none _ _] _ => some [a]
  | .isNN, .Compare a [.IsNot] [.Constant .none _ _] _ => some [a]
  | .ix, .Subscript a b _ => if notSlice b = true then some [a, b] else none
  | .cut false false, .Subscript a (.Slice none none none _) _ => some [a]
  | .cut true false, .Subscript a (.Slice (some l) none none _) _ => some [a, l]
  | .cut false true, .Subscript a (.Slice none (some l) none _) _ => some [a, l]
  | .cut true true, .Subscript a (.Slice (some l) (some h) none _) _ => some [a, l, h]
  | .rev, .Subscript a (.Slice none none (some (.UnaryOp .USub (.Constant (.int 1) _ _) _)) _) _ => some [a]
  | .tup, .Tuple l _ _ => some l
  | .lst, .List l _ => some l
  | .dic, .Dict [] [] _ => some []
  | .isi T, .Call (.Name x _) [a, .Name n _] [] _ => if x = "isinstance" ∧ gl c "isinstance" = true ∧ tnOf T = some n ∧ gl c n = true ∧ nostar a = true then some [a] else none
  | p, .BinOp a o b _ => if opOf p = some o then some [a, b] else none
  | p, .Compare a [o] [.Constant (.bool k) j ps] _ => if isOf p = some (o, k) then some [a] else if cmpOf p = some o then some [a, .Constant (.bool k) j ps] else none
  | p, .Compare a [o] [b] _ => if cmpOf p = some o ∧ behindInMarks o b = false then some [a, b] else none
  | p, .Call (.Name x _) (a :: l) [] _ => if fnOf p = some (x, l.length + 1) ∧ gl c x = true then some (a :: l) else none
  | _, _ => none
def bltNames : List Str := ["len", "abs", "min", "max", "sum", "repr", "all", "int", "tuple", "list", "isinstance", "str", "bool", "dict", "range", "enumerate", "zip"]
/-- the module's names: own defs, constants -/
structure Gs where
  fns : List (Str × Nat)
  cs : List (Str × U)
/-- what the context of a body gives -/
structure Okx (cl : Nat → List U → Hm → R U) (G : Gs) (X : Cx) : Prop where
  nd : X.N.Nodup
  calm : X.calm = true
  kind : X.env.scope.kind = .function
  guards : X.A.guards = some []
  un : X.A.units + 64 < cLine
  xe : X.xe = fun _ _ => False
  blt : ∀ x ∈ bltNames, X.mg x = none
  fns : ∀ x k, G.fns.lookup x = some k → ∃ fa, X.mg x = some (.ref fa) ∧ PySem.W.keepIn X.K (.ref fa) = true ∧ ∀ Y : Cx, Y.prog = X.prog → Y.w = X.w → Y.K = X.K → Y.mg = X.mg → Y.base = X.base → Y.A = X.A → CallR Y (.ref fa) (fun vs H Q => rP Y.K (cl k) vs H Q)
  cst : ∀ x u, G.cs.lookup x = some u → ∃ v w, X.mg x = some w ∧ RelV v w ∧ ∀ H m, RU X.K H m u v
def At (c : Cc) (X : Cx) : Prop := X.env.scope = c.sc ∧ ∀ x, c.fn x = true → X.fn x = true

section
variable {X : Cx} {cl : Nat → List U → Hm → R U} {G : Gs} {c : Cc} {p : Prim} {es : Exs} {e : Expr} {l : List Expr}
theorem gl_ok (k : At c X) {x : Str} (h : gl c x = true) : Gl X x := by
  have := of_decide_eq_true h
  rw [← k.1] at this
  exact this
theorem op_ok {o : Operator} (h : opOf p = some o) : OpR X (binaryOp o) (fun x y H Q => rP X.K (prim p) [x, y] H Q) := by
  cases p <;> first | (cases h; done) | (cases h; first | exact op_pAdd | exact op_pSub | exact op_pMul | exact op_pFdiv | exact op_pMod | exact op_pPow)
theorem cmp_ok (ok : Okx cl G X) {o : CmpOp} (h : cmpOf p = some o) : OpR X (compareOp o) (fun x y H Q => rP X.K (prim p) [x, y] H Q) := by
  have u1 : X.A.units + 1 < cLine := by have := ok.un; omega
  cases p <;> first | (cases h; done) | (cases h; first | exact op_pEq ok.un | exact op_pNe ok.un | exact op_pLt | exact op_pLe | exact op_pGt | exact op_pGe | exact op_pInn u1 | exact op_pNin u1)
theorem isK_ok {o : CmpOp} {k : Bool} (h : isOf p = some (o, k)) : OpR X (compareOp o) (fun x y H Q => y = .bl k ∧ rP X.K (prim p) [x] H Q) := by
  cases p <;> first | (cases h; done) | (cases h; first | exact op_isK _ isT_eq | exact op_isNK _ isNT_eq | exact op_isK _ isF_eq | exact op_isNK _ isNF_eq)
theorem isK_bool {o : CmpOp} {k : Bool} (h : isOf p = some (o, k)) : pb p := by
  cases p <;> first | (cases h; done) | exact boolF_bool isT_eq | exact boolF_bool isNT_eq | exact boolF_bool isF_eq | exact boolF_bool isNF_eq
theorem isK_mark {o : CmpOp} {k : Bool} (h : isOf p = some (o, k)) (b : Expr) : behindInMarks o b = false := by
  cases p <;> first | (cases h; done) | (cases h; exact nomark _)
theorem cmp_bool {o : CmpOp} (h : cmpOf p = some o) : pb p := by
  intro us hm u h' e
  cases p <;> try (cases h; done)
  all_goals
    first
      | (change pEq us hm = _ at e; unfold pEq at e; (repeat' split at e) <;> cases e <;> exact ⟨_, rfl⟩)
      | (change pNe us hm = _ at e; unfold pNe at e; (repeat' split at e) <;> cases e <;> exact ⟨_, rfl⟩)
      | (change pLt us hm = _ at e; unfold pLt at e; (repeat' split at e) <;> cases e <;> exact ⟨_, rfl⟩)
      | (change pLe us hm = _ at e; unfold pLe at e; (repeat' split at e) <;> cases e <;> exact ⟨_, rfl⟩)
      | (change pGt us hm = _ at e; unfold pGt at e; (repeat' split at e) <;> cases e <;> exact ⟨_, rfl⟩)
      | (change pGe us hm = _ at e; unfold pGe at e; (repeat' split at e) <;> cases e <;> exact ⟨_, rfl⟩)
      | (change pInn us hm = _ at e; unfold pInn at e; split at e
         · unfold memU at e; (repeat' split at e) <;> first | (cases e; done) | (obtain ⟨_, e⟩ := gd_inv e; cases e; exact ⟨_, rfl⟩)
         · cases e)
      | (change pNin us hm = _ at e; unfold pNin at e; split at e
         · unfold memU at e; (repeat' split at e) <;> first | (cases e; done) | (obtain ⟨_, e⟩ := gd_inv e; cases e; exact ⟨_, rfl⟩)
         · cases e)
theorem fn_ok (ok : Okx cl G X) {nm : Str} {n : Nat} (h : fnOf p = some (nm, n)) : nm ∈ bltNames ∧ nm ≠ "__name__" ∧ (nm == ("__debug__" : Str)) = false ∧ ((∃ id, bootBuiltins nm = some (.builtin id) ∧ CallR X (.builtin id) (fun vs H Q => rP X.K (prim p) vs H Q)) ∨
    ∃ T, bootBuiltins nm = some (.type T) ∧ CallR X (.type T) (fun vs H Q => rP X.K (prim p) vs H Q)) := by
  have u1 : X.A.units + 1 < cLine := by have := ok.un; omega
  cases p <;> try (cases h; done)
  case len => cases h; exact ⟨by decide +kernel, by decide +kernel, by decide +kernel, .inl ⟨"len", by decide +kernel, call_pLen u1⟩⟩
  case abs => cases h; exact ⟨by decide +kernel, by decide +kernel, by decide +kernel, .inl ⟨"abs", by decide +kernel, call_pAbs⟩⟩
  case min2 => cases h; exact ⟨by decide +kernel, by decide +kernel, by decide +kernel, .inl ⟨"min", by decide +kernel, call_pMin2 ok.calm⟩⟩
  case max2 => cases h; exact ⟨by decide +kernel, by decide +kernel, by decide +kernel, .inl ⟨"max", by decide +kernel, call_pMax2 ok.calm⟩⟩
  case min1 => cases h; exact ⟨by decide +kernel, by decide +kernel, by decide +kernel, .inl ⟨"min", by decide +kernel, call_pMin1 ok.calm⟩⟩
  case max1 => cases h; exact ⟨by decide +kernel, by decide +kernel, by decide +kernel, .inl ⟨"max", by decide +kernel, call_pMax1 ok.calm⟩⟩
  case sum1 => cases h; exact ⟨by decide +kernel, by decide +kernel, by decide +kernel, .inl ⟨"sum", by decide +kernel, call_pSum1 ok.calm⟩⟩
  case repr => cases h; exact ⟨by decide +kernel, by decide +kernel, by decide +kernel, .inl ⟨"repr", by decide +kernel, call_pRepr ok.guards ok.un⟩⟩
  case all1 => cases h; exact ⟨by decide +kernel, by decide +kernel, by decide +kernel, .inl ⟨"all", by decide +kernel, call_pAll1 ok.calm⟩⟩
  case toInt => cases h; exact ⟨by decide +kernel, by decide +kernel, by decide +kernel, .inr ⟨"int", by decide +kernel, call_pToInt⟩⟩
  case toTuple => cases h; exact ⟨by decide +kernel, by decide +kernel, by decide +kernel, .inr ⟨"tuple", by decide +kernel, call_pToTuple⟩⟩
  case toList => cases h; exact ⟨by decide +kernel, by decide +kernel, by decide +kernel, .inr ⟨"list", by decide +kernel, call_pToList⟩⟩
theorem pe_ty {nm : Str} {T : String} {ps : Pos} (hg : Gl X nm) (hm : X.mg nm = none) (hv : bootBuiltins nm = some (.type T)) (hn : nm ≠ "__name__") (hd : (nm == ("__debug__" : Str)) = false) : PE X (.Name nm ps) (tC (.ty T)) :=
  ⟨fun pins s σ H Q I q => ld_blt I hg hm hv ⟨.ty T, H, I, rfl, q⟩ hn hd⟩
theorem tn_ok {T : Tn} {nm : Str} (ok : Okx cl G X) (h : tnOf T = some nm) (hg : Gl X nm) {ps : Pos} : PE X (.Name nm ps) (tC (.ty T.name)) := by
  cases T <;> try (cases h; done)
  case bool => cases h; exact pe_ty (T := "bool") hg (ok.blt _ (by decide +kernel)) (by decide +kernel) (by decide +kernel) (by decide +kernel)
  case int => cases h; exact pe_ty (T := "int") hg (ok.blt _ (by decide +kernel)) (by decide +kernel) (by decide +kernel) (by decide +kernel)
  case str => cases h; exact pe_ty (T := "str") hg (ok.blt _ (by decide +kernel)) (by decide +kernel) (by decide +kernel) (by decide +kernel)
  case tuple => cases h; exact pe_ty (T := "tuple") hg (ok.blt _ (by decide +kernel)) (by decide +kernel) (by decide +kernel) (by decide +kernel)
  case list => cases h; exact pe_ty (T := "list") hg (ok.blt _ (by decide +kernel)) (by decide +kernel) (by decide +kernel) (by decide +kernel)
  case dict => cases h; exact pe_ty (T := "dict") hg (ok.blt _ (by decide +kernel)) (by decide +kernel) (by decide +kernel) (by decide +kernel)
theorem plainIx {b : Expr} (h : notSlice b = true) : PlainIx b := by
  intro o i
  cases b <;> first | (cases h; done) | rfl
theorem shape_ok (ok : Okx cl G X) (k : At c X) (hs : shape c p e = some l) (h : PEs X cl es l) : PE X e (tS X.K cl (.prim p es)) := by
  have u1 : X.A.units + 1 < cLine := by have := ok.un; omega
  unfold shape at hs
  split at hs
  · cases hs; exact r_un h un_pNeg
  · cases hs; exact r_isN h
  · cases hs; exact r_isNN h
  · split at hs
    · rename_i hn; cases hs; exact r_ix u1 h (plainIx hn)
    · cases hs
  · cases hs; exact r_cut00 h
  · cases hs; exact r_cut10 h
  · cases hs; exact r_cut01 h
  · cases hs; exact r_cut11 h
  · cases hs; exact r_rev h
  · cases hs; exact r_tup h
  · cases hs; exact r_lst h
  · cases hs; exact r_dic h
  · split at hs
    · rename_i hx; cases hs
      obtain ⟨rfl, h1, h2, h3, h4⟩ := hx
      exact r_isi h (gl_ok k h1) (ok.blt _ (by decide +kernel)) (tn_ok ok h2 (gl_ok k h3)) h4
    · cases hs
  · split at hs
    · rename_i ho; cases hs; exact r_bin h (op_ok ho)
    · cases hs
  · split at hs
    · rename_i ho; cases hs; exact r_isK h (isK_ok ho) (isK_mark ho _)
    · split at hs
      · rename_i ho; cases hs; exact r_cmp h (cmp_ok ok ho) rfl
      · cases hs
  · split at hs
    · rename_i ho; cases hs; exact r_cmp h (cmp_ok ok ho.1) ho.2
    · cases hs
  · split at hs
    · rename_i ho; cases hs
      obtain ⟨h1, h2, h3, h4⟩ := fn_ok ok ho.1
      rcases h4 with ⟨id, hb, hc⟩ | ⟨T, hb, hc⟩
      · exact r_call h hc (gl_ok k ho.2) (ok.blt _ h1) hb h2 h3
      · exact r_callT h hc (gl_ok k ho.2) (ok.blt _ h1) hb h2 h3
    · cases hs
  · cases hs
/-- a comparison as a test -/
theorem shape_test (ok : Okx cl G X) (k : At c X) {a : Expr} {os : List CmpOp} {bs : List Expr} {ps : Pos} (hs : shape c p (.Compare a os bs ps) = some l) (h : PEs X cl es l) : PT X (.Compare a os bs ps) (tT X.K cl (.val (.prim p es))) := by
  unfold shape at hs
  split at hs
  · rename_i e1; cases e1
  · rename_i e1; cases e1; cases hs; exact t_isN h
  · rename_i e1; cases e1; cases hs; exact t_isNN h
  · rename_i e1; cases e1
  · rename_i e1; cases e1
  · rename_i e1; cases e1
  · rename_i e1; cases e1
  · rename_i e1; cases e1
  · rename_i e1; cases e1
  · rename_i e1; cases e1
  · rename_i e1; cases e1
  · rename_i e1; cases e1
  · rename_i e1; cases e1
  · rename_i e1; cases e1
  · rename_i e1; cases e1
    split at hs
    · rename_i ho; cases hs; exact t_isK h (isK_ok ho) (isK_mark ho _) (isK_bool ho)
    · split at hs
      · rename_i ho; cases hs; exact t_cmp h (cmp_ok ok ho) rfl (cmp_bool ho)
      · cases hs
  · rename_i e1; cases e1
    split at hs
    · rename_i ho; cases hs; exact t_cmp h (cmp_ok ok ho.1) ho.2 (cmp_bool ho.1)
    · cases hs
  · rename_i e1; cases e1
  · cases hs
end
end Mp

set_option Elab.async false
set_option linter.all false
set_option maxRecDepth 100000
set_option maxHeartbeats 1000000
namespace Mp
open PySem PySem.Spec PyProof.Rows L2 TL

def cstOk : U → Expr → Bool
  | .non, .Constant .none _ _ => true
  | .bl b, .Constant (.bool k) _ _ => b == k
  | .int i, .Constant (.int k) _ _ => i == k
  | .str s, .Constant (.str x) _ _ => tl x == s
  | _, _ => false
/-- methods: the kind of the receiver, the name, the builtin, how many are given -/
def mtOf : Tn → Prim → Option (Str × Nat)
  | .str, .find => some ("find", 1)
  | .str, .rfind => some ("rfind", 1)
  | .str, .rfind4 => some ("rfind", 3)
  | .str, .index => some ("index", 1)
  | .str, .count => some ("count", 1)
  | .str, .join => some ("join", 1)
  | .list, .append => some ("append", 1)
  | .dict, .get1 => some ("get", 1)
  | .dict, .get2 => some ("get", 2)
  | _, _ => none
def ownOf (N : List Str) (own : List Nat) : List (Str × Nat) := own.map fun i => ((N[i]?).getD "", i)
def blkCc (c : Cc) (scope : Scope) : Cc := ⟨relS scope c.sc, fun x => scope.names.lookup x == some .cell⟩
def loc (c : Cc) (x : Str) : Bool := decide (c.sc.names.lookup x = some .local) || (decide (c.sc.names.lookup x = some .cell) && c.fn x)
def nmOk (N : List Str) (c : Cc) (i : Nat) : Expr → Bool
  | .Name x _ => decide (N[i]? = some x) && loc c x
  | _ => false
def ptOk (N : List Str) (c : Cc) : Pt → Expr → Bool
  | .nm i, e => nmOk N c i e
  | .two i j, .Tuple [a, b] _ _ => nmOk N c i a && nmOk N c j b
  | .three i j k, .Tuple [a, b, d] _ _ => nmOk N c i a && nmOk N c j b && nmOk N c k d
  | _, _ => false
def isTup : Expr → Bool
  | .Tuple _ _ _ => true
  | _ => false
def notSet : Expr → Bool
  | .Set _ _ _ => false
  | _ => true
/-- what can be tested as any value -/
def plainTest : Expr → Bool
  | .UnaryOp .Not _ _ => false
  | .BoolOp _ _ _ => false
  | .IfExp _ _ _ _ => false
  | .Compare _ _ _ _ => false
  | _ => true
def isCmp : Expr → Bool
  | .Compare _ _ _ _ => true
  | _ => false
def cmpEx : Ex → Bool
  | .prim _ _ => true
  | .chain _ _ _ _ _ => true
  | _ => false
def ikOf : Ik → Str × Nat
  | .range1 => ("range", 1)
  | .range2 => ("range", 2)
  | .range3 => ("range", 3)
  | .enum => ("enumerate", 1)
  | .zip => ("zip", 2)
def ikTup : Ik → Bool
  | .enum => true
  | .zip => true
  | _ => false

section
variable (N : List Str) (G : Gs)
mutual
def chkE : Cc → Ex → Expr → Bool
  | c, .cst u, e => cstOk u e || (match e with
    | .Name x _ => gl c x && plainName x && (match G.cs.lookup x with | some w => U.beq w u | none => false)
    | _ => false)
  | c, .var i, e => match e with
    | .Name x _ => decide (N[i]? = some x) && vis c x && plainName x
    | _ => false
  | c, .prim p es, e => match shape c p e with
    | some l => chkEs c es l
    | none => false
  | c, .call f es, e => match e with
    | .Call (.Name x _) (a :: l) [] _ => decide (G.fns.lookup x = some f) && gl c x && !(x == ("__debug__" : Str)) && chkEs c es (a :: l)
    | _ => false
  | c, .ite t a b, e => match e with
    | .IfExp d x y _ => chkT c t d && chkE c a x && chkE c b y
    | _ => false
  | c, .andv a b, e => match e with
    | .BoolOp .And [x, y] _ => chkE c a x && chkE c b y
    | .BoolOp .And (x :: y :: z :: l) ps => chkE c a x && chkE c b (.BoolOp .And (y :: z :: l) ps)
    | _ => false
  | c, .orv a b, e => match e with
    | .BoolOp .Or [x, y] _ => chkE c a x && chkE c b y
    | .BoolOp .Or (x :: y :: z :: l) ps => chkE c a x && chkE c b (.BoolOp .Or (y :: z :: l) ps)
    | _ => false
  | c, .comp it p own t x, e => match e with
    | .ListComp elt [⟨tg, iter, ifs, asy⟩] scope _ => decide (asy = 0) && chkI c it tg iter && blkC N c.sc scope (ownOf N own) && ptOk N (blkCc c scope) p tg && (p.names.all fun i => own.contains i) && notSet iter &&
        (match ifs with
          | [] => (match t with | .tt => true | _ => false)
          | [d] => chkT (blkCc c scope) t d
          | _ => false) && chkE (blkCc c scope) x elt
    | _ => false
  | c, .meth t p x es, e => match e with
    | .Call (.Attribute o name apos) (a :: l) [] cpos => decide (mtOf t p = some (name, l.length + 1)) && baseOk o && (apos.endLine == cpos.line) && chkE c x o && chkEs c es (a :: l)
    | _ => false
  | c, .chain p q x y z, e => match e with
    | .Compare a [o, o'] [b, d] _ => decide (cmpOf p = some o) && decide (cmpOf q = some o') && !(lastMarks [o, o'] [b, d]) && chkE c x a && chkE c y b && chkE c z d
    | _ => false
def chkEs : Cc → Exs → List Expr → Bool
  | _, .nil, [] => true
  | c, .cons x xs, e :: es => nostar e && chkE c x e && chkEs c xs es
  | _, _, _ => false
def chkT : Cc → Ts → Expr → Bool
  | _, .tt, _ => false
  | c, .val x, e => (plainTest e || (isCmp e && cmpEx x)) && chkE c x e
  | c, .and a b, e => match e with
    | .BoolOp .And [x, y] _ => chkT c a x && chkT c b y
    | .BoolOp .And (x :: y :: z :: l) ps => chkT c a x && chkT c b (.BoolOp .And (y :: z :: l) ps)
    | _ => false
  | c, .or a b, e => match e with
    | .BoolOp .Or [x, y] _ => chkT c a x && chkT c b y
    | .BoolOp .Or (x :: y :: z :: l) ps => chkT c a x && chkT c b (.BoolOp .Or (y :: z :: l) ps)
    | _ => false
  | c, .not a, e => match e with
    | .UnaryOp .Not x _ => chkT c a x
    | _ => false
def chkI : Cc → Mp.It → Expr → Expr → Bool
  | c, .ofE x, _, e => chkE c x e
  | c, .call k es, tg, e => match e with
    | .Call (.Name x _) l [] _ => decide ((x, l.length) = ikOf k) && gl c x && (!(ikTup k) || isTup tg) && chkEs c es l
    | _ => false
end
end

section
variable {N : List Str} {G : Gs} {cl : Nat → List U → Hm → R U}
theorem cst_ok {X : Cx} {u : U} {e : Expr} (h : cstOk u e = true) : PE X e (tS X.K cl (.cst u)) := by
  unfold cstOk at h
  split at h
  · exact snd_cst (fun H m => RU.non.mpr rfl) pe_non
  · rename_i b k _ _
    have : b = k := by simpa using h
    subst this
    exact snd_cst (fun H m => RU.bl.mpr rfl) pe_bl
  · rename_i b k _ _
    have : b = k := by simpa using h
    subst this
    exact snd_cst (fun H m => RU.int.mpr rfl) pe_int
  · rename_i s x _ _
    have : tl x = s := by simpa using h
    subst this
    exact snd_cst (fun H m => RU.str.mpr (by rw [ts_tl])) pe_str
  · cases h
theorem vis_ok {X : Cx} {c : Cc} (k : At c X) {x : Str} (h : vis c x = true) : Vis X.env.scope x := by
  unfold vis at h
  rw [← k.1] at h
  split at h
  · exact .inl (by assumption)
  · exact .inr (.inl (by assumption))
  · exact .inr (.inr (by assumption))
  · cases h
theorem loc_ok {X : Cx} {c : Cc} (k : At c X) {x : Str} (h : loc c x = true) : Loc X.env.scope x ∧ (X.fn x = true ∨ X.env.scope.names.lookup x = some .local) := by
  unfold loc at h
  rw [← k.1, Bool.or_eq_true, Bool.and_eq_true, decide_eq_true_eq, decide_eq_true_eq] at h
  rcases h with h | h
  · exact ⟨.inl h, .inr h⟩
  · exact ⟨.inr h.1, .inl (k.2 x h.2)⟩
theorem nm_ok {X : Cx} {c : Cc} (ok : Okx cl G X) (k : At c X) (hN : X.N = N) {i : Nat} {e : Expr} (h : nmOk N c i e = true) : PG X e (gName i) := by
  unfold nmOk at h
  split at h
  · rename_i x p
    rw [Bool.and_eq_true, decide_eq_true_eq] at h
    obtain ⟨h1, h2⟩ := loc_ok k h.2
    exact pg_name ok.nd (by rw [hN]; exact h.1) h1 h2
  · cases h
theorem nm_name {c : Cc} {i : Nat} {e : Expr} (h : nmOk N c i e = true) : ∃ x p, e = .Name x p := by
  unfold nmOk at h
  split at h
  · exact ⟨_, _, rfl⟩
  · cases h
theorem pt_ok {X : Cx} {c : Cc} (ok : Okx cl G X) (k : At c X) (hN : X.N = N) {p : Pt} {e : Expr} (h : ptOk N c p e = true) : PG X e (gPt X.K p) := by
  unfold ptOk at h
  split at h
  · exact nm_ok ok k hN h
  · rw [Bool.and_eq_true] at h
    obtain ⟨x, px, rfl⟩ := nm_name h.1
    obtain ⟨y, py, rfl⟩ := nm_name h.2
    exact pg_tup ok.calm (pgs_cons (nm_ok ok k hN h.1) (pgs_cons (nm_ok ok k hN h.2) pgs_nil))
  · rw [Bool.and_eq_true, Bool.and_eq_true] at h
    obtain ⟨x, px, rfl⟩ := nm_name h.1.1
    obtain ⟨y, py, rfl⟩ := nm_name h.1.2
    obtain ⟨z, pz, rfl⟩ := nm_name h.2
    exact pg_tup ok.calm (pgs_cons (nm_ok ok k hN h.1.1) (pgs_cons (nm_ok ok k hN h.1.2) (pgs_cons (nm_ok ok k hN h.2) pgs_nil)))
  · cases h
theorem pe_bool1 {X : Cx} {o : BoolOp} {b : Expr} {ps : Pos} {t : TE} (h : PE X b t) : PE X (.BoolOp o [b] ps) t := ⟨fun pins s σ H Q I q => h.run pins s σ H Q I q⟩
theorem blk_ok {X : Cx} (ok : Okx cl G X) (s : Shared) (H : Hp) (scope : Scope) (C : Addr) (cs : List (Str × Addr)) (fp : List Addr) (hk : scope.kind = .function) : Okx cl G (X.blk s H scope (compEnvC scope cs C X.env) fp) :=
  ⟨ok.nd, ok.calm, hk, ok.guards, ok.un, rfl, ok.blt, ok.fns, ok.cst⟩
theorem blk_at {X : Cx} {c : Cc} (k : At c X) (s : Shared) (H : Hp) (scope : Scope) (C : Addr) (cs : List (Str × Addr)) (fp : List Addr) : At (blkCc c scope) (X.blk s H scope (compEnvC scope cs C X.env) fp) :=
  ⟨by show relS scope X.env.scope = relS scope c.sc; rw [k.1], fun x h => h⟩
theorem mt_ok {X : Cx} (ok : Okx cl G X) {t : Tn} {p : Prim} {nm : Str} {n : Nat} (h : mtOf t p = some (nm, n)) : (t = .str ∨ t = .list ∨ t = .dict) ∧ n < 30 ∧ ∃ id, PlainAttrs (tnName t) ∧ Slot (tnName t) nm id ∧ typeOf (.builtin id) = pure (.type "method_descriptor") ∧ MtR X id (fun x xs H Q => rP X.K (prim p) (x :: xs) H Q) := by
  have u1 : X.A.units + 1 < cLine := by have := ok.un; omega
  unfold mtOf at h
  split at h
  · cases h; exact ⟨.inl rfl, by decide, _, F.plainAttrs_str, F.slot_str_find, F.type_str_find, mt_pFind⟩
  · cases h; exact ⟨.inl rfl, by decide, _, F.plainAttrs_str, F.slot_str_rfind, F.type_str_rfind, mt_pRfind⟩
  · cases h; exact ⟨.inl rfl, by decide, _, F.plainAttrs_str, F.slot_str_rfind, F.type_str_rfind, mt_pRfind4⟩
  · cases h; exact ⟨.inl rfl, by decide, _, F.plainAttrs_str, F.slot_str_index, F.type_str_index, mt_pIndex⟩
  · cases h; exact ⟨.inl rfl, by decide, _, F.plainAttrs_str, F.slot_str_count, F.type_str_count, mt_pCount⟩
  · cases h; exact ⟨.inl rfl, by decide, _, F.plainAttrs_str, F.slot_str_join, F.type_str_join, mt_pJoin⟩
  · cases h; exact ⟨.inr (.inl rfl), by decide, _, F.plainAttrs_list, F.slot_list_append, F.type_list_append, mt_pAppend⟩
  · cases h; exact ⟨.inr (.inr rfl), by decide, _, F.plainAttrs_dict, F.slot_dict_get, F.type_dict_get, mt_pGet1 u1⟩
  · cases h; exact ⟨.inr (.inr rfl), by decide, _, F.plainAttrs_dict, F.slot_dict_get, F.type_dict_get, mt_pGet2 u1⟩
  · cases h
theorem plain_test {X : Cx} {e : Expr} (h : plainTest e = true) : ∀ whole, isTrue e X.env whole = (do let v ← whole; standAt e.pos; holding [v] (PySem.truthy v)) := by
  intro wh
  cases e <;> first | (cases h; done) | rfl | skip
  case UnaryOp o a ps => cases o <;> first | (cases h; done) | rfl

mutual
theorem snd_E : ∀ (c : Cc) (x : Ex) (e : Expr), chkE N G c x e = true → ∀ X : Cx, Okx cl G X → X.N = N → At c X → PE X e (tS X.K cl x)
  | c, .cst u, e, h, X, ok, hN, k => by
    unfold chkE at h
    rw [Bool.or_eq_true] at h
    rcases h with h | h
    · exact cst_ok h
    · split at h
      · rename_i x p
        simp only [Bool.and_eq_true, plainName, Bool.not_eq_true'] at h
        split at h
        · rename_i w hw
          have hu := U.beq_eq h.2
          subst hu
          obtain ⟨v, w, h1, h2, h3⟩ := ok.cst x _ hw
          exact snd_cst h3 (pe_glob (gl_ok k h.1.1) h1 h2 h.1.2.1)
        · exact absurd h.2 Bool.false_ne_true
      · cases h
  | c, .var i, e, h, X, ok, hN, k => by
    unfold chkE at h
    split at h
    · rename_i x p
      simp only [Bool.and_eq_true, decide_eq_true_eq, plainName, Bool.not_eq_true'] at h
      exact snd_var (by rw [hN]; exact h.1.1) (vis_ok k h.1.2) h.2.1 h.2.2
    · cases h
  | c, .prim p es, e, h, X, ok, hN, k => by
    unfold chkE at h
    split at h
    · rename_i l hs
      exact shape_ok ok k hs (snd_Es c es l h X ok hN k)
    · cases h
  | c, .call f es, e, h, X, ok, hN, k => by
    unfold chkE at h
    split at h
    · rename_i x p a l ps
      simp only [Bool.and_eq_true, decide_eq_true_eq, Bool.not_eq_true'] at h
      obtain ⟨fa, h1, h2, h3⟩ := ok.fns x f h.1.1.1
      exact r_fn (snd_Es c es _ h.2 X ok hN k) (h3 X rfl rfl rfl rfl rfl rfl) (gl_ok k h.1.1.2) h1 h2 h.1.2
    · cases h
  | c, .ite t a b, e, h, X, ok, hN, k => by
    unfold chkE at h
    split at h
    · simp only [Bool.and_eq_true] at h
      exact snd_ite (snd_T c t _ h.1.1 X ok hN k).1 (snd_E c a _ h.1.2 X ok hN k) (snd_E c b _ h.2 X ok hN k)
    · cases h
  | c, .andv a b, e, h, X, ok, hN, k => by
    unfold chkE at h
    split at h
    · simp only [Bool.and_eq_true] at h
      exact snd_and (snd_E c a _ h.1 X ok hN k) (pe_bool1 (snd_E c b _ h.2 X ok hN k))
    · simp only [Bool.and_eq_true] at h
      exact snd_and (snd_E c a _ h.1 X ok hN k) (snd_E c b _ h.2 X ok hN k)
    · cases h
  | c, .orv a b, e, h, X, ok, hN, k => by
    unfold chkE at h
    split at h
    · simp only [Bool.and_eq_true] at h
      exact snd_or (snd_E c a _ h.1 X ok hN k) (pe_bool1 (snd_E c b _ h.2 X ok hN k))
    · simp only [Bool.and_eq_true] at h
      exact snd_or (snd_E c a _ h.1 X ok hN k) (snd_E c b _ h.2 X ok hN k)
    · cases h
  | c, .comp it p own t x, e, h, X, ok, hN, k => by
    unfold chkE at h
    split at h
    · rename_i elt tg iter ifs asy scope ps
      simp only [Bool.and_eq_true, decide_eq_true_eq] at h
      obtain ⟨⟨⟨⟨⟨⟨⟨h1, h2⟩, h3⟩, h4⟩, h5⟩, h6⟩, h7⟩, h8⟩ := h
      subst h1
      have bo : BlkOk X.N X.env.scope scope (ownOf N own) := by rw [hN, k.1]; exact blkOk_by h3
      have ho : (ownOf N own).map (·.2) = own := by unfold ownOf; rw [List.map_map]; exact List.map_id _
      have hp : ∀ i ∈ p.names, i ∈ own := fun i hi => by simpa using List.all_eq_true.mp h5 i hi
      have fs : ∀ x, foldedSetIterable iter X.env x = pure x := by
        intro x
        cases iter <;> first | (cases h6; done) | rfl
      have main := pe_lc (pos := ps) (ifs := ifs) (g := gPt X.K p) (tt := tT X.K cl t) (te := tS X.K cl x) ok.calm ok.nd (snd_I c it tg iter h2 X ok hN k) bo
        (fun s H C cs fp => pt_ok (blk_ok ok s H scope C cs fp bo.kind) (blk_at k s H scope C cs fp) hN h4)
        (fun s H C cs fp => by
          split at h7
          · split at h7
            · exact ⟨fun pins s' σ H' Q I q => pts_nil.run pins s' σ H' Q I (by
                obtain ⟨m, r, h, a, h', st, rl, e, cont⟩ := q
                rw [tst] at e; cases e
                exact cont m H' true Go.refl rl rfl)⟩
            · cases h7
          · exact pts_one (snd_T (blkCc c scope) t _ h7 _ (blk_ok ok s H scope C cs fp bo.kind) hN (blk_at k s H scope C cs fp)).1
          · cases h7)
        (fun s H C cs fp => snd_E (blkCc c scope) x elt h8 _ (blk_ok ok s H scope C cs fp bo.kind) hN (blk_at k s H scope C cs fp)) fs
      rw [ho] at main
      exact main.weak fun σ H Q q => tS_comp hp q
    · cases h
  | c, .meth t p x es, e, h, X, ok, hN, k => by
    unfold chkE at h
    split at h
    · rename_i o name apos a l cpos
      simp only [Bool.and_eq_true, decide_eq_true_eq] at h
      obtain ⟨⟨⟨⟨h1, h2⟩, h3⟩, h4⟩, h5⟩ := h
      obtain ⟨ht, hl, id, pa, sl, ty, mr⟩ := mt_ok ok h1
      exact r_meth ht (snd_E c x o h4 X ok hN k) (snd_Es c es _ h5 X ok hN k) pa sl ty mr h2 (by simpa using hl) h3
    · cases h
  | c, .chain p q x y z, e, h, X, ok, hN, k => by
    unfold chkE at h
    split at h
    · simp only [Bool.and_eq_true, decide_eq_true_eq, Bool.not_eq_true'] at h
      obtain ⟨⟨⟨⟨⟨h1, h2⟩, h3⟩, h4⟩, h5⟩, h6⟩ := h
      exact r_chain (snd_E c x _ h4 X ok hN k) (snd_E c y _ h5 X ok hN k) (snd_E c z _ h6 X ok hN k) (cmp_ok ok h1) (cmp_ok ok h2) h3
    · cases h
theorem snd_Es : ∀ (c : Cc) (xs : Exs) (es : List Expr), chkEs N G c xs es = true → ∀ X : Cx, Okx cl G X → X.N = N → At c X → PEs X cl xs es
  | c, .nil, [], h, X, ok, hN, k => .nil
  | c, .cons x xs, e :: es, h, X, ok, hN, k => by
    unfold chkEs at h
    simp only [Bool.and_eq_true] at h
    exact .cons h.1.1 (snd_E c x e h.1.2 X ok hN k) (snd_Es c xs es h.2 X ok hN k)
  | c, .nil, _ :: _, h, X, ok, hN, k => by simp [chkEs] at h
  | c, .cons _ _, [], h, X, ok, hN, k => by simp [chkEs] at h
theorem snd_T : ∀ (c : Cc) (t : Ts) (e : Expr), chkT N G c t e = true → ∀ X : Cx, Okx cl G X → X.N = N → At c X → PT X e (tT X.K cl t) ∧ ((∃ o l ps, e = .BoolOp o l ps) → PW X e (tT X.K cl t))
  | c, .tt, e, h, X, ok, hN, k => by simp [chkT] at h
  | c, .val x, e, h, X, ok, hN, k => by
    unfold chkT at h
    simp only [Bool.and_eq_true, Bool.or_eq_true] at h
    refine ⟨?_, ?_⟩
    · rcases h.1 with h1 | ⟨h1, h2⟩
      · exact snd_val (snd_E c x e h.2 X ok hN k) (plain_test h1)
      · cases e <;> first | (cases h1; done) | skip
        rename_i a os bs ps
        cases x <;> first | (cases h2; done) | skip
        · rename_i p es
          have h3 := h.2
          unfold chkE at h3
          split at h3
          · rename_i l hs
            exact shape_test ok k hs (snd_Es c es l h3 X ok hN k)
          · cases h3
        · rename_i p q x y z
          have h3 := h.2
          unfold chkE at h3
          split at h3
          · rename_i e1
            cases e1
            simp only [Bool.and_eq_true, decide_eq_true_eq, Bool.not_eq_true'] at h3
            obtain ⟨⟨⟨⟨⟨h1, h2⟩, h3⟩, h4⟩, h5⟩, h6⟩ := h3
            exact t_chain (snd_E c x _ h4 X ok hN k) (snd_E c y _ h5 X ok hN k) (snd_E c z _ h6 X ok hN k) (cmp_ok ok h1) (cmp_ok ok h2) h3 (cmp_bool h2)
          · cases h3
    · rintro ⟨o, l, ps, rfl⟩
      rcases h.1 with h1 | ⟨h1, h2⟩
      · cases h1
      · cases h1
  | c, .and a b, e, h, X, ok, hN, k => by
    unfold chkT at h
    split at h
    · simp only [Bool.and_eq_true] at h
      have := snd_andT (pos := by assumption) (snd_T c a _ h.1 X ok hN k).1 (pw_and1 (snd_T c b _ h.2 X ok hN k).1)
      exact ⟨this.pt, fun _ => this⟩
    · simp only [Bool.and_eq_true] at h
      have := snd_andT (snd_T c a _ h.1 X ok hN k).1 ((snd_T c b _ h.2 X ok hN k).2 ⟨_, _, _, rfl⟩)
      exact ⟨this.pt, fun _ => this⟩
    · cases h
  | c, .or a b, e, h, X, ok, hN, k => by
    unfold chkT at h
    split at h
    · simp only [Bool.and_eq_true] at h
      have := snd_orT (pos := by assumption) (snd_T c a _ h.1 X ok hN k).1 (pw_or1 (snd_T c b _ h.2 X ok hN k).1)
      exact ⟨this.pt, fun _ => this⟩
    · simp only [Bool.and_eq_true] at h
      have := snd_orT (snd_T c a _ h.1 X ok hN k).1 ((snd_T c b _ h.2 X ok hN k).2 ⟨_, _, _, rfl⟩)
      exact ⟨this.pt, fun _ => this⟩
    · cases h
  | c, .not a, e, h, X, ok, hN, k => by
    unfold chkT at h
    split at h
    · exact ⟨snd_not (snd_T c a _ h X ok hN k).1, fun ⟨_, _, _, z⟩ => by cases z⟩
    · cases h
theorem snd_I : ∀ (c : Cc) (x : Mp.It) (tg e : Expr), chkI N G c x tg e = true → ∀ X : Cx, Okx cl G X → X.N = N → At c X → PI X tg e (tI X.K cl x)
  | c, .ofE x, tg, e, h, X, ok, hN, k => by
    unfold chkI at h
    exact pi_ofE (snd_E c x e h X ok hN k)
  | c, .call kk es, tg, e, h, X, ok, hN, k => by
    unfold chkI at h
    split at h
    · rename_i x p l ps
      simp only [Bool.and_eq_true, decide_eq_true_eq] at h
      obtain ⟨⟨⟨h1, h2⟩, h3⟩, h4⟩ := h
      have pes := snd_Es c es _ h4 X ok hN k
      have g := gl_ok k h2
      cases kk with
      | range1 =>
        simp only [ikOf, Prod.mk.injEq] at h1
        obtain ⟨rfl, h1⟩ := h1
        obtain ⟨a, rfl⟩ := List.length_eq_one_iff.mp h1
        exact ts_range1 pes g (ok.blt _ (by decide +kernel))
      | range2 =>
        simp only [ikOf, Prod.mk.injEq] at h1
        obtain ⟨rfl, h1⟩ := h1
        match l, h1 with
        | [a, b], _ => exact ts_range2 pes g (ok.blt _ (by decide +kernel))
      | range3 =>
        simp only [ikOf, Prod.mk.injEq] at h1
        obtain ⟨rfl, h1⟩ := h1
        match l, h1 with
        | [a, b, d], _ => exact ts_range3 pes g (ok.blt _ (by decide +kernel))
      | enum =>
        simp only [ikOf, Prod.mk.injEq] at h1
        obtain ⟨rfl, h1⟩ := h1
        obtain ⟨a, rfl⟩ := List.length_eq_one_iff.mp h1
        have ht : isTup tg = true := by simpa [ikTup] using h3
        cases tg <;> first | (cases ht; done) | exact ts_enum pes g (ok.blt _ (by decide +kernel))
      | zip =>
        simp only [ikOf, Prod.mk.injEq] at h1
        obtain ⟨rfl, h1⟩ := h1
        have ht : isTup tg = true := by simpa [ikTup] using h3
        match l, h1 with
        | [a, b], _ => cases tg <;> first | (cases ht; done) | exact ts_zip pes g (ok.blt _ (by decide +kernel))
    · cases h
end
end
end Mp

set_option Elab.async false
set_option linter.all false
set_option maxRecDepth 100000
set_option maxHeartbeats 1000000
namespace Mp
open PySem PySem.Spec PyProof.Rows L2 TL

def isComp : Expr → Bool
  | .ListComp _ _ _ _ => true
  | .SetComp _ _ _ _ => true
  | .DictComp _ _ _ _ _ => true
  | _ => false
/-- a comprehension that is stored while it is made -/
def swB (sc : Scope) : Expr → Expr → Bool
  | .ListComp _ _ s p, .Name t q => (sc.names.lookup t == some .local) && (q.line == p.line) && !(s.names.any fun (n, k) => n == t && (k == .local || k == .cell))
  | _, _ => false
def lcOr : Expr → Bool
  | .SetComp _ _ _ _ => false
  | .DictComp _ _ _ _ _ => false
  | _ => true
def stQ (c1 c2 c3 c4 c5 : Bool) (ns : List Str) : Option (Option (List Str)) :=
  if c1 = true then some none else if c2 = true then some none else if c3 = true then some none else if c4 = true then some none else if c5 = true then none else some (some ns)
def stNs (sc : Scope) (as : List Expr) : List Str := as.filterMap fun
  | .Name id pos => if sc.names.lookup id == some .local && pos.line == (as.head?.map (·.pos.line)).getD 0 then some id else none
  | _ => none
def isStar : Expr → Bool
  | .Starred _ _ => true
  | _ => false
/-- how a tuple of values is stored in a tuple of names -/
def stP (sc : Scope) (as bs : List Expr) : Option (Option (List Str)) :=
  stQ (!(as.length == 2 || as.length == 3) || bs.length != as.length) (bs.any isStar) ((stNs sc as).length != as.length || (stNs sc as).eraseDups.length != (stNs sc as).length) (bs.all (foldedForSure 8)) (bs.all (constantsAlone 8)) (stNs sc as)
def stNone (sc : Scope) : Expr → Expr → Bool
  | .Tuple as _ _, .Tuple bs _ _ => decide (stP sc as bs = some none)
  | .List _ _, .Tuple _ _ _ => false
  | _, _ => true
section
variable {env : Env}
theorem kf_block (hk : env.scope.kind = .function) : env.blockKind = .function := by unfold Env.blockKind; rw [hk]; rfl
theorem sw_pure {v tg : Expr} {l : Nat} (hk : env.scope.kind = .function) (h : lcOr v = true) : swapsWithSole [tg] v l env = pure (swB env.scope v tg) := by
  show swapsWith v (some tg) l env = _
  have hb := kf_block hk
  cases v <;> first | (cases h; done) | (cases tg <;> rfl) | skip
  rename_i elt gs sc p
  cases tg <;> first | rfl | skip
  unfold swapsWith
  simp only [hb, Expr.pos]
  rfl
theorem st_pure {as bs : List Expr} {k k' : Nat} {p p' : Pos} {r : Option (List Str)} (hk : env.scope.kind = .function) (h : stP env.scope as bs = some r) : swappedStores [.Tuple as k p] (.Tuple bs k' p') env = pure r := by
  have hb := kf_block hk
  have hst : (fun x : Expr => match x with | .Starred .. => true | _ => false) = isStar := by funext x; cases x <;> rfl
  unfold swappedStores
  simp only [pure_bind]
  rw [hb]
  change (if (!(as.length == 2 || as.length == 3) || bs.length != as.length || false) = true then pure none else if (bs.any fun x : Expr => match x with | .Starred .. => true | _ => false) = true then pure none else
    if ((stNs env.scope as).length != as.length || (stNs env.scope as).eraseDups.length != (stNs env.scope as).length) = true then pure none else if bs.all (foldedForSure 8) = true then pure none else
    if bs.all (constantsAlone 8) = true then _ else pure (some (stNs env.scope as))) = pure r
  rw [Bool.or_false, hst]
  unfold stP stQ at h
  by_cases h1 : (!(as.length == 2 || as.length == 3) || bs.length != as.length) = true
  · rw [if_pos h1] at h ⊢; cases h; rfl
  rw [if_neg h1] at h ⊢
  by_cases h2 : (bs.any isStar) = true
  · rw [if_pos h2] at h ⊢; cases h; rfl
  rw [if_neg h2] at h ⊢
  by_cases h3 : ((stNs env.scope as).length != as.length || (stNs env.scope as).eraseDups.length != (stNs env.scope as).length) = true
  · rw [if_pos h3] at h ⊢; cases h; rfl
  rw [if_neg h3] at h ⊢
  by_cases h4 : bs.all (foldedForSure 8) = true
  · rw [if_pos h4] at h ⊢; cases h; rfl
  rw [if_neg h4] at h ⊢
  by_cases h5 : bs.all (constantsAlone 8) = true
  · rw [if_pos h5] at h; cases h
  rw [if_neg h5] at h ⊢
  cases h; rfl
theorem st_none {v tg : Expr} (hk : env.scope.kind = .function) (h : stNone env.scope tg v = true) : swappedStores [tg] v env = pure none := by
  cases v <;> try (cases tg <;> rfl)
  rename_i bs k p
  cases tg <;> first | rfl | (cases h; done) | skip
  exact st_pure hk (of_decide_eq_true h)
end

section
variable (N : List Str) (G : Gs)
def augOf : Prim → Operator → Bool
  | .add, .Add => true
  | .sub, .Sub => true
  | _, _ => false
mutual
def chkS : Cc → Sm → Stmt → Bool
  | c, .asg p x, s => match s with
    | .Assign [tg] v ps =>
      (match p, x, tg, v with
        | .two i j, .prim .tup (.cons x1 (.cons x2 .nil)), .Tuple [.Name a pa, .Name b pb] _ _, .Tuple [e1, e2] _ _ =>
          decide (N[i]? = some a) && decide (N[j]? = some b) && decide (i ≠ j) && decide (c.sc.names.lookup a = some .local) && decide (c.sc.names.lookup b = some .local) &&
            decide (stP c.sc [.Name a pa, .Name b pb] [e1, e2] = some (some [a, b])) && chkEs N G c (.cons x1 (.cons x2 .nil)) [e1, e2]
        | .three i j l, .prim .tup (.cons x1 (.cons x2 (.cons x3 .nil))), .Tuple [.Name a pa, .Name b pb, .Name d pd] _ _, .Tuple [e1, e2, e3] _ _ =>
          decide (N[i]? = some a) && decide (N[j]? = some b) && decide (N[l]? = some d) && decide (i ≠ j) && decide (i ≠ l) && decide (j ≠ l) &&
            decide (c.sc.names.lookup a = some .local) && decide (c.sc.names.lookup b = some .local) && decide (c.sc.names.lookup d = some .local) &&
            decide (stP c.sc [.Name a pa, .Name b pb, .Name d pd] [e1, e2, e3] = some (some [a, b, d])) && chkEs N G c (.cons x1 (.cons x2 (.cons x3 .nil))) [e1, e2, e3]
        | _, _, _, _ => false) ||
      (match p, x, tg with
        | .nm i, .comp _ _ _ _ _, .Name y _ => decide (N[i]? = some y) && decide (c.sc.names.lookup y = some .local) && swB c.sc v tg && chkE N G c x v
        | _, _, _ => false) ||
      (lcOr v && !(swB c.sc v tg) && stNone c.sc tg v && ptOk N c p tg && chkE N G c x v)
    | _ => false
  | c, .asgIx o i x, s => match s with
    | .Assign [.Subscript o' i' _] v ps => notSlice i' && lcOr v && chkE N G c o o' && chkE N G c i i' && chkE N G c x v
    | _ => false
  | c, .aug i p x, s => match s with
    | .AugAssign (.Name y _) op v _ => decide (N[i]? = some y) && loc c y && augOf p op && chkE N G c x v
    | _ => false
  | c, .ifs t a b, s => match s with
    | .If test A B _ => chkT N G c t test && chkSs c a A && chkSs c b B
    | _ => false
  | c, .whl t b, s => match s with
    | .While test B [] _ => chkT N G c t test && chkSs c b B
    | _ => false
  | c, .for_ it p b, s => match s with
    | .For tg iter B [] _ => chkI N G c it tg iter && notSet iter && ptOk N c p tg && chkSs c b B
    | _ => false
  | c, .ret x, s => match s with
    | .Return (some e) _ => chkE N G c x e
    | _ => false
  | _, .retN, s => match s with
    | .Return none _ => true
    | _ => false
  | _, .pass, s => match s with
    | .Pass _ => true
    | _ => false
  | _, .brk, s => match s with
    | .Break _ => true
    | _ => false
  | _, .cont, s => match s with
    | .Continue _ => true
    | _ => false
  | c, .expr x, s => match s with
    | .Expr e _ => !(isComp e) && chkE N G c x e
    | _ => false
  | _, .never, _ => true
def chkSs : Cc → Sms → List Stmt → Bool
  | _, .nil, [] => true
  | c, .cons s ss, t :: ts => chkS c s t && chkSs c ss ts
  | _, .nil, _ :: _ => false
  | _, .cons _ _, [] => false
end
end

section
variable {N : List Str} {G : Gs} {cl : Nat → List U → Hm → R U}
/-- what a comprehension's check gives -/
theorem comp_parts {c : Cc} {it : Mp.It} {p : Pt} {own : List Nat} {t : Ts} {x : Ex} {e : Expr} (h : chkE N G c (.comp it p own t x) e = true) :
    ∃ elt tg iter ifs scope ps, e = .ListComp elt [⟨tg, iter, ifs, 0⟩] scope ps ∧ ∃ q : (∀ i ∈ p.names, i ∈ own), ∀ X : Cx, Okx cl G X → X.N = N → At c X → ∃ own', own'.map (·.2) = own ∧ BlkOk X.N X.env.scope scope own' ∧ PI X tg iter (tI X.K cl it) ∧
      (∀ (s : Shared) (H : L2.Hp) (C : Addr) (cs : List (Str × Addr)) (fp : List Addr), PG (X.blk s H scope (compEnvC scope cs C X.env) fp) tg (gPt X.K p)) ∧
      (∀ (s : Shared) (H : L2.Hp) (C : Addr) (cs : List (Str × Addr)) (fp : List Addr), PTs (X.blk s H scope (compEnvC scope cs C X.env) fp) ifs (tT X.K cl t)) ∧
      (∀ (s : Shared) (H : L2.Hp) (C : Addr) (cs : List (Str × Addr)) (fp : List Addr), PE (X.blk s H scope (compEnvC scope cs C X.env) fp) elt (tS X.K cl x)) ∧ ∀ x, foldedSetIterable iter X.env x = pure x := by
  unfold chkE at h
  split at h
  · rename_i elt tg iter ifs asy scope ps
    simp only [Bool.and_eq_true, decide_eq_true_eq] at h
    obtain ⟨⟨⟨⟨⟨⟨⟨h1, h2⟩, h3⟩, h4⟩, h5⟩, h6⟩, h7⟩, h8⟩ := h
    subst h1
    refine ⟨elt, tg, iter, ifs, scope, ps, rfl, fun i hi => by simpa using List.all_eq_true.mp h5 i hi, fun X ok hN k => ?_⟩
    have bo : BlkOk X.N X.env.scope scope (ownOf N own) := by rw [hN, k.1]; exact blkOk_by h3
    refine ⟨ownOf N own, by unfold ownOf; rw [List.map_map]; exact List.map_id _, bo, snd_I c it tg iter h2 X ok hN k,
      fun s H C cs fp => pt_ok (blk_ok ok s H scope C cs fp bo.kind) (blk_at k s H scope C cs fp) hN h4, fun s H C cs fp => ?_,
      fun s H C cs fp => snd_E (blkCc c scope) x elt h8 _ (blk_ok ok s H scope C cs fp bo.kind) hN (blk_at k s H scope C cs fp), fun x => ?_⟩
    · split at h7
      · split at h7
        · exact ⟨fun pins s' σ H' Q I q => pts_nil.run pins s' σ H' Q I (by
            obtain ⟨m, r, h, a, h', st, rl, e, cont⟩ := q
            rw [tst] at e; cases e
            exact cont m H' true Go.refl rl rfl)⟩
        · cases h7
      · exact pts_one (snd_T (blkCc c scope) t _ h7 _ (blk_ok ok s H scope C cs fp bo.kind) hN (blk_at k s H scope C cs fp)).1
      · cases h7
    · cases iter <;> first | (cases h6; done) | rfl
  · cases h
theorem sw_drop {env : Env} {e : Expr} {l : Nat} (h : isComp e = false) : swapsWith e none l env = pure false := by
  cases e <;> first | rfl | cases h
theorem bind2 {i j : Nat} {u : U} {r r' : En} (h : bindP (.two i j) u r = some r') : ∃ x y, u = .tup [x, y] ∧ r' = (r.set i (some x)).set j (some y) := by
  cases u with
  | tup xs =>
    match xs, h with
    | [x, y], h => simp only [bindP, Option.some.injEq] at h; exact ⟨x, y, rfl, h.symm⟩
    | [], h => simp [bindP] at h
    | [_], h => simp [bindP] at h
    | _ :: _ :: _ :: _, h => simp [bindP] at h
  | _ => simp [bindP] at h
theorem bind3 {i j l : Nat} {u : U} {r r' : En} (h : bindP (.three i j l) u r = some r') : ∃ x y z, u = .tup [x, y, z] ∧ r' = ((r.set i (some x)).set j (some y)).set l (some z) := by
  cases u with
  | tup xs =>
    match xs, h with
    | [x, y, z], h => simp only [bindP, Option.some.injEq] at h; exact ⟨x, y, z, rfl, h.symm⟩
    | [], h => simp [bindP] at h
    | [_], h => simp [bindP] at h
    | [_, _], h => simp [bindP] at h
    | _ :: _ :: _ :: _ :: _, h => simp [bindP] at h
  | _ => simp [bindP] at h
theorem par_core {p : Pt} {xs : Exs} {D : L2.Ends} {σ : L2.St} {H : AH} {K : PySem.W.Frag} {Q : List V → AH → Prop} (q : tM K (exs cl (.asg p (.prim .tup xs))) D σ H)
    (w : ∀ us r r' m h' H' vs, RSt K H' m r σ → Rel K m h' H' → RUs K H' m us vs → bindP p (.tup us) r = some r' → (∀ σ', RSt K H' m r' σ' → D.nx σ' H') → Q vs H') : tSs K cl xs σ H Q := by
  obtain ⟨m, r, h, fl, h', st, rl, e, ok⟩ := q
  rw [exs] at e
  replace e := toS_inv e ok
  obtain ⟨u, h1, e1, e2⟩ := R.bind_inv e
  rw [ev] at e1
  obtain ⟨us, h2, e3, e4⟩ := R.bind_inv e1
  obtain ⟨g, e4⟩ := gd_inv (show gd _ _ = _ from e4)
  cases e4
  refine ⟨m, r, h, us, _, st, rl, e3, fun m' H' vs go rl' rs => ?_⟩
  cases hb : bindP p (.tup us) r with
  | none => rw [hb] at e2; cases e2
  | some r' =>
    rw [hb] at e2
    cases e2
    exact w us r r' m' _ H' vs (st.go go) rl' rs hb fun σ' st' => ok m' H' σ' go rl' st'
theorem par2 {i j : Nat} {xs : Exs} {D : L2.Ends} {σ : L2.St} {H : AH} {K : PySem.W.Frag} (q : tM K (exs cl (.asg (.two i j) (.prim .tup xs))) D σ H) : tPar i j (tSs K cl xs) D σ H := by
  refine par_core q fun us r r' m h' H' vs st rl rs hb nx => ?_
  obtain ⟨x, y, e, rfl⟩ := bind2 hb
  cases e
  obtain ⟨v, w, rfl, r1, r2⟩ := rs.two_inv
  exact ⟨v, w, rfl, nx _ ((st.set _ r1).set _ r2)⟩
theorem par3 {i j l : Nat} {xs : Exs} {D : L2.Ends} {σ : L2.St} {H : AH} {K : PySem.W.Frag} (q : tM K (exs cl (.asg (.three i j l) (.prim .tup xs))) D σ H) : tPar3 i j l (tSs K cl xs) D σ H := by
  refine par_core q fun us r r' m h' H' vs st rl rs hb nx => ?_
  obtain ⟨x, y, z, e, rfl⟩ := bind3 hb
  cases e
  obtain ⟨v, w, t, rfl, r1, r2, r3⟩ := rs.three_inv
  exact ⟨v, w, t, rfl, nx _ (((st.set _ r1).set _ r2).set _ r3)⟩

mutual
theorem snd_S : ∀ (c : Cc) (s : Sm) (st : Stmt), chkS N G c s st = true → ∀ X : Cx, Okx cl G X → X.N = N → At c X → PS X st (tM X.K (exs cl s))
  | c, .asg p x, st, h, X, ok, hN, k => by
    unfold chkS at h
    split at h
    · rename_i tg v ps
      rw [Bool.or_eq_true, Bool.or_eq_true] at h
      rcases h with (h | h) | h
      · split at h
        · rename_i i j x1 x2 a pa b pb kt pt e1 e2 k2 pt2
          simp only [Bool.and_eq_true, decide_eq_true_eq] at h
          obtain ⟨⟨⟨⟨⟨⟨h1, h2⟩, h3⟩, h4⟩, h5⟩, h6⟩, h7⟩ := h
          rw [← k.1] at h4 h5 h6
          exact (ps_par ok.calm ok.nd (by rw [hN]; exact h1) (by rw [hN]; exact h2) h3 h4 h5 (snd_Es c _ _ h7 X ok hN k).pa (st_pure ok.kind h6)).weak fun D σ H q => par2 q
        · rename_i i j l x1 x2 x3 a pa b pb d pd kt pt e1 e2 e3 k2 pt2
          simp only [Bool.and_eq_true, decide_eq_true_eq] at h
          obtain ⟨⟨⟨⟨⟨⟨⟨⟨⟨⟨h1, h2⟩, h3⟩, n1⟩, n2⟩, n3⟩, h4⟩, h5⟩, h5'⟩, h6⟩, h7⟩ := h
          rw [← k.1] at h4 h5 h5' h6
          exact (ps_par3 ok.calm ok.nd (by rw [hN]; exact h1) (by rw [hN]; exact h2) (by rw [hN]; exact h3) n1 n2 n3 h4 h5 h5' (snd_Es c _ _ h7 X ok hN k).pa (st_pure ok.kind h6)).weak fun D σ H q => par3 q
        · cases h
      · split at h
        · rename_i i it p' own t x' y py
          simp only [Bool.and_eq_true, decide_eq_true_eq] at h
          obtain ⟨⟨⟨h1, h2⟩, h3⟩, h4⟩ := h
          obtain ⟨elt, tg', iter, ifs, scope, ps', rfl, hp, main⟩ := comp_parts (cl := cl) h4
          obtain ⟨own', ho, bo, hi, hg, ht, he, fs⟩ := main X ok hN k
          have sw := sw_pure (env := X.env) (v := .ListComp elt [⟨tg', iter, ifs, 0⟩] scope ps') (tg := .Name y py) (l := ps.line) ok.kind rfl
          rw [k.1, h3] at sw
          have := ps_setLc (spos := ps) ok.calm ok.nd (by rw [hN]; exact h1) (by rw [k.1]; exact h2) sw hi bo hg ht he fs
          rw [ho] at this
          exact this.weak fun D σ H q => tS_comp hp (tM_asg q)
        · cases h
      · simp only [Bool.and_eq_true, Bool.not_eq_true'] at h
        obtain ⟨⟨⟨⟨h1, h2⟩, h3⟩, h4⟩, h5⟩ := h
        rw [← k.1] at h2 h3
        refine (ps_asg (snd_E c x v h5 X ok hN k) (pt_ok ok k hN h4) (by rw [sw_pure ok.kind h1, h2]) (st_none ok.kind h3) ?_).weak fun D σ H q => tM_asg q
        cases tg <;> first | rfl | (cases p <;> simp [ptOk, nmOk] at h4)
    · cases h
  | c, .asgIx o i x, st, h, X, ok, hN, k => by
    unfold chkS at h
    split at h
    · rename_i o' i' p' v ps
      simp only [Bool.and_eq_true] at h
      obtain ⟨⟨⟨⟨h1, h2⟩, h3⟩, h4⟩, h5⟩ := h
      have u1 : X.A.units + 1 < cLine := by have := ok.un; omega
      refine (ps_asg (snd_E c x v h5 X ok hN k) (pg_sub (pos := p') (snd_E c o o' h3 X ok hN k) (snd_E c i i' h4 X ok hN k) (set_store u1) ?_) ?_ ?_ ?_).weak fun D σ H q => tM_asgIx q
      · intro w
        cases i' <;> first | (cases h1; done) | rfl
      · rw [sw_pure ok.kind h2]
        cases v <;> rfl
      · cases v <;> rfl
      · rfl
    · cases h
  | c, .aug i p x, st, h, X, ok, hN, k => by
    unfold chkS at h
    split at h
    · rename_i y py op v ps
      simp only [Bool.and_eq_true, decide_eq_true_eq] at h
      obtain ⟨⟨⟨h1, h2⟩, h3⟩, h4⟩ := h
      obtain ⟨l1, l2⟩ := loc_ok k h2
      have he := snd_E c x v h4 X ok hN k
      unfold augOf at h3
      split at h3
      · exact (ps_aug ok.nd (by rw [hN]; exact h1) l1 he ip_add l2).weak fun D σ H q => tM_aug aug_add q
      · exact (ps_aug ok.nd (by rw [hN]; exact h1) l1 he ip_sub l2).weak fun D σ H q => tM_aug aug_sub q
      · cases h3
    · cases h
  | c, .ifs t a b, st, h, X, ok, hN, k => by
    unfold chkS at h
    split at h
    · simp only [Bool.and_eq_true] at h
      exact (ps_if (snd_T c t _ h.1.1 X ok hN k).1 (snd_Ss c a _ h.1.2 X ok hN k) (snd_Ss c b _ h.2 X ok hN k)).weak fun D σ H q => tM_if q
    · cases h
  | c, .whl t b, st, h, X, ok, hN, k => by
    unfold chkS at h
    split at h
    · simp only [Bool.and_eq_true] at h
      exact (ps_while (by rw [ok.xe]; exact PassesOwn.never) (snd_T c t _ h.1 X ok hN k).1 (snd_Ss c b _ h.2 X ok hN k)).weak fun D σ H q => tM_while q
    · cases h
  | c, .for_ it p b, st, h, X, ok, hN, k => by
    unfold chkS at h
    split at h
    · rename_i tg iter B ps
      simp only [Bool.and_eq_true] at h
      obtain ⟨⟨⟨h1, h2⟩, h3⟩, h4⟩ := h
      refine (ps_for (by rw [ok.xe]; exact PassesOwn.never) ok.calm (snd_I c it tg iter h1 X ok hN k) (pt_ok ok k hN h3) (snd_Ss c b _ h4 X ok hN k) ?_).weak fun D σ H q => tM_for q
      intro x
      cases iter <;> first | (cases h2; done) | rfl
    · cases h
  | c, .ret x, st, h, X, ok, hN, k => by
    unfold chkS at h
    split at h
    · exact (ps_ret (snd_E c x _ h X ok hN k)).weak fun D σ H q => tM_ret q
    · cases h
  | c, .retN, st, h, X, ok, hN, k => by
    unfold chkS at h
    split at h
    · refine ps_retN.weak fun D σ H q => ?_
      obtain ⟨m, r, h, fl, h', st, rl, e, okk⟩ := q
      rw [exs] at e; cases e
      exact okk m H .non Go.refl rl (RU.non.mpr rfl)
    · cases h
  | c, .pass, st, h, X, ok, hN, k => by
    unfold chkS at h
    split at h
    · refine ps_pass.weak fun D σ H q => ?_
      obtain ⟨m, r, h, fl, h', st, rl, e, okk⟩ := q
      rw [exs] at e; cases e
      exact okk m H σ Go.refl rl st
    · cases h
  | c, .brk, st, h, X, ok, hN, k => by
    unfold chkS at h
    split at h
    · refine ps_break.weak fun D σ H q => ?_
      obtain ⟨m, r, h, fl, h', st, rl, e, okk⟩ := q
      rw [exs] at e; cases e
      exact okk m H σ Go.refl rl st
    · cases h
  | c, .cont, st, h, X, ok, hN, k => by
    unfold chkS at h
    split at h
    · refine ps_continue.weak fun D σ H q => ?_
      obtain ⟨m, r, h, fl, h', st, rl, e, okk⟩ := q
      rw [exs] at e; cases e
      exact okk m H σ Go.refl rl st
    · cases h
  | c, .expr x, st, h, X, ok, hN, k => by
    unfold chkS at h
    split at h
    · simp only [Bool.and_eq_true, Bool.not_eq_true'] at h
      exact (ps_expr (snd_E c x _ h.2 X ok hN k) (sw_drop h.1)).weak fun D σ H q => tM_expr q
    · cases h
  | c, .never, st, h, X, ok, hN, k => ps_never.weak fun D σ H q => by
    obtain ⟨m, r, h, fl, h', st, rl, e, okk⟩ := q
    rw [exs] at e; cases e
theorem snd_Ss : ∀ (c : Cc) (s : Sms) (st : List Stmt), chkSs N G c s st = true → ∀ X : Cx, Okx cl G X → X.N = N → At c X → PSs X st (tM X.K (exss cl s))
  | c, .nil, [], h, X, ok, hN, k => pss_nil.weak fun D σ H q => tM_nil q
  | c, .cons s ss, t :: ts, h, X, ok, hN, k => by
    unfold chkSs at h
    rw [Bool.and_eq_true] at h
    exact (pss_cons (snd_S c s t h.1 X ok hN k) (snd_Ss c ss ts h.2 X ok hN k)).weak fun D σ H q => tM_cons q
  | c, .nil, _ :: _, h, X, ok, hN, k => by simp [chkSs] at h
  | c, .cons _ _, [], h, X, ok, hN, k => by simp [chkSs] at h
end
end
end Mp

set_option Elab.async false
set_option linter.all false
set_option maxRecDepth 100000
set_option maxHeartbeats 1000000
namespace Mp
open PySem PySem.Spec PyProof.Rows L2 TL

section
variable {K : PySem.W.Frag} {H H' : AH} {m m' : Mm}
mutual
theorem RU.back (g : ∀ i a, m i = some a → m' i = some a) : ∀ {u : U} {v v' : V}, RU K H m u v → RU K H' m' u v' → RU K H' m u v'
  | .non, v, v', _, h => by simpa [RU] using h
  | .bl b, v, v', _, h => by simpa [RU] using h
  | .int b, v, v', _, h => by simpa [RU] using h
  | .str b, v, v', _, h => by simpa [RU] using h
  | .tup xs, v, v', h0, h => by
    simp only [RU] at h0 h ⊢
    obtain ⟨a0, vs0, _, _, r0⟩ := h0
    obtain ⟨a, vs, e, q, r⟩ := h
    exact ⟨a, vs, e, q, RUs.back g r0 r⟩
  | .ref i, v, v', h0, h => by
    simp only [RU] at h0 h ⊢
    obtain ⟨a0, e0, _⟩ := h0
    obtain ⟨a, e, r⟩ := h
    have := g i a0 e0
    rw [e] at this
    cases this
    exact ⟨_, e0, r⟩
theorem RUs.back (g : ∀ i a, m i = some a → m' i = some a) : ∀ {us : List U} {vs vs' : List V}, RUs K H m us vs → RUs K H' m' us vs' → RUs K H' m us vs'
  | [], vs, vs', _, h => by simpa [RUs] using h
  | x :: xs, vs, vs', h0, h => by
    simp only [RUs] at h0 h ⊢
    obtain ⟨y0, ys0, _, a0, b0⟩ := h0
    obtain ⟨y, ys, e, a, b⟩ := h
    exact ⟨y, ys, e, RU.back g a0 a, RUs.back g b0 b⟩
end
theorem RKv.back (g : ∀ i a, m i = some a → m' i = some a) : ∀ {us : List (U × U)} {vs vs' : List (Key × V)}, RKv K H m us vs → RKv K H' m' us vs' → RKv K H' m us vs'
  | [], vs, vs', _, h => by simpa [RKv] using h
  | x :: xs, vs, vs', h0, h => by
    simp only [RKv] at h0 h ⊢
    obtain ⟨k0, w0, s0, _, _, b0, c0⟩ := h0
    obtain ⟨k, w, s, e, a, b, c⟩ := h
    exact ⟨k, w, s, e, a, RU.back g b0 b, RKv.back g c0 c⟩
mutual
theorem RU.clean : ∀ {u : U} {v : V}, Mp.clean u = true → RU K H m' u v → RU K H m u v
  | .non, v, _, h => by simpa [RU] using h
  | .bl b, v, _, h => by simpa [RU] using h
  | .int b, v, _, h => by simpa [RU] using h
  | .str b, v, _, h => by simpa [RU] using h
  | .tup xs, v, c, h => by
    simp only [Mp.clean] at c
    simp only [RU] at h ⊢
    obtain ⟨a, vs, e, q, r⟩ := h
    exact ⟨a, vs, e, q, RUs.clean c r⟩
  | .ref i, v, c, h => by simp [Mp.clean] at c
theorem RUs.clean : ∀ {us : List U} {vs : List V}, Mp.cleans us = true → RUs K H m' us vs → RUs K H m us vs
  | [], vs, _, h => by simpa [RUs] using h
  | x :: xs, vs, c, h => by
    simp only [Mp.cleans, Bool.and_eq_true] at c
    simp only [RUs] at h ⊢
    obtain ⟨y, ys, e, a, b⟩ := h
    exact ⟨y, ys, e, RU.clean c.1 a, RUs.clean c.2 b⟩
end
theorem RKv.clean : ∀ {us : List (U × U)} {vs : List (Key × V)}, Mp.cleans (us.map (·.2)) = true → RKv K H m' us vs → RKv K H m us vs
  | [], vs, _, h => by simpa [RKv] using h
  | x :: xs, vs, c, h => by
    simp only [List.map_cons, Mp.cleans, Bool.and_eq_true] at c
    simp only [RKv] at h ⊢
    obtain ⟨k, w, s, e, a, b, d⟩ := h
    exact ⟨k, w, s, e, a, RU.clean c.1 b, RKv.clean c.2 d⟩
theorem RO.clean {o : O} {a : Addr} (c : flatO o = true) (q : RO K H m' o a) : RO K H m o a := by
  cases o with
  | lst xs => obtain ⟨vs, e, r⟩ := q; exact ⟨vs, e, RUs.clean c r⟩
  | frz xs => obtain ⟨vs, e, r⟩ := q; exact ⟨vs, e, RUs.clean c r⟩
  | dic xs =>
    simp only [flatO, Bool.and_eq_true] at c
    obtain ⟨vs, e, r⟩ := q; exact ⟨vs, e, RKv.clean c.2 r⟩
theorem RO.back {o : O} {a a' : Addr} (g : ∀ i a, m i = some a → m' i = some a) (q0 : RO K H m o a) (q : RO K H' m' o a') : RO K H' m o a' := by
  cases o with
  | lst xs => obtain ⟨vs0, _, r0⟩ := q0; obtain ⟨vs, e, r⟩ := q; exact ⟨vs, e, RUs.back g r0 r⟩
  | frz xs => obtain ⟨vs0, _, r0⟩ := q0; obtain ⟨vs, e, r⟩ := q; exact ⟨vs, e, RUs.back g r0 r⟩
  | dic xs => obtain ⟨vs0, _, r0⟩ := q0; obtain ⟨vs, e, r⟩ := q; exact ⟨vs, e, RKv.back g r0 r⟩
theorem quiet_get : ∀ {h h' : Hm} {i : Nat} {o : O}, quiet h h' = true → h[i]? = some o → ∃ o', h'[i]? = some o' ∧ (o = o' ∨ flatO o' = true)
  | [], _, i, o, _, e => by simp at e
  | a :: r, [], i, o, q, e => by simp [quiet] at q
  | a :: r, b :: s, 0, o, q, e => by
    simp only [quiet, Bool.and_eq_true, Bool.or_eq_true] at q
    simp at e; subst e
    exact ⟨b, rfl, q.1.imp O.beq_eq id⟩
  | a :: r, b :: s, i + 1, o, q, e => by
    simp only [quiet, Bool.and_eq_true] at q
    obtain ⟨o', e', z⟩ := quiet_get (i := i) q.2 (by simpa using e)
    exact ⟨o', by simpa using e', z⟩
theorem Rel.kept {h h1 : Hm} (r : Rel K m h H) (g : Go m H m' H') (r1 : Rel K m' h1 H') (q : quiet h h1 = true) : Rel K m (h1.take h.length) H' := by
  have at_ : ∀ i a, m i = some a → i < h.length := fun i a e => r.lt e
  refine ⟨fun i a e => ?_, fun i j a o p e1 e2 h1' h2' m1 m2 => ?_⟩
  · obtain ⟨o, e0, q0⟩ := r.ob i a e
    obtain ⟨o1, e1, q1⟩ := r1.ob i a (g.sub i a e)
    refine ⟨o1, by rw [List.getElem?_take_of_lt (at_ i a e)]; exact e1, ?_⟩
    obtain ⟨o2, e2, z⟩ := quiet_get q e0
    rw [e1] at e2; cases e2
    rcases z with z | z
    · subst z; exact RO.back g.sub q0 q1
    · exact RO.clean z q1
  · rw [List.getElem?_take_of_lt (at_ i a e1)] at h1'
    rw [List.getElem?_take_of_lt (at_ j a e2)] at h2'
    exact r1.inj i j a o p (g.sub _ _ e1) (g.sub _ _ e2) h1' h2' m1 m2
theorem swept_ok {h h1 h' : Hm} {u w : U} {Q : VK} (r : Rel K m h H) (e : swept h u h1 = .ok w h') (cont : ∀ m' H' v, Go m H m' H' → Rel K m' h' H' → RU K H' m' w v → Q v H')
    (g : Go m H m' H') (r1 : Rel K m' h1 H') {v : V} (ru : RU K H' m' u v) : Q v H' := by
  unfold swept at e
  have g0 : Go m H m H' := ⟨fun _ _ e => e, g.ext⟩
  split at e
  · rename_i hq
    have rk := r.kept g r1 hq
    split at e
    · rename_i hc
      cases e
      exact cont m H' v g0 rk (RU.clean hc ru)
    · split at e
      · rename_i k hnc
        split at e
        · rename_i o ho
          split at e
          · rename_i hf
            cases e
            obtain ⟨a, hm, rfl⟩ := RU.ref.mp ru
            obtain ⟨o1, e1, q1⟩ := r1.ob k a hm
            rw [ho] at e1; cases e1
            have lt_of : ∀ i b, m i = some b → i < h.length := fun i b e => r.lt e
            have hle : h.length ≤ h1.length := Nat.le_of_lt (Nat.lt_of_le_of_lt hf.2 (List.getElem?_eq_some_iff.mp ho).1)
            have hlen : (h1.take h.length).length = h.length := by rw [List.length_take]; omega
            have sub : ∀ i b, m i = some b → mset m h.length a i = some b := fun i b e => by rw [mset_ne (Nat.ne_of_lt (lt_of i b e))]; exact e
            have gx : Go m H (mset m h.length a) H' := ⟨sub, g.ext⟩
            refine cont (mset m h.length a) H' (.ref a) gx ?_ (RU.ref.mpr ⟨a, mset_self, rfl⟩)
            have inv : ∀ i b oi, mset m h.length a i = some b → (h1.take h.length ++ [o])[i]? = some oi → ∃ j, m' j = some b ∧ h1[j]? = some oi ∧ (i = h.length ∧ j = k ∨ i < h.length ∧ j = i) := fun i b oi e1 e2 => by
              by_cases hi : i = h.length
              · subst hi
                rw [mset_self] at e1; cases e1
                have : (h1.take h.length ++ [o])[h.length]? = some o := by
                  have := List.getElem?_concat_length (l := h1.take h.length) (a := o)
                  rw [hlen] at this; exact this
                rw [this] at e2; cases e2
                exact ⟨k, hm, ho, .inl ⟨rfl, rfl⟩⟩
              · rw [mset_ne hi] at e1
                have hl := lt_of i b e1
                rw [List.getElem?_append_left (by rw [hlen]; exact hl), List.getElem?_take_of_lt hl] at e2
                exact ⟨i, g.sub _ _ e1, e2, .inr ⟨hl, rfl⟩⟩
            refine ⟨fun i b e1 => ?_, fun i j b oi oj e1 e2 h1' h2' m1 m2 => ?_⟩
            · by_cases hi : i = h.length
              · subst hi
                rw [mset_self] at e1; cases e1
                refine ⟨o, ?_, RO.clean hf.1 q1⟩
                have := List.getElem?_concat_length (l := h1.take h.length) (a := o)
                rw [hlen] at this; exact this
              · rw [mset_ne hi] at e1
                have hl := lt_of i b e1
                obtain ⟨oi, e2, q2⟩ := rk.ob i b e1
                exact ⟨oi, by rw [List.getElem?_append_left (by rw [hlen]; exact hl)]; exact e2, q2.keep ⟨sub, Ext.refl⟩ fun _ => rfl⟩
            · obtain ⟨i', a1, a2, a3⟩ := inv i b oi e1 h1'
              obtain ⟨j', b1, b2, b3⟩ := inv j b oj e2 h2'
              have ij := r1.inj i' j' b oi oj a1 b1 a2 b2 m1 m2
              omega
          · cases e
            exact cont m' H' v g r1 ru
        · cases e
          exact cont m' H' v g r1 ru
      · cases e
        exact cont m' H' v g r1 ru
  · cases e
    exact cont m' H' v g r1 ru
end

abbrev Quiet (A : Around) : Prop := A.guards = some []
structure Prom (P : Program) (w : World) (K : PySem.W.Frag) (mg : Str → Option Value) (base : Heap) (k : Nat) (f : Addr) (fd : FuncData) (n : Nat) (ps : List Str) (sp : List V → AH → VK → Prop) : Prop where
  len : ∀ vs H Q, sp vs H Q → vs.length = n
  run : ∀ (A : Around) (outer : List Env) (s : Shared) (H : AH) (args : Args) (us : List Value) (vs : List V) (Q : VK), Room k A → Quiet A → Env0 P w K mg base A outer s H → BindsTo s fd args (ps.zip us) → Vals vs us → sp vs H Q →
    codeAny (model P w) A (.call (.ref f) args) (CR C8.CX0 outer P w H s Q fun _ _ _ => False) s

theorem prom_call {X : Cx} {k : Nat} {f : Addr} {fd : FuncData} {n : Nat} {ps : List Str} {sp : List V → AH → VK → Prop} (F : Prom X.prog X.w X.K X.mg X.base k f fd n ps sp) (hn : ps.length = n) (hr : Room k X.A) (hq : Quiet X.A) (hb : Binds X.K fd ps []) :
    CallR X (.ref f) sp := by
  intro pins s σ H vs us Q I rv h
  have hl : (us ++ []).length = ps.length := by rw [List.append_nil, ← rv.length, hn]; exact F.len _ _ _ h
  have bd := hb s us I.kIn hl
  rw [List.append_nil] at bd
  refine wpAny_call (codeAny_mono (F.run X.A X.stack s H ⟨us, []⟩ us vs Q hr hq I.env0 bd rv h) fun r s' hq => ?_)
  cases r with
  | error e => exact False.elim hq
  | ok fl =>
    cases fl with
    | ret u => exact I.after hq
    | next => exact False.elim hq
    | brk => exact False.elim hq
    | cont => exact False.elim hq
/-- a body that is read keeps the promise -/
theorem prom_of {P : Program} {w : World} {K : PySem.W.Frag} {mg : Str → Option Value} {base : Heap} {k n : Nat} {x : Str} {st : Stmt} {f : Addr} {fd : FuncData} {N ps : List Str} {sp : List V → AH → VK → Prop} (F : C8.Fun K x x st f fd) (S : FnScope N ps (C8.fnScope st)) (hn : ps.length = n)
    (len : ∀ vs H Q, sp vs H Q → vs.length = n)
    (body : ∀ (cdv : Value) (A : Around) (outer : List Env) (s : Shared) (H : AH), Room k (A.deeper (envOfC x (C8.fnScope st) s.heap.objs.size f cdv)) → Quiet A →
      ∃ t, PSs (cxOf C8.CX0 P w K mg base N x (C8.fnScope st) f cdv A outer s H fun _ _ _ => False).nox (C8.fnBody st) t ∧ ∀ vs Q, sp vs H Q → t { nx := fun _ H' => Q .non H', rt := Q } (L2.start N vs) H) : Prom P w K mg base (k + 1) f fd n ps sp := by
  refine ⟨len, fun A outer s H args us vs Q hr hqu e0 hb r hsp => ?_⟩
  obtain ⟨oc, od, dV, kV, doc, pm, an, cdv, ct, osl, rfl, lk, hcd⟩ := F.ex
  have hl : vs.length = ps.length := by rw [hn]; exact len _ _ _ hsp
  have keep := e0.mod.kin.keeps fun b o e => (e0.bs b o e).1
  have nolim := e0.mod.nolimit.keeps fun b o e => (e0.bs b o e).1
  have kinds : ∀ y ∈ ps.zip us, (C8.fnScope st).names.lookup y.1 = some .local ∨ ((C8.fnScope st).names.lookup y.1 = some .cell ∧ ((cellsFrom (s.heap.objs.size + 1) (C8.fnScope st).names []).lookup y.1).isSome = true) := by
    rintro ⟨nm, v⟩ hy
    exact (S.par nm (List.of_mem_zip hy).1).imp id fun q => ⟨q, PySem.W.cellsFrom_some _ _ _ (.inl q)⟩
  refine codeAny_call_function hr.depth (keep _ _ lk) rfl S.co S.gen rfl (PySem.W.codeRec_of keep hcd) (hb _ _ _ _ (wpAny_newFunctionEnv_cells S.kind kinds ?_))
  rintro env rfl s1 x1
  refine ⟨nolim.keeps x1.toInCall.keep, codeAny_func ?_⟩
  obtain ⟨t, ht, go⟩ := body cdv A outer s H (hr.deeper _) hqu
  have J := inv_start (CX := C8.CX0) (E := fun _ _ _ => False) S hr.hd e0 hl r x1
  refine wpAny_mono ((PSs.nox ht).run [] s1 (L2.start N vs) H _ J (go vs Q hsp)) (fun fl s' hs => ?_) fun e s' hs => hs
  have close : ∀ {τ : L2.St} {H' : AH} {v : V} {u : Value}, Inv (cxOf C8.CX0 P w K mg base N x (C8.fnScope st) f cdv A outer s H fun _ _ _ => False) [] τ H' s' → RelV v u → Q v H' → CE outer P w H s Q u s' := fun {τ H' v u} M rv q => ⟨v, H', M.os, M.bare, M.base, M.hok, rv, q⟩
  cases fl with
  | ret u => obtain ⟨v, τ, H', M, rv, q⟩ := hs; exact close M rv q
  | next => obtain ⟨τ, H', M, q⟩ := hs; exact close (v := V.non) (u := Value.none) M rfl q
  | brk => obtain ⟨_, _, _, z⟩ := hs; exact z.elim
  | cont => obtain ⟨_, _, _, z⟩ := hs; exact z.elim

/-- one def: its name, tree, slots' names, parameters -/
structure Ent where
  nm : Str
  st : Stmt
  N : List Str
  ps : List Str
/-- the check of one def -/
def entOk (G : Gs) (e : Ent) (d : Fd) : Bool :=
  C8.scC e.N e.ps (C8.fnScope e.st) && decide (e.ps.length = d.np) && decide (e.N.length = d.nl) && chkSs e.N G ⟨C8.fnScope e.st, fun _ => true⟩ d.body (C8.fnBody e.st)
/-- what the top has made of a def -/
structure Made (K : PySem.W.Frag) (mg : Str → Option Value) (e : Ent) : Prop where
  ex : ∃ (f : Addr) (fd : FuncData), C8.Fun K e.nm e.nm e.st f fd ∧ mg e.nm = some (.ref f) ∧ PySem.W.keepIn K (.ref f) = true ∧ Binds K fd e.ps []
structure Top (K : PySem.W.Frag) (mg : Str → Option Value) (G : Gs) (E : Nat → Option Ent) : Prop where
  made : ∀ i e, E i = some e → Made K mg e
  blt : ∀ x ∈ bltNames, mg x = none
  cst : ∀ x u, G.cs.lookup x = some u → ∃ v w, mg x = some w ∧ RelV v w ∧ ∀ H m, RU K H m u v
/-- the text is what the table says -/
structure Txt (G : Gs) (E : Nat → Option Ent) (T : Nat → Option Fd) : Prop where
  ent : ∀ i e d, E i = some e → T i = some d → entOk G e d = true
  nam : ∀ x i, G.fns.lookup x = some i → ∃ e, E i = some e ∧ e.nm = x
theorem lookup_mem {x : Str} {i : Nat} : ∀ {l : List (Str × Nat)}, l.lookup x = some i → (x, i) ∈ l
  | (y, j) :: r, h => by
    rw [List.lookup_cons] at h
    split at h
    · rename_i e
      cases h
      rw [eq_of_beq e]
      exact List.mem_cons_self
    · exact List.mem_cons_of_mem _ (lookup_mem h)
theorem lookup_memU {x : Str} {u : U} : ∀ {l : List (Str × U)}, l.lookup x = some u → (x, u) ∈ l
  | (y, j) :: r, h => by
    rw [List.lookup_cons] at h
    split at h
    · rename_i e
      cases h
      rw [eq_of_beq e]
      exact List.mem_cons_self
    · exact List.mem_cons_of_mem _ (lookup_memU h)
section
variable {P : Program} {w : World} {K : PySem.W.Frag} {mg : Str → Option Value} {base : Heap} {G : Gs} {E : Nat → Option Ent} {T : Nat → Option Fd}
theorem nam_of (h : ∀ p ∈ G.fns, ∃ e, E p.2 = some e ∧ e.nm = p.1) : ∀ x i, G.fns.lookup x = some i → ∃ e, E i = some e ∧ e.nm = x := fun x i e => h (x, i) (lookup_mem e)
theorem callF_len {k i : Nat} {us : List U} {h h' : Hm} {u : U} {d : Fd} (hd : T i = some d) (e : callF T k i us h = .ok u h') : us.length = d.np := by
  cases k with
  | zero => cases e
  | succ k =>
    rw [callF, hd] at e
    simp only at e
    split at e
    · assumption
    · cases e
theorem rP_len {k i : Nat} {d : Fd} (hd : T i = some d) (vs : List V) (H : AH) (Q : VK) (q : rP K (callF T k i) vs H Q) : vs.length = d.np := by
  obtain ⟨m, h, us, u, h', rl, rs, e, _⟩ := q
  rw [← rs.length]
  exact callF_len hd e
theorem proms (M : Top K mg G E) (X : Txt G E T) (k : Nat) : ∀ (P : Program) (w : World) (base : Heap) (i : Nat) (e : Ent) (d : Fd) (f : Addr) (fd : FuncData), E i = some e → T i = some d → C8.Fun K e.nm e.nm e.st f fd → Prom P w K mg base k f fd d.np e.ps (fun vs H Q => rP K (callF T k i) vs H Q) := by
  induction k with
  | zero => exact fun P w base i e d f fd hE hT F => ⟨rP_len hT, fun A outer s H args us vs Q _ _ _ _ _ q => by
      obtain ⟨m, h, us, u, h', rl, rs, e, _⟩ := q
      cases e⟩
  | succ k ih =>
    intro P w base i e d f fd hE hT F
    have ck := X.ent i e d hE hT
    unfold entOk at ck
    simp only [Bool.and_eq_true, decide_eq_true_eq] at ck
    obtain ⟨⟨⟨c1, c2⟩, c3⟩, c4⟩ := ck
    have S := C8.fnScope_by c1
    refine prom_of F S c2 (rP_len hT) fun cdv A outer s H hr hq => ?_
    have ok : Okx (callF T k) G (cxOf C8.CX0 P w K mg base e.N e.nm (C8.fnScope e.st) f cdv A outer s H fun _ _ _ => False).nox := by
      refine ⟨S.nd, rfl, S.kind, hq, ?_, rfl, M.blt, fun x j hx => ?_, M.cst⟩
      · have := hr.un
        show (A.deeper (envOfC e.nm (C8.fnScope e.st) s.heap.objs.size f cdv)).units + 64 < cLine
        omega
      · obtain ⟨e', hE', rfl⟩ := X.nam x j hx
        obtain ⟨fa, fd', F', hm, hk, hb⟩ := (M.made j e' hE').ex
        refine ⟨fa, hm, hk, fun Y y1 y2 y3 y4 y5 y6 => ?_⟩
        subst y1 y2 y4 y5
        cases hT' : T j with
        | none =>
          intro pins s σ H vs us Q I rv q
          obtain ⟨m, h, us, u, h', rl, rs, e, _⟩ := q
          cases k with
          | zero => cases e
          | succ k => rw [callF, hT'] at e; cases e
        | some d' =>
          have ck' := X.ent j e' d' hE' hT'
          unfold entOk at ck'
          simp only [Bool.and_eq_true, decide_eq_true_eq] at ck'
          have y3' : Y.K = K := y3
          have pr := ih Y.prog Y.w Y.base j e' d' fa fd' hE' hT' F'
          rw [← y3'] at pr hb
          have y6' : Y.A = A.deeper (envOfC e.nm (C8.fnScope e.st) s.heap.objs.size f cdv) := y6
          exact prom_call pr ck'.1.1.2 (by rw [y6']; exact hr) (by rw [y6']; exact hq) hb
    refine ⟨_, snd_Ss _ _ _ c4 _ ok rfl ⟨rfl, fun x h => rfl⟩, fun vs Q q => ?_⟩
    obtain ⟨m, h, us, u, h', rl, rs, ev, cont⟩ := q
    rw [callF, hT] at ev
    simp only at ev
    split at ev
    · rename_i hl
      unfold ended at ev
      obtain ⟨fl, h1, e1, e2⟩ := R.bind_inv ev
      have hls := rs.length
      have hst : RSt K H m (us.map some ++ List.replicate (d.nl - d.np) none) (L2.start e.N vs) := by
        refine ⟨?_, fun j z hz => ?_⟩
        · unfold L2.start
          simp only [List.length_append, List.length_map, List.length_replicate]
          omega
        · have hj : j < us.length := by
            by_cases hj : j < us.length
            · exact hj
            · rw [List.getElem?_append_right (by simpa using hj)] at hz
              rw [List.getElem?_replicate] at hz
              split at hz <;> cases hz
          rw [List.getElem?_append_left (by simpa using hj), List.getElem?_map] at hz
          cases hu : us[j]? with
          | none => rw [hu] at hz; cases hz
          | some y =>
            rw [hu] at hz; cases hz
            obtain ⟨v, h1, h2⟩ := rs.get hu
            refine ⟨v, ?_, h2⟩
            unfold L2.start
            rw [List.getElem?_append_left (by rw [List.length_map, ← hls]; exact hj), List.getElem?_map, h1]
            rfl
      refine ⟨m, _, h, fl, h1, hst, rl, e1, ?_⟩
      cases fl with
      | next r => exact fun m' H' σ' g r1 _ => swept_ok rl e2 cont g r1 (RU.non.mpr rfl)
      | ret z => exact fun m' H' v g r1 rz => swept_ok rl e2 cont g r1 rz
      | brk r => cases e2
      | cont r => cases e2
      | exn a b => cases e2
    · cases ev
end

theorem made_of {K : PySem.W.Frag} {h : Heap} {mg : Str → Option Value} {e : Ent} {f : Addr} {od an : Option Addr} {sl : Array (Option Value)} {oc kV dc pm cd ct : Value} (G : h.Ns mainGlobals mg) (X : K.In h)
    (a : PySem.W.nsIn K mainGlobals e.nm = some (some (.ref f))) (l : K.lookup f = some ⟨oc, od, .func (PySem.W.fnOf e.nm e.nm (C8.fnArgs e.st) (C8.fnBody e.st) (C8.fnScope e.st) .none kV dc pm an cd ct), sl⟩) (c : PySem.W.codeIn K cd e.nm = true) (kp : PySem.W.keepIn K (.ref f) = true)
    (b : ∀ (kV doc pm : Value) (an : Option Addr) (cdv ct : Value) (us : List Value), us.length = e.ps.length → bindArgs (PySem.W.fnOf e.nm e.nm (C8.fnArgs e.st) (C8.fnBody e.st) (C8.fnScope e.st) .none kV doc pm an cdv ct) ⟨us, []⟩ = pure (e.ps.zip us)) : Made K mg e :=
  have F : C8.Fun K e.nm e.nm e.st f (PySem.W.fnOf e.nm e.nm (C8.fnArgs e.st) (C8.fnBody e.st) (C8.fnScope e.st) .none kV dc pm an cd ct) := ⟨oc, od, .none, kV, dc, pm, an, cd, ct, sl, rfl, l, c⟩
  ⟨f, _, F, PySem.W.mg_of X G a, kp, F.binds rfl b⟩
end Mp

set_option Elab.async false
set_option linter.all false
set_option maxRecDepth 100000
set_option maxHeartbeats 1000000
namespace Mp
open PySem PySem.Spec PyProof.Rows L2 TL

/-- the heap that is the module's own: all but the script, which is a list -/
structure Asked (P : Program) (w : World) (K : PySem.W.Frag) (mg mb : Str → Option Value) (s : Shared) (a : Addr) (vs : List Value) (ns : List Int) : Prop where
  kin : K.In s.heap
  glob : s.heap.Ns mainGlobals mg
  bltn : s.heap.Ns builtinsNs mb
  boot : ∀ x : Str, x ≠ "__name__" → mb x = bootBuiltins x
  lim : s.heap.NoLimit
  gens : s.gens = #[]
  obj : s.heap.get? a = some { cls := .type "list", data := .seq vs.toArray }
  nums : IntsAre vs ns
  size : ns.length ≤ sizeLine
abbrev Answer (s : Shared) (r : Result) (s' : Shared) : Prop := r = .ok (.ret (.bool true)) ∧ OldK s.heap s'.heap ∧ s'.os = s.os ∧ AllBare s'.gens

section
variable {P : Program} {w : World} {K : PySem.W.Frag} {mg mb : Str → Option Value} {s : Shared} {a : Addr} {vs : List Value} {ns : List Int} {k : Nat} {fa : Addr} {fd : FuncData} {x : Str} {sp : List V → AH → VK → Prop}
/-- from any view of the heap that tracks at most the script -/
theorem asked_from (q : Asked P w K mg mb s a vs ns) (hr : Room k callerA) (F : ∀ base : Heap, K.In base → base.Ns mainGlobals mg → Prom P w K mg base k fa fd 1 [x] sp) (hbind : Binds K fd [x] [])
    (H : AH) (only : Only H) (seen : SqL K H a (ns.map V.int)) (hok : HOk P w H s.heap) (just : ∀ b, H b ≠ none → b = a ∧ K.lookup a = none) (hsp : sp [.ref a] H fun v _ => v = .bl true) :
    codeAny (model P w) callerA (.call (.ref fa) ⟨[.ref a], []⟩) (Answer s) s := by
  have free : ∀ {b : Addr}, b ≠ a → H b = none := fun {b} hb => Classical.byContradiction fun z => hb (just b z).1
  have data_free : ∀ {b : Addr} {o : Obj} {es : Array DictEntry} {ep : Nat}, s.heap.get? b = some o → o.data = .dict es ep → H b = none := fun {b o es ep} e d => free fun z => by
    subst z
    rw [q.obj] at e
    cases e
    cases (show Data.seq vs.toArray _ = Data.dict es ep from d)
  have ns_of : ∀ {b : Addr} {m : Str → Option Value}, s.heap.Ns b m → (hidT s.heap H).Ns b m := by
    rintro b m ⟨o, es, ep, e, d, r⟩
    exact ⟨o, es, ep, hidT_get e (data_free e d), d, r⟩
  have kin' : K.In (hidT s.heap H) := fun b o e => hidT_get (q.kin b o e) (Classical.byContradiction fun z => by
    obtain ⟨rfl, n⟩ := just b z
    rw [n] at e
    cases e)
  have module : Mod K mg (hidT s.heap H) := ⟨kin', ns_of q.glob, ⟨mb, ns_of q.bltn, q.boot⟩, by
    obtain ⟨mc, l1, l2⟩ := q.lim
    exact ⟨mc, ns_of l1, l2⟩⟩
  have env : Env0 P w K mg (hidT s.heap H) callerA [] s H := ⟨rfl, module, fun b o e => of_hidT e, Nat.le_of_eq (hidT_size _ _), trivial, fun b z => (List.not_mem_nil z).elim, hok, .of_eq q.gens⟩
  refine codeAny_mono ((F _ kin' (ns_of q.glob)).run callerA [] s H ⟨[.ref a], []⟩ [.ref a] [.ref a] _ hr rfl env (hbind s [.ref a] q.kin rfl) (.cons rfl .nil) hsp) fun r s' res => ?_
  cases r with
  | error e => exact False.elim res
  | ok fl =>
    cases fl with
    | next => exact res.elim
    | brk => exact res.elim
    | cont => exact res.elim
    | ret u =>
      obtain ⟨v, H', os, bare, un, hok', rv, qv⟩ := res
      cases (show v = .bl true from qv)
      cases (show u = Value.bool true from rv)
      refine ⟨rfl, OldK.of_keep fun b o e => ?_, os, bare⟩
      rcases only b with z | ⟨ob, xs, z⟩
      · exact un.keep b o e z (by intro y; exact (List.not_mem_nil y).elim) (by simp)
      · have e1 := (hok b _ z).1
        have e2 := (hok' b _ (un.frzs b ob _ z)).1
        rw [e] at e1
        cases e1
        exact e2
theorem asked (q : Asked P w K mg mb s a vs ns) (hr : Room k callerA) (F : ∀ base : Heap, K.In base → base.Ns mainGlobals mg → Prom P w K mg base k fa fd 1 [x] sp) (hbind : Binds K fd [x] [])
    (hsp : ∀ H : AH, Only H → SqL K H a (ns.map V.int) → sp [.ref a] H fun v _ => v = .bl true) : codeAny (model P w) callerA (.call (.ref fa) ⟨[.ref a], []⟩) (Answer s) s := by
  have rv := vals_ints q.nums
  cases hk : K.lookup a with
  | some o =>
    have e := q.kin a o hk
    rw [q.obj] at e
    cases e
    have sq : SqL K (fun _ => none) a (ns.map V.int) := .inr ⟨_, vs.toArray, _, hk, rfl, rfl, rfl, by rw [List.size_toArray, q.nums.length]; exact q.size, by simpa using rv⟩
    have on : Only (fun _ => none) := fun _ => .inl rfl
    exact asked_from q hr F hbind _ on sq (fun b u z => by cases (show (none : Option HO) = some u from z)) (fun b z => (z rfl).elim) (hsp _ on sq)
  | none =>
    have on : Only (upd (fun _ => none) a (.frz { cls := .type "list", data := .seq vs.toArray } (.lst (ns.map V.int)))) := fun b => by
      by_cases hb : b = a
      · subst hb; exact .inr ⟨_, _, upd_same ..⟩
      · exact .inl (upd_ne hb)
    have sq : SqL K (upd (fun _ => none) a (.frz { cls := .type "list", data := .seq vs.toArray } (.lst (ns.map V.int)))) a (ns.map V.int) := .inl (.inr ⟨_, upd_same ..⟩)
    refine asked_from q hr F hbind _ on sq (fun b u z => ?_) (fun b z => ⟨?_, hk⟩) (hsp _ on sq)
    · by_cases hb : b = a
      · subst hb
        rw [upd_same] at z
        cases z
        exact ⟨q.obj, by rw [List.length_map]; exact q.size, vs, _, rv, q.obj⟩
      · rw [upd_ne hb] at z; cases z
    · exact Classical.byContradiction fun hb => z (upd_ne hb)
end

/-- the small language's answer is the model's -/
theorem answer_sp {K : PySem.W.Frag} {T : Nat → Option Fd} {k i : Nat} {ns : List Int} {a : Addr} {H : AH} {h' : Hm} (only : Only H) (sq : SqL K H a (ns.map V.int))
    (e : callF T k i [.ref 0] [.frz (ns.map .int)] = .ok (.bl true) h') : rP K (callF T k i) [.ref a] H fun v _ => v = .bl true := by
  have fz : FrzL K H a (ns.map V.int) := by
    rcases sq with (z | ⟨o, z⟩) | z
    · rcases only a with y | ⟨o, xs, y⟩
      · rw [y] at z; cases z
      · rw [y] at z; cases z
    · exact .inl ⟨o, z⟩
    · exact .inr z
  have ru : ∀ (ns : List Int), RUs K H (fun j => if j = 0 then some a else none) (ns.map U.int) (ns.map V.int) := fun ns => by
    induction ns with
    | nil => exact .nil
    | cons n r ih => exact .cons (RU.int.mpr rfl) ih
  refine ⟨fun j => if j = 0 then some a else none, [.frz (ns.map .int)], [.ref 0], .bl true, h', ⟨fun j b hb => ?_, fun i j b o p h1 h2 h3 h4 m1 m2 => ?_⟩, .one (RU.ref.mpr ⟨a, if_pos rfl, rfl⟩), e, fun m' H' v _ _ rv => RU.bl.mp rv⟩
  · have hj : j = 0 := Classical.byContradiction fun z => by rw [if_neg z] at hb; cases hb
    subst hj
    cases (if_pos rfl).symm.trans hb
    exact ⟨_, rfl, _, fz, ru ns⟩
  · have hi : i = 0 := Classical.byContradiction fun z => by rw [if_neg z] at h1; cases h1
    have hj : j = 0 := Classical.byContradiction fun z => by rw [if_neg z] at h2; cases h2
    omega

/-- the goal that the law's head leaves -/
theorem walk_end {l : PySem.W.OpenLaw} {k i : Nat} {q : Program} {loose : List Str} {XP : (Str → Option Value) → Heap → Prop} {YP : World → Heap → Prop} {d : DefRec} {K : Params → PySem.W.Frag} {G : Gs} {E : Nat → Option Ent} {T : Nat → Option Fd} {e0 : Ent} {d0 : Fd} {x : Str}
    (hn : l.most = some 63) (hdf : d.params.defaults = []) (hr : Room k callerA) (hY : ∀ (w : World) (h : Heap), YP w h → (K w.params).In h) (X : Txt G E T) (he : E i = some e0) (hd : T i = some d0) (hnm : e0.nm = d.name) (hps : e0.ps = [x]) (h1 : d0.np = 1)
    (F : ∀ (w : World) (mg : Str → Option Value) (h : Heap), (K w.params).In h → h.Ns mainGlobals mg → Top (K w.params) mg G E)
    (ans : ∀ ns : List Int, ns.length ≤ 63 → ∃ h', callF T k i [.ref 0] [.frz (ns.map .int)] = .ok (.bl true) h') :
    PySem.W.WalkO q loose XP YP l.row.toRowW d [] (fun f vs => PySem.call f vs) := by
  refine Att.attach_call hn hdf fun w s₀ s₁ mg mb fa o pm cd doc a vs ns G' Y ho hd' hcd hmg hobj hints hlen hg => ?_
  have KX := hY w _ Y
  have M := F w mg _ KX G'.T.g
  obtain ⟨f, fd, FF, hm, _, hb⟩ := (M.made i e0 he).ex
  rw [hnm, hmg] at hm
  cases hm
  obtain ⟨h', ev⟩ := ans ns hlen
  rw [hps] at hb
  refine asked (P := l.prog) (w := w) (K := K w.params) (mg := mg) (mb := mb) (fd := fd) (x := x) (sp := fun vs H Q => rP (K w.params) (callF T k i) vs H Q) ⟨KX, G'.T.g, G'.T.b, G'.T.builtins, G'.T.nolimit, hg, hobj, hints, Nat.le_trans hlen (by decide)⟩ hr (fun base kb nb => ?_) hb fun H on sq => answer_sp on sq ev
  · have M' := M
    have p := proms M X k l.prog w base i e0 d0 fa fd he hd FF
    rw [h1, hps] at p
    exact p
end Mp

set_option linter.all false
set_option maxRecDepth 100000
namespace Mp
/-- 0: is_whole(thing), slots thing (k01) -/
def f_is_whole : Fd := ⟨1, 1, (.cons .never .nil)⟩
/-- 1: is_letter(thing), slots thing (k01) -/
def f_is_letter : Fd := ⟨1, 1, (.cons (.ret (.andv (.prim (.isi .str) (.cons (.var 0) .nil)) (.andv (.prim .eq (.cons (.prim .len (.cons (.var 0) .nil)) (.cons (.cst (.int 1)) .nil))) (.prim .inn (.cons (.var 0) (.cons (.cst (.str [97, 98, 99, 100, 101, 102, 103, 104, 105, 106, 107, 108, 109, 110, 111, 112, 113, 114, 115, 116, 117, 118, 119, 120, 121, 122])) .nil)))))) .nil)⟩
/-- 2: odd_place(text), slots text place sign (k01) -/
def f_odd_place : Fd := ⟨1, 3, (.cons (.for_ (.call .enum (.cons (.var 0) .nil)) (.two 1 2) (.cons (.ifs (.val (.prim .nin (.cons (.var 2) (.cons (.cst (.str [97, 98, 99, 100, 101, 102, 103, 104, 105, 106, 107, 108, 109, 110, 111, 112, 113, 114, 115, 116, 117, 118, 119, 120, 121, 122])) .nil)))) (.cons (.ret (.var 1)) .nil) .nil) .nil)) (.cons (.ret (.cst .non)) .nil))⟩
/-- 3: need_presses(thing), slots thing place (k01) -/
def f_need_presses : Fd := ⟨1, 2, (.cons (.ifs (.or (.not (.val (.prim (.isi .str) (.cons (.var 0) .nil)))) (.val (.prim .gt (.cons (.prim .len (.cons (.var 0) .nil)) (.cons (.cst (.int 200)) .nil))))) (.cons .never .nil) .nil) (.cons (.asg (.nm 1) (.call 2 (.cons (.var 0) .nil))) (.cons (.ifs (.val (.prim .isNN (.cons (.var 1) .nil))) (.cons .never .nil) .nil) .nil)))⟩
/-- 4: lasts_of(presses), slots presses last found at letter (k01) -/
def f_lasts_of : Fd := ⟨1, 5, (.cons (.asg (.two 1 2) (.prim .tup (.cons (.prim .dic .nil) (.cons (.prim .lst .nil) .nil)))) (.cons (.for_ (.call .enum (.cons (.var 0) .nil)) (.two 3 4) (.cons (.expr (.meth .list .append (.var 2) (.cons (.meth .dict .get1 (.var 1) (.cons (.var 4) .nil)) .nil))) (.cons (.asgIx (.var 1) (.var 4) (.var 3)) .nil))) (.cons (.ret (.var 2)) .nil)))⟩
/-- 5: lengths_of(presses), slots presses found shared (k01) -/
def f_lengths_of : Fd := ⟨1, 3, (.cons (.asg (.nm 1) (.prim .lst (.cons (.cst (.int 0)) .nil))) (.cons (.for_ (.ofE (.call 4 (.cons (.var 0) .nil))) (.nm 2) (.cons (.expr (.meth .list .append (.var 1) (.cons (.ite (.val (.prim .isN (.cons (.var 2) .nil))) (.prim .add (.cons (.prim .mul (.cons (.cst (.int 2)) (.cons (.prim .ix (.cons (.var 1) (.cons (.prim .neg (.cons (.cst (.int 1)) .nil)) .nil))) .nil))) (.cons (.cst (.int 1)) .nil))) (.prim .sub (.cons (.prim .mul (.cons (.cst (.int 2)) (.cons (.prim .ix (.cons (.var 1) (.cons (.prim .neg (.cons (.cst (.int 1)) .nil)) .nil))) .nil))) (.cons (.prim .ix (.cons (.var 1) (.cons (.var 2) .nil))) .nil)))) .nil))) .nil)) (.cons (.ret (.var 1)) .nil)))⟩
/-- 6: length(presses), slots presses (k01) -/
def f_length : Fd := ⟨1, 1, (.cons (.expr (.call 3 (.cons (.var 0) .nil))) (.cons (.ret (.prim .ix (.cons (.call 5 (.cons (.var 0) .nil)) (.cons (.prim .neg (.cons (.cst (.int 1)) .nil)) .nil)))) .nil))⟩
/-- 7: growths(presses), slots presses lengths ahead after (k01) -/
def f_growths : Fd := ⟨1, 4, (.cons (.expr (.call 3 (.cons (.var 0) .nil))) (.cons (.asg (.nm 1) (.call 5 (.cons (.var 0) .nil))) (.cons (.ret (.prim .toTuple (.cons (.comp (.call .zip (.cons (.var 1) (.cons (.prim (.cut true false) (.cons (.var 1) (.cons (.cst (.int 1)) .nil))) .nil))) (.two 2 3) [2, 3] .tt (.prim .sub (.cons (.var 3) (.cons (.var 2) .nil)))) .nil))) .nil)))⟩
/-- 8: letter_there(presses, lengths, place), slots presses lengths place at (k01) -/
def f_letter_there : Fd := ⟨3, 4, (.cons (.for_ (.call .range3 (.cons (.prim .sub (.cons (.prim .len (.cons (.var 0) .nil)) (.cons (.cst (.int 1)) .nil))) (.cons (.prim .neg (.cons (.cst (.int 1)) .nil)) (.cons (.prim .neg (.cons (.cst (.int 1)) .nil)) .nil)))) (.nm 3) (.cons (.ifs (.val (.prim .ge (.cons (.var 2) (.cons (.prim .ix (.cons (.var 1) (.cons (.var 3) .nil))) .nil)))) (.cons (.ifs (.and (.val (.prim .eq (.cons (.var 2) (.cons (.prim .ix (.cons (.var 1) (.cons (.var 3) .nil))) .nil)))) (.val (.prim .eq (.cons (.prim .ix (.cons (.var 1) (.cons (.prim .add (.cons (.var 3) (.cons (.cst (.int 1)) .nil))) .nil))) (.cons (.prim .add (.cons (.prim .mul (.cons (.cst (.int 2)) (.cons (.prim .ix (.cons (.var 1) (.cons (.var 3) .nil))) .nil))) (.cons (.cst (.int 1)) .nil))) .nil))))) (.cons (.ret (.prim .ix (.cons (.var 0) (.cons (.var 3) .nil)))) .nil) .nil) (.cons (.aug 2 .sub (.prim .sub (.cons (.prim .ix (.cons (.var 1) (.cons (.prim .add (.cons (.var 3) (.cons (.cst (.int 1)) .nil))) .nil))) (.cons (.prim .ix (.cons (.var 1) (.cons (.var 3) .nil))) .nil)))) .nil)) .nil) .nil)) (.cons (.ret (.cst (.str []))) .nil))⟩
/-- 9: letter_at(presses, place), slots presses place lengths (k01) -/
def f_letter_at : Fd := ⟨2, 3, (.cons (.expr (.call 3 (.cons (.var 0) .nil))) (.cons (.asg (.nm 2) (.call 5 (.cons (.var 0) .nil))) (.cons .never (.cons (.ret (.call 8 (.cons (.var 0) (.cons (.var 2) (.cons (.var 1) .nil))))) .nil))))⟩
/-- 10: window(presses, start, many), slots presses start many lengths place (k01) -/
def f_window : Fd := ⟨3, 5, (.cons (.expr (.call 3 (.cons (.var 0) .nil))) (.cons (.asg (.nm 3) (.call 5 (.cons (.var 0) .nil))) (.cons .never (.cons .never (.cons (.ret (.meth .str .join (.cst (.str [])) (.cons (.comp (.call .range2 (.cons (.var 1) (.cons (.prim .add (.cons (.var 1) (.cons (.var 2) .nil))) .nil))) (.nm 4) [4] .tt (.call 8 (.cons (.var 0) (.cons (.var 3) (.cons (.var 4) .nil))))) .nil))) .nil)))))⟩
/-- 11: mirror_text(presses), slots presses lengths found letter shared (k01) -/
def f_mirror_text : Fd := ⟨1, 5, (.cons (.expr (.call 3 (.cons (.var 0) .nil))) (.cons (.asg (.nm 1) (.call 5 (.cons (.var 0) .nil))) (.cons (.ifs (.val (.prim .gt (.cons (.prim .ix (.cons (.var 1) (.cons (.prim .neg (.cons (.cst (.int 1)) .nil)) .nil))) (.cons (.cst (.int 20000)) .nil)))) (.cons .never .nil) .nil) (.cons (.asg (.nm 2) (.cst (.str []))) (.cons (.for_ (.call .zip (.cons (.var 0) (.cons (.call 4 (.cons (.var 0) .nil)) .nil))) (.two 3 4) (.cons (.asg (.nm 2) (.ite (.val (.prim .isN (.cons (.var 4) .nil))) (.prim .add (.cons (.prim .add (.cons (.var 2) (.cons (.var 3) .nil))) (.cons (.var 2) .nil))) (.prim .add (.cons (.var 2) (.cons (.prim (.cut true false) (.cons (.var 2) (.cons (.prim .ix (.cons (.var 1) (.cons (.var 4) .nil))) .nil))) .nil))))) .nil)) (.cons (.ret (.var 2)) .nil))))))⟩
/-- 12: need_letter(thing), slots thing (k01) -/
def f_need_letter : Fd := ⟨1, 1, (.cons (.ifs (.not (.val (.call 1 (.cons (.var 0) .nil)))) (.cons .never .nil) .nil) .nil)⟩
/-- 13: count_there(presses, letter), slots presses letter first (k01) -/
def f_count_there : Fd := ⟨2, 3, (.cons (.asg (.nm 2) (.meth .str .find (.var 0) (.cons (.var 1) .nil))) (.cons (.ret (.ite (.val (.prim .ge (.cons (.var 2) (.cons (.cst (.int 0)) .nil)))) (.prim .add (.cons (.prim .ix (.cons (.call 5 (.cons (.prim (.cut true false) (.cons (.var 0) (.cons (.prim .add (.cons (.var 2) (.cons (.cst (.int 1)) .nil))) .nil))) .nil)) (.cons (.prim .neg (.cons (.cst (.int 1)) .nil)) .nil))) (.cons (.cst (.int 1)) .nil))) (.cst (.int 0)))) .nil))⟩
/-- 14: how_many(presses, letter), slots presses letter (k01) -/
def f_how_many : Fd := ⟨2, 2, (.cons (.expr (.call 3 (.cons (.var 0) .nil))) (.cons (.expr (.call 12 (.cons (.var 1) .nil))) (.cons (.ret (.call 13 (.cons (.var 0) (.cons (.var 1) .nil)))) .nil)))⟩
/-- 15: counts(presses), slots presses letter (k01) -/
def f_counts : Fd := ⟨1, 2, (.cons (.expr (.call 3 (.cons (.var 0) .nil))) (.cons .never .nil))⟩
/-- 16: counts_by_beginnings(presses, letter), slots presses letter found press shared (k01) -/
def f_counts_by_beginnings : Fd := ⟨2, 5, (.cons (.asg (.nm 2) (.prim .lst (.cons (.cst (.int 0)) .nil))) (.cons (.for_ (.call .zip (.cons (.var 0) (.cons (.call 4 (.cons (.var 0) .nil)) .nil))) (.two 3 4) (.cons (.expr (.meth .list .append (.var 2) (.cons (.ite (.val (.prim .isN (.cons (.var 4) .nil))) (.prim .add (.cons (.prim .mul (.cons (.cst (.int 2)) (.cons (.prim .ix (.cons (.var 2) (.cons (.prim .neg (.cons (.cst (.int 1)) .nil)) .nil))) .nil))) (.cons (.prim .toInt (.cons (.prim .eq (.cons (.var 3) (.cons (.var 1) .nil))) .nil)) .nil))) (.prim .sub (.cons (.prim .mul (.cons (.cst (.int 2)) (.cons (.prim .ix (.cons (.var 2) (.cons (.prim .neg (.cons (.cst (.int 1)) .nil)) .nil))) .nil))) (.cons (.prim .ix (.cons (.var 2) (.cons (.var 4) .nil))) .nil)))) .nil))) .nil)) (.cons (.ret (.var 2)) .nil)))⟩
/-- 17: ahead_there(presses, letter, place), slots presses letter place found at lengths many lasts (k01) -/
def f_ahead_there : Fd := ⟨3, 8, (.cons (.asg (.three 5 6 7) (.prim .tup (.cons (.call 5 (.cons (.var 0) .nil)) (.cons (.call 16 (.cons (.var 0) (.cons (.var 1) .nil))) (.cons (.call 4 (.cons (.var 0) .nil)) .nil))))) (.cons (.asg (.nm 3) (.cst (.int 0))) (.cons (.for_ (.call .range3 (.cons (.prim .sub (.cons (.prim .len (.cons (.var 0) .nil)) (.cons (.cst (.int 1)) .nil))) (.cons (.prim .neg (.cons (.cst (.int 1)) .nil)) (.cons (.prim .neg (.cons (.cst (.int 1)) .nil)) .nil)))) (.nm 4) (.cons (.ifs (.val (.prim .gt (.cons (.var 2) (.cons (.prim .ix (.cons (.var 5) (.cons (.var 4) .nil))) .nil)))) (.cons (.aug 3 .add (.prim .add (.cons (.prim .ix (.cons (.var 6) (.cons (.var 4) .nil))) (.cons (.ite (.val (.prim .isN (.cons (.prim .ix (.cons (.var 7) (.cons (.var 4) .nil))) .nil))) (.prim .toInt (.cons (.prim .eq (.cons (.prim .ix (.cons (.var 0) (.cons (.var 4) .nil))) (.cons (.var 1) .nil))) .nil)) (.prim .sub (.cons (.cst (.int 0)) (.cons (.prim .ix (.cons (.var 6) (.cons (.prim .ix (.cons (.var 7) (.cons (.var 4) .nil))) .nil))) .nil)))) .nil)))) (.cons (.aug 2 .sub (.prim .sub (.cons (.prim .ix (.cons (.var 5) (.cons (.prim .add (.cons (.var 4) (.cons (.cst (.int 1)) .nil))) .nil))) (.cons (.prim .ix (.cons (.var 5) (.cons (.var 4) .nil))) .nil)))) .nil)) .nil) .nil)) (.cons (.ret (.var 3)) .nil))))⟩
/-- 18: how_many_ahead(presses, letter, place), slots presses letter place (k01) -/
def f_how_many_ahead : Fd := ⟨3, 3, (.cons (.expr (.call 3 (.cons (.var 0) .nil))) (.cons (.expr (.call 12 (.cons (.var 1) .nil))) (.cons .never (.cons (.ret (.call 17 (.cons (.var 0) (.cons (.var 1) (.cons (.var 2) .nil))))) .nil))))⟩
/-- 19: need_weights(thing), slots thing one letter (k01) -/
def f_need_weights : Fd := ⟨1, 3, (.cons (.ifs (.or (.not (.val (.prim (.isi .dict) (.cons (.var 0) .nil)))) (.not (.val (.prim .all1 (.cons (.comp (.ofE (.var 0)) (.nm 2) [2] .tt (.call 1 (.cons (.var 2) .nil))) .nil))))) (.cons .never .nil) .nil) (.cons .never .nil))⟩
/-- 20: weight(presses, weights), slots presses weights letter one (k01) -/
def f_weight : Fd := ⟨2, 4, (.cons (.expr (.call 3 (.cons (.var 0) .nil))) (.cons (.expr (.call 19 (.cons (.var 1) .nil))) (.cons .never .nil)))⟩
/-- 21: need_text(thing), slots thing place (k02) -/
def f_need_text : Fd := ⟨1, 2, (.cons (.ifs (.or (.not (.val (.prim (.isi .str) (.cons (.var 0) .nil)))) (.val (.prim .gt (.cons (.prim .len (.cons (.var 0) .nil)) (.cons (.cst (.int 20000)) .nil))))) (.cons .never .nil) .nil) (.cons (.asg (.nm 1) (.call 2 (.cons (.var 0) .nil))) (.cons (.ifs (.val (.prim .isNN (.cons (.var 1) .nil))) (.cons .never .nil) .nil) .nil)))⟩
/-- 22: turned_text(text), slots text (k02) -/
def f_turned_text : Fd := ⟨1, 1, (.cons (.expr (.call 21 (.cons (.var 0) .nil))) (.cons (.ret (.prim .rev (.cons (.var 0) .nil))) .nil))⟩
/-- 23: is_text(thing), slots thing (k03) -/
def f_is_text : Fd := ⟨1, 1, (.cons (.ret (.andv (.prim (.isi .str) (.cons (.var 0) .nil)) (.andv (.prim .le (.cons (.prim .len (.cons (.var 0) .nil)) (.cons (.cst (.int 20000)) .nil))) (.prim .isN (.cons (.call 2 (.cons (.var 0) .nil)) .nil))))) .nil)⟩
/-- 24: spread(text, letter), slots text letter long sign (k09) -/
def f_spread : Fd := ⟨2, 4, (.cons (.expr (.call 21 (.cons (.var 0) .nil))) (.cons (.expr (.call 12 (.cons (.var 1) .nil))) (.cons (.asg (.nm 2) (.prim .add (.cons (.prim .sub (.cons (.prim .mul (.cons (.cst (.int 2)) (.cons (.prim .len (.cons (.var 0) .nil)) .nil))) (.cons (.meth .str .count (.var 0) (.cons (.var 1) .nil)) .nil))) (.cons (.cst (.int 1)) .nil)))) (.cons (.ifs (.val (.prim .gt (.cons (.var 2) (.cons (.cst (.int 20000)) .nil)))) (.cons .never .nil) .nil) (.cons (.ret (.prim .add (.cons (.meth .str .join (.cst (.str [])) (.cons (.comp (.ofE (.var 0)) (.nm 3) [3] .tt (.ite (.val (.prim .eq (.cons (.var 3) (.cons (.var 1) .nil)))) (.var 3) (.prim .add (.cons (.var 1) (.cons (.var 3) .nil))))) .nil)) (.cons (.var 1) .nil)))) .nil)))))⟩
/-- 25: unspread(text, letter), slots text letter ahead place sign behind (k09) -/
def f_unspread : Fd := ⟨2, 6, (.cons (.expr (.call 21 (.cons (.var 0) .nil))) (.cons (.expr (.call 12 (.cons (.var 1) .nil))) (.cons (.asg (.nm 2) (.cst (.str []))) (.cons (.for_ (.call .enum (.cons (.var 0) .nil)) (.two 3 4) (.cons (.ifs (.val (.prim .nin (.cons (.var 1) (.cons (.prim .tup (.cons (.var 4) (.cons (.var 2) .nil))) .nil)))) (.cons .never .nil) .nil) (.cons (.asg (.nm 2) (.var 4)) .nil))) (.cons (.ifs (.val (.prim .ne (.cons (.var 2) (.cons (.var 1) .nil)))) (.cons .never .nil) .nil) (.cons .never .nil))))))⟩
/-- 26: need_within(thing, most), slots thing most (k11) -/
def f_need_within : Fd := ⟨2, 2, (.cons .never .nil)⟩
/-- 27: added_by(presses, letter), slots presses letter grown (k11) -/
def f_added_by : Fd := ⟨2, 3, (.cons (.asg (.nm 2) (.call 7 (.cons (.var 0) .nil))) (.cons (.ret (.ite (.val (.prim .inn (.cons (.var 1) (.cons (.var 0) .nil)))) (.prim .sum1 (.cons (.prim (.cut true false) (.cons (.var 2) (.cons (.meth .str .rfind (.var 0) (.cons (.var 1) .nil)) .nil))) .nil)) (.prim .add (.cons (.prim .sum1 (.cons (.var 2) .nil)) (.cons (.cst (.int 1)) .nil))))) .nil))⟩
/-- 28: block_length(presses, letter), slots presses letter (k11) -/
def f_block_length : Fd := ⟨2, 2, (.cons (.expr (.call 3 (.cons (.var 0) .nil))) (.cons (.expr (.call 12 (.cons (.var 1) .nil))) (.cons (.ret (.call 27 (.cons (.var 0) (.cons (.var 1) .nil)))) .nil)))⟩
/-- 29: first_letters(presses, many), slots presses many found lengths at letter shared (k11) -/
def f_first_letters : Fd := ⟨2, 7, (.cons (.asg (.two 2 3) (.prim .tup (.cons (.cst (.str [])) (.cons (.prim .lst (.cons (.cst (.int 0)) .nil)) .nil)))) (.cons (.for_ (.call .enum (.cons (.var 0) .nil)) (.two 4 5) (.cons (.ifs (.val (.prim .lt (.cons (.prim .len (.cons (.var 2) .nil)) (.cons (.var 1) .nil)))) (.cons (.asg (.nm 6) (.meth .str .rfind4 (.var 0) (.cons (.var 5) (.cons (.cst (.int 0)) (.cons (.var 4) .nil))))) (.cons (.asg (.nm 2) (.ite (.val (.prim .lt (.cons (.var 6) (.cons (.cst (.int 0)) .nil)))) (.prim .add (.cons (.prim .add (.cons (.var 2) (.cons (.var 5) .nil))) (.cons (.var 2) .nil))) (.prim .add (.cons (.var 2) (.cons (.prim (.cut true false) (.cons (.var 2) (.cons (.prim .ix (.cons (.var 3) (.cons (.var 6) .nil))) .nil))) .nil))))) (.cons (.expr (.meth .list .append (.var 3) (.cons (.prim .len (.cons (.var 2) .nil)) .nil))) .nil))) .nil) .nil)) (.cons (.ret (.prim (.cut false true) (.cons (.var 2) (.cons (.var 1) .nil)))) .nil)))⟩
/-- 30: block(presses, letter), slots presses letter many (k11) -/
def f_block : Fd := ⟨2, 3, (.cons (.expr (.call 3 (.cons (.var 0) .nil))) (.cons (.expr (.call 12 (.cons (.var 1) .nil))) (.cons (.asg (.nm 2) (.call 27 (.cons (.var 0) (.cons (.var 1) .nil)))) (.cons (.ifs (.val (.prim .gt (.cons (.var 2) (.cons (.cst (.int 20000)) .nil)))) (.cons .never .nil) .nil) (.cons (.ret (.prim (.cut false true) (.cons (.prim .add (.cons (.call 29 (.cons (.var 0) (.cons (.var 2) .nil))) (.cons (.var 1) .nil))) (.cons (.var 2) .nil)))) .nil)))))⟩
/-- 31: need_cut(presses, cut), slots presses cut (k11) -/
def f_need_cut : Fd := ⟨2, 2, (.cons (.expr (.call 3 (.cons (.var 0) .nil))) (.cons (.expr (.call 26 (.cons (.var 1) (.cons (.prim .len (.cons (.var 0) .nil)) .nil)))) .nil))⟩
/-- 32: digits_of(grown, place), slots grown place growth found left (k11) -/
def f_digits_of : Fd := ⟨2, 5, (.cons (.asg (.two 3 4) (.prim .tup (.cons (.prim .lst .nil) (.cons (.var 1) .nil)))) (.cons (.for_ (.ofE (.prim .rev (.cons (.var 0) .nil))) (.nm 2) (.cons (.expr (.meth .list .append (.var 3) (.cons (.prim .toInt (.cons (.prim .ge (.cons (.var 4) (.cons (.var 2) .nil))) .nil)) .nil))) (.cons (.aug 4 .sub (.prim .mul (.cons (.var 2) (.cons (.prim .ix (.cons (.var 3) (.cons (.prim .neg (.cons (.cst (.int 1)) .nil)) .nil))) .nil)))) .nil))) (.cons (.ret (.prim .toTuple (.cons (.prim .rev (.cons (.var 3) .nil)) .nil))) .nil)))⟩
/-- 33: value_of(grown, digits), slots grown digits growth digit (k11) -/
def f_value_of : Fd := ⟨2, 4, (.cons .never .nil)⟩
/-- 34: block_of(presses, cut, place), slots presses cut place grown digits (k11) -/
def f_block_of : Fd := ⟨3, 5, (.cons (.expr (.call 31 (.cons (.var 0) (.cons (.var 1) .nil)))) (.cons (.asg (.nm 3) (.call 7 (.cons (.var 0) .nil))) (.cons (.expr (.call 26 (.cons (.var 2) (.cons (.prim .sub (.cons (.prim .sum1 (.cons (.var 3) .nil)) (.cons (.cst (.int 1)) .nil))) .nil)))) (.cons (.asg (.nm 4) (.call 32 (.cons (.var 3) (.cons (.var 2) .nil)))) (.cons (.ret (.prim .tup (.cons (.call 33 (.cons (.call 7 (.cons (.prim (.cut true false) (.cons (.var 0) (.cons (.var 1) .nil))) .nil)) (.cons (.prim (.cut true false) (.cons (.var 4) (.cons (.var 1) .nil))) .nil))) (.cons (.call 33 (.cons (.prim (.cut false true) (.cons (.var 3) (.cons (.var 1) .nil))) (.cons (.prim (.cut false true) (.cons (.var 4) (.cons (.var 1) .nil))) .nil))) .nil)))) .nil)))))⟩
/-- 35: block_start(presses, cut, number), slots presses cut number own (k11) -/
def f_block_start : Fd := ⟨3, 4, (.cons (.expr (.call 31 (.cons (.var 0) (.cons (.var 1) .nil)))) (.cons (.asg (.nm 3) (.call 7 (.cons (.prim (.cut true false) (.cons (.var 0) (.cons (.var 1) .nil))) .nil))) (.cons (.expr (.call 26 (.cons (.var 2) (.cons (.prim .sum1 (.cons (.var 3) .nil)) .nil)))) (.cons (.ret (.call 33 (.cons (.prim (.cut true false) (.cons (.call 7 (.cons (.var 0) .nil)) (.cons (.var 1) .nil))) (.cons (.call 32 (.cons (.var 3) (.cons (.var 2) .nil))) .nil)))) .nil))))⟩
/-- 36: address(presses, place), slots presses place grown (k12) -/
def f_address : Fd := ⟨2, 3, (.cons (.asg (.nm 2) (.call 7 (.cons (.var 0) .nil))) (.cons (.expr (.call 26 (.cons (.var 1) (.cons (.prim .sum1 (.cons (.var 2) .nil)) .nil)))) (.cons (.ret (.call 32 (.cons (.var 2) (.cons (.var 1) .nil)))) .nil)))⟩
/-- 37: is_good(presses, thing), slots presses thing behind letter digit one (k12) -/
def f_is_good : Fd := ⟨2, 6, (.cons .never (.cons (.asg (.nm 2) (.cst (.str []))) (.cons .never (.cons (.ret (.cst (.bl true))) .nil))))⟩
/-- 38: is_address(presses, thing), slots presses thing (k12) -/
def f_is_address : Fd := ⟨2, 2, (.cons (.expr (.call 3 (.cons (.var 0) .nil))) (.cons (.ret (.call 37 (.cons (.var 0) (.cons (.var 1) .nil)))) .nil))⟩
/-- 39: place_of(presses, digits), slots presses digits (k12) -/
def f_place_of : Fd := ⟨2, 2, (.cons (.expr (.call 3 (.cons (.var 0) .nil))) (.cons (.ifs (.not (.val (.call 37 (.cons (.var 0) (.cons (.var 1) .nil))))) (.cons .never .nil) .nil) (.cons (.ret (.call 33 (.cons (.call 7 (.cons (.var 0) .nil)) (.cons (.var 1) .nil)))) .nil)))⟩
/-- 40: next_address(presses, digits), slots presses digits found grown (k12) -/
def f_next_address : Fd := ⟨2, 4, (.cons (.asg (.two 2 3) (.prim .tup (.cons (.prim .add (.cons (.call 39 (.cons (.var 0) (.cons (.var 1) .nil))) (.cons (.cst (.int 1)) .nil))) (.cons (.call 7 (.cons (.var 0) .nil)) .nil)))) (.cons (.ret (.ite (.val (.prim .le (.cons (.var 2) (.cons (.prim .sum1 (.cons (.var 3) .nil)) .nil)))) (.call 32 (.cons (.var 3) (.cons (.var 2) .nil))) (.cst .non))) .nil))⟩
/-- 41: cuts_of(presses, grown, place), slots presses grown place at found left long (k13) -/
def f_cuts_of : Fd := ⟨3, 7, (.cons (.asg (.three 4 5 6) (.prim .tup (.cons (.prim .lst .nil) (.cons (.var 2) (.cons (.prim .sum1 (.cons (.var 1) .nil)) .nil))))) (.cons (.for_ (.call .range3 (.cons (.prim .sub (.cons (.prim .len (.cons (.var 0) .nil)) (.cons (.cst (.int 1)) .nil))) (.cons (.prim .neg (.cons (.cst (.int 1)) .nil)) (.cons (.prim .neg (.cons (.cst (.int 1)) .nil)) .nil)))) (.nm 3) (.cons (.aug 6 .sub (.prim .ix (.cons (.var 1) (.cons (.var 3) .nil)))) (.cons (.ifs (.val (.prim .lt (.cons (.var 5) (.cons (.var 6) .nil)))) (.cons (.expr (.meth .list .append (.var 4) (.cons (.cst (.int 0)) .nil))) .nil) (.cons (.ifs (.and (.val (.prim .eq (.cons (.var 5) (.cons (.var 6) .nil)))) (.val (.prim .nin (.cons (.prim .ix (.cons (.var 0) (.cons (.var 3) .nil))) (.cons (.prim (.cut false true) (.cons (.var 0) (.cons (.var 3) .nil))) .nil))))) (.cons (.ret (.prim .toTuple (.cons (.prim .add (.cons (.var 4) (.cons (.prim .lst (.cons (.cst (.int 2)) .nil)) .nil))) .nil))) .nil) (.cons (.expr (.meth .list .append (.var 4) (.cons (.cst (.int 1)) .nil))) (.cons (.aug 5 .sub (.prim .ix (.cons (.var 1) (.cons (.var 3) .nil)))) .nil))) .nil)) .nil))) (.cons (.ret (.prim .toTuple (.cons (.var 4) .nil))) .nil)))⟩
/-- 42: cuts(presses, place), slots presses place grown (k13) -/
def f_cuts : Fd := ⟨2, 3, (.cons (.asg (.nm 2) (.call 7 (.cons (.var 0) .nil))) (.cons (.expr (.call 26 (.cons (.var 1) (.cons (.prim .sub (.cons (.prim .sum1 (.cons (.var 2) .nil)) (.cons (.cst (.int 1)) .nil))) .nil)))) (.cons (.ret (.call 41 (.cons (.var 0) (.cons (.var 2) (.cons (.var 1) .nil))))) .nil)))⟩
/-- 43: place_by_cuts(presses, row), slots presses row grown is_row first place one (k13) -/
def f_place_by_cuts : Fd := ⟨2, 7, (.cons (.asg (.nm 2) (.call 7 (.cons (.var 0) .nil))) (.cons .never (.cons (.ifs (.or (.not (.val (.var 3))) (.val (.prim .ne (.cons (.prim .ix (.cons (.var 1) (.cons (.prim .neg (.cons (.cst (.int 1)) .nil)) .nil))) (.cons (.cst (.int 2)) .nil))))) (.cons .never .nil) .nil) (.cons (.asg (.nm 4) (.prim .sub (.cons (.prim .len (.cons (.var 0) .nil)) (.cons (.prim .len (.cons (.var 1) .nil)) .nil)))) (.cons (.asg (.nm 5) (.prim .add (.cons (.prim .sum1 (.cons (.prim (.cut false true) (.cons (.var 2) (.cons (.var 4) .nil))) .nil)) (.cons (.call 33 (.cons (.prim (.cut true false) (.cons (.var 2) (.cons (.var 4) .nil))) (.cons (.prim .toTuple (.cons (.comp (.ofE (.prim .rev (.cons (.var 1) .nil))) (.nm 6) [6] .tt (.prim .mod (.cons (.var 6) (.cons (.cst (.int 2)) .nil)))) .nil)) .nil))) .nil)))) (.cons (.ifs (.or (.val (.prim .ge (.cons (.var 5) (.cons (.prim .sum1 (.cons (.var 2) .nil)) .nil)))) (.val (.prim .ne (.cons (.call 41 (.cons (.var 0) (.cons (.var 2) (.cons (.var 5) .nil)))) (.cons (.var 1) .nil))))) (.cons .never .nil) .nil) (.cons (.ret (.var 5)) .nil)))))))⟩
/-- 44: lengths_by(presses), slots presses found latest number letter shared (k17) -/
def f_lengths_by : Fd := ⟨1, 6, (.cons (.asg (.two 1 2) (.prim .tup (.cons (.prim .lst (.cons (.cst (.int 0)) .nil)) (.cons (.prim .dic .nil) .nil)))) (.cons (.for_ (.call .enum (.cons (.var 0) .nil)) (.two 3 4) (.cons (.asg (.nm 5) (.ite (.val (.prim .inn (.cons (.var 4) (.cons (.var 2) .nil)))) (.prim .ix (.cons (.var 1) (.cons (.prim .ix (.cons (.var 2) (.cons (.var 4) .nil))) .nil))) (.prim .neg (.cons (.cst (.int 1)) .nil)))) (.cons (.expr (.meth .list .append (.var 1) (.cons (.prim .sub (.cons (.prim .mul (.cons (.cst (.int 2)) (.cons (.prim .ix (.cons (.var 1) (.cons (.prim .neg (.cons (.cst (.int 1)) .nil)) .nil))) .nil))) (.cons (.var 5) .nil))) .nil))) (.cons (.asgIx (.var 2) (.var 4) (.var 3)) .nil)))) (.cons (.ret (.var 1)) .nil)))⟩
/-- 45: borders(presses), slots presses (k17) -/
def f_borders : Fd := ⟨1, 1, (.cons (.expr (.call 3 (.cons (.var 0) .nil))) (.cons (.ret (.prim .toTuple (.cons (.prim (.cut false true) (.cons (.call 44 (.cons (.var 0) .nil)) (.cons (.prim .neg (.cons (.cst (.int 1)) .nil)) .nil))) .nil))) .nil))⟩
/-- 46: periods(presses), slots presses found shorter (k17) -/
def f_periods : Fd := ⟨1, 3, (.cons (.expr (.call 3 (.cons (.var 0) .nil))) (.cons (.asg (.nm 1) (.call 44 (.cons (.var 0) .nil))) (.cons .never .nil)))⟩
/-- 47: is_period(presses, number), slots presses number found (k17) -/
def f_is_period : Fd := ⟨2, 3, (.cons (.expr (.call 3 (.cons (.var 0) .nil))) (.cons (.asg (.nm 2) (.call 44 (.cons (.var 0) .nil))) (.cons .never (.cons (.ret (.prim .inn (.cons (.prim .sub (.cons (.prim .ix (.cons (.var 2) (.cons (.prim .neg (.cons (.cst (.int 1)) .nil)) .nil))) (.cons (.var 1) .nil))) (.cons (.var 2) .nil)))) .nil))))⟩
/-- 48: ties(presses), slots presses found latest letter number (k18) -/
def f_ties : Fd := ⟨1, 5, (.cons (.expr (.call 3 (.cons (.var 0) .nil))) (.cons (.asg (.nm 1) (.call 44 (.cons (.var 0) .nil))) (.cons .never (.cons .never .nil))))⟩
/-- 49: in_common(one, other), slots one other many (k19) -/
def f_in_common : Fd := ⟨2, 3, (.cons (.asg (.nm 2) (.cst (.int 0))) (.cons (.whl (.and (.val (.prim .lt (.cons (.var 2) (.cons (.prim .min2 (.cons (.prim .len (.cons (.var 0) .nil)) (.cons (.prim .len (.cons (.var 1) .nil)) .nil))) .nil)))) (.val (.prim .eq (.cons (.prim .ix (.cons (.var 0) (.cons (.var 2) .nil))) (.cons (.prim .ix (.cons (.var 1) (.cons (.var 2) .nil))) .nil))))) (.cons (.aug 2 .add (.cst (.int 1))) .nil)) (.cons (.ret (.var 2)) .nil)))⟩
/-- 50: part(one, other), slots one other many (k19) -/
def f_part : Fd := ⟨2, 3, (.cons (.expr (.call 3 (.cons (.var 0) .nil))) (.cons (.expr (.call 3 (.cons (.var 1) .nil))) (.cons (.asg (.nm 2) (.call 49 (.cons (.var 0) (.cons (.var 1) .nil)))) (.cons (.ret (.prim .tup (.cons (.prim .ix (.cons (.call 44 (.cons (.prim (.cut false true) (.cons (.var 0) (.cons (.var 2) .nil))) .nil)) (.cons (.prim .neg (.cons (.cst (.int 1)) .nil)) .nil))) (.cons (.prim (.cut true true) (.cons (.var 0) (.cons (.var 2) (.cons (.prim .add (.cons (.var 2) (.cons (.cst (.int 1)) .nil))) .nil)))) (.cons (.prim (.cut true true) (.cons (.var 1) (.cons (.var 2) (.cons (.prim .add (.cons (.var 2) (.cons (.cst (.int 1)) .nil))) .nil)))) .nil))))) .nil))))⟩
/-- 51: order(one, other), slots one other many first second (k19) -/
def f_order : Fd := ⟨2, 5, (.cons (.asg (.three 2 3 4) (.call 50 (.cons (.var 0) (.cons (.var 1) .nil)))) (.cons (.ret (.prim .sub (.cons (.prim .toInt (.cons (.prim .gt (.cons (.var 3) (.cons (.var 4) .nil))) .nil)) (.cons (.prim .toInt (.cons (.prim .lt (.cons (.var 3) (.cons (.var 4) .nil))) .nil)) .nil)))) .nil))⟩
/-- 52: below(presses, middle), slots presses middle first place is_odd number (k20) -/
def f_below : Fd := ⟨2, 6, (.cons .never (.cons (.asg (.nm 2) (.prim .ix (.cons (.var 0) (.cons (.cst (.int 0)) .nil)))) (.cons (.ifs (.val (.prim .eq (.cons (.var 4) (.cons (.cst (.int 1)) .nil)))) (.cons (.asg (.nm 5) (.prim .sub (.cons (.call 18 (.cons (.var 0) (.cons (.var 2) (.cons (.prim .add (.cons (.var 3) (.cons (.cst (.int 1)) .nil))) .nil)))) (.cons (.cst (.int 1)) .nil)))) (.cons (.ret (.prim .tup (.cons (.prim .add (.cons (.prim .mul (.cons (.cst (.int 2)) (.cons (.var 5) .nil))) (.cons (.prim .toInt (.cons (.prim .ne (.cons (.call 9 (.cons (.var 0) (.cons (.var 3) .nil))) (.cons (.var 2) .nil))) .nil)) .nil))) .nil))) .nil)) .nil) (.cons (.ifs (.or (.val (.prim .eq (.cons (.var 3) (.cons (.cst (.int 0)) .nil)))) (.val (.prim .eq (.cons (.var 3) (.cons (.call 6 (.cons (.var 0) .nil)) .nil))))) (.cons (.ret (.prim .tup .nil)) .nil) .nil) (.cons (.ifs (.or (.val (.prim .ne (.cons (.call 9 (.cons (.var 0) (.cons (.var 3) .nil))) (.cons (.var 2) .nil)))) (.val (.prim .ne (.cons (.call 9 (.cons (.var 0) (.cons (.prim .sub (.cons (.var 3) (.cons (.cst (.int 1)) .nil))) .nil))) (.cons (.var 2) .nil))))) (.cons (.ret (.prim .tup .nil)) .nil) .nil) (.cons (.ret (.prim .tup (.cons (.prim .sub (.cons (.prim .mul (.cons (.cst (.int 2)) (.cons (.call 18 (.cons (.var 0) (.cons (.var 2) (.cons (.var 3) .nil)))) .nil))) (.cons (.cst (.int 1)) .nil))) .nil))) .nil))))))⟩
/-- 53: around(presses, middle), slots presses middle here many found (k20) -/
def f_around : Fd := ⟨2, 5, (.cons (.expr (.call 3 (.cons (.var 0) .nil))) (.cons .never (.cons (.asg (.nm 2) (.var 1)) (.cons (.for_ (.call .range1 (.cons (.prim .len (.cons (.var 0) .nil)) .nil)) (.nm 3) (.cons (.asg (.nm 4) (.call 52 (.cons (.prim (.cut true false) (.cons (.var 0) (.cons (.var 3) .nil))) (.cons (.var 2) .nil)))) (.cons (.ifs (.val (.prim .eq (.cons (.var 4) (.cons (.prim .tup .nil) .nil)))) (.cons (.ret (.var 3)) .nil) .nil) (.cons (.asg (.nm 2) (.prim .ix (.cons (.var 4) (.cons (.cst (.int 0)) .nil)))) .nil)))) (.cons (.ret (.prim .len (.cons (.var 0) .nil))) .nil)))))⟩
/-- 54: middles(presses, many), slots presses many (k21) -/
def f_middles : Fd := ⟨2, 2, (.cons (.expr (.call 3 (.cons (.var 0) .nil))) (.cons .never (.cons (.ifs (.val (.prim .eq (.cons (.var 1) (.cons (.prim .len (.cons (.var 0) .nil)) .nil)))) (.cons (.ret (.cst (.int 1))) .nil) .nil) (.cons (.ret (.prim .mul (.cons (.cst (.int 2)) (.cons (.prim .sub (.cons (.call 6 (.cons (.prim (.cut true false) (.cons (.var 0) (.cons (.var 1) .nil))) .nil)) (.cons (.call 6 (.cons (.prim (.cut true false) (.cons (.var 0) (.cons (.prim .add (.cons (.var 1) (.cons (.cst (.int 1)) .nil))) .nil))) .nil)) .nil))) .nil)))) .nil))))⟩
/-- 55: one_more(text, presses, lengths), slots text presses lengths known shared later place (k22) -/
def f_one_more : Fd := ⟨3, 7, (.cons (.asg (.nm 3) (.prim .ix (.cons (.var 2) (.cons (.prim .neg (.cons (.cst (.int 1)) .nil)) .nil)))) (.cons (.ifs (.val (.prim .eq (.cons (.prim .len (.cons (.var 1) .nil)) (.cons (.cst (.int 200)) .nil)))) (.cons .never .nil) .nil) (.cons .never (.cons (.asg (.nm 5) (.prim .sub (.cons (.prim .mul (.cons (.cst (.int 2)) (.cons (.var 3) .nil))) (.cons (.var 4) .nil)))) (.cons (.for_ (.call .range2 (.cons (.prim .add (.cons (.var 3) (.cons (.cst (.int 1)) .nil))) (.cons (.prim .min2 (.cons (.var 5) (.cons (.prim .len (.cons (.var 0) .nil)) .nil))) .nil))) (.nm 6) (.cons (.ifs (.val (.prim .ne (.cons (.prim .ix (.cons (.var 0) (.cons (.var 6) .nil))) (.cons (.prim .ix (.cons (.var 0) (.cons (.prim .sub (.cons (.prim .sub (.cons (.var 5) (.cons (.cst (.int 1)) .nil))) (.cons (.var 6) .nil))) .nil))) .nil)))) (.cons .never .nil) .nil) .nil)) (.cons (.ret (.var 5)) .nil))))))⟩
/-- 56: read_back(text), slots text presses lengths later (k22) -/
def f_read_back : Fd := ⟨1, 4, (.cons (.expr (.call 21 (.cons (.var 0) .nil))) (.cons (.asg (.two 1 2) (.prim .tup (.cons (.cst (.str [])) (.cons (.prim .lst (.cons (.cst (.int 0)) .nil)) .nil)))) (.cons (.whl (.val (.prim .lt (.cons (.prim .ix (.cons (.var 2) (.cons (.prim .neg (.cons (.cst (.int 1)) .nil)) .nil))) (.cons (.prim .len (.cons (.var 0) .nil)) .nil)))) (.cons (.asg (.nm 3) (.call 55 (.cons (.var 0) (.cons (.var 1) (.cons (.var 2) .nil))))) (.cons (.aug 1 .add (.prim .ix (.cons (.var 0) (.cons (.prim .ix (.cons (.var 2) (.cons (.prim .neg (.cons (.cst (.int 1)) .nil)) .nil))) .nil)))) (.cons (.expr (.meth .list .append (.var 2) (.cons (.var 3) .nil))) .nil)))) (.cons (.ret (.prim .tup (.cons (.var 1) (.cons (.prim .ix (.cons (.var 2) (.cons (.prim .neg (.cons (.cst (.int 1)) .nil)) .nil))) .nil)))) .nil))))⟩
/-- 57: presses_of(text), slots text presses many (k22) -/
def f_presses_of : Fd := ⟨1, 3, (.cons (.asg (.two 1 2) (.call 56 (.cons (.var 0) .nil))) (.cons (.ifs (.val (.prim .gt (.cons (.var 2) (.cons (.prim .len (.cons (.var 0) .nil)) .nil)))) (.cons .never .nil) .nil) (.cons (.ret (.var 1)) .nil)))⟩
/-- 58: begun_by(text), slots text (k22) -/
def f_begun_by : Fd := ⟨1, 1, (.cons (.ret (.prim .ix (.cons (.call 56 (.cons (.var 0) .nil)) (.cons (.cst (.int 0)) .nil)))) .nil)⟩
/-- 59: need_piece(piece), slots piece (k25) -/
def f_need_piece : Fd := ⟨1, 1, (.cons (.ifs (.and (.val (.prim (.isi .str) (.cons (.var 0) .nil))) (.val (.prim .gt (.cons (.prim .len (.cons (.var 0) .nil)) (.cons (.cst (.int 200)) .nil))))) (.cons .never .nil) .nil) (.cons (.expr (.call 21 (.cons (.var 0) .nil))) .nil))⟩
/-- 60: found_home(copies, piece), slots copies piece many head around at text begin (k25) -/
def f_found_home : Fd := ⟨2, 8, (.cons (.ifs (.val (.prim .eq (.cons (.var 1) (.cons (.cst (.str [])) .nil)))) (.cons (.ret (.prim .tup (.cons (.cst (.int 0)) (.cons (.cst (.int 0)) .nil)))) .nil) .nil) (.cons .never (.cons (.for_ (.call .range1 (.cons (.prim .len (.cons (.var 0) .nil)) .nil)) (.nm 2) (.cons .never (.cons (.asg (.nm 5) (.meth .str .find (.var 6) (.cons (.var 1) .nil))) (.cons (.ifs (.val (.prim .ge (.cons (.var 5) (.cons (.cst (.int 0)) .nil)))) (.cons (.ret (.prim .tup (.cons (.prim .add (.cons (.var 2) (.cons (.cst (.int 1)) .nil))) (.cons (.prim .add (.cons (.var 7) (.cons (.var 5) .nil))) .nil)))) .nil) .nil) .nil)))) (.cons (.ret (.cst .non)) .nil))))⟩
/-- 61: home(presses, piece), slots presses piece copies found (k25) -/
def f_home : Fd := ⟨2, 4, (.cons .never (.cons (.expr (.call 59 (.cons (.var 1) .nil))) (.cons (.asg (.nm 3) (.call 60 (.cons (.var 2) (.cons (.var 1) .nil)))) (.cons (.ifs (.val (.prim .isN (.cons (.var 3) .nil))) (.cons .never .nil) .nil) (.cons (.ret (.var 3)) .nil)))))⟩
/-- 62: is_piece(presses, piece), slots presses piece copies (k25) -/
def f_is_piece : Fd := ⟨2, 3, (.cons .never (.cons (.expr (.call 59 (.cons (.var 1) .nil))) (.cons (.ret (.prim .isNN (.cons (.call 60 (.cons (.var 2) (.cons (.var 1) .nil))) .nil))) .nil)))⟩
/-- 63: how_often(presses, piece), slots presses piece copies found (k25) -/
def f_how_often : Fd := ⟨2, 4, (.cons .never (.cons (.expr (.call 59 (.cons (.var 1) .nil))) (.cons (.asg (.nm 3) (.call 60 (.cons (.var 2) (.cons (.var 1) .nil)))) (.cons (.ret (.ite (.val (.prim .isN (.cons (.var 3) .nil))) (.cst (.int 0)) (.prim .add (.cons (.call 6 (.cons (.prim (.cut true false) (.cons (.var 0) (.cons (.prim .ix (.cons (.var 3) (.cons (.cst (.int 0)) .nil))) .nil))) .nil)) (.cons (.cst (.int 1)) .nil))))) .nil))))⟩
/-- 64: place_at(presses, piece, number), slots presses piece number many at (k25) -/
def f_place_at : Fd := ⟨3, 5, (.cons (.asg (.two 3 4) (.call 61 (.cons (.var 0) (.cons (.var 1) .nil)))) (.cons .never (.cons (.ret (.prim .add (.cons (.call 35 (.cons (.var 0) (.cons (.var 3) (.cons (.var 2) .nil)))) (.cons (.var 4) .nil)))) .nil)))⟩
/-- 65: stand_ahead(presses, piece, place), slots presses piece place whole spot many at (k25) -/
def f_stand_ahead : Fd := ⟨3, 7, (.cons (.asg (.two 5 6) (.call 61 (.cons (.var 0) (.cons (.var 1) .nil)))) (.cons (.asg (.nm 3) (.call 6 (.cons (.var 0) .nil))) (.cons .never (.cons (.asg (.nm 4) (.prim .sub (.cons (.prim .sub (.cons (.var 2) (.cons (.cst (.int 1)) .nil))) (.cons (.var 6) .nil)))) (.cons (.ifs (.val (.prim .lt (.cons (.var 4) (.cons (.cst (.int 0)) .nil)))) (.cons (.ret (.cst (.int 0))) .nil) .nil) (.cons (.ifs (.val (.prim .ge (.cons (.var 4) (.cons (.var 3) .nil)))) (.cons (.ret (.prim .add (.cons (.call 6 (.cons (.prim (.cut true false) (.cons (.var 0) (.cons (.var 5) .nil))) .nil)) (.cons (.cst (.int 1)) .nil)))) .nil) .nil) (.cons (.ret (.prim .add (.cons (.prim .ix (.cons (.call 34 (.cons (.var 0) (.cons (.var 5) (.cons (.var 4) .nil)))) (.cons (.cst (.int 0)) .nil))) (.cons (.cst (.int 1)) .nil)))) .nil)))))))⟩
/-- 66: forced(presses, piece), slots presses piece many at (k25) -/
def f_forced : Fd := ⟨2, 4, (.cons (.asg (.two 2 3) (.call 61 (.cons (.var 0) (.cons (.var 1) .nil)))) (.cons (.ret (.prim .tup (.cons (.var 3) (.cons (.prim .sub (.cons (.prim .sub (.cons (.call 6 (.cons (.prim (.cut false true) (.cons (.var 0) (.cons (.var 2) .nil))) .nil)) (.cons (.var 3) .nil))) (.cons (.prim .len (.cons (.var 1) .nil)) .nil))) .nil)))) .nil))⟩
/-- 67: _wall(k), slots k (k26) -/
def f_wall : Fd := ⟨1, 1, (.cons (.whl (.val (.cst (.bl true))) (.cons .pass .nil)) .nil)⟩
/-- 68: need_window(copies, thing), slots copies thing (k26) -/
def f_need_window : Fd := ⟨2, 2, (.cons .never (.cons .never .nil))⟩
/-- 69: need_spot(copies, number), slots copies number (k26) -/
def f_need_spot : Fd := ⟨2, 2, (.cons .never .nil)⟩
/-- 70: home_of(presses, one), slots presses one copies (k26) -/
def f_home_of : Fd := ⟨2, 3, (.cons .never (.cons (.expr (.call 68 (.cons (.var 2) (.cons (.var 1) .nil)))) (.cons .never .nil)))⟩
/-- 71: are_alike(presses, one, other), slots presses one other copies (k26) -/
def f_are_alike : Fd := ⟨3, 4, (.cons .never (.cons (.expr (.call 68 (.cons (.var 3) (.cons (.var 1) .nil)))) (.cons (.expr (.call 68 (.cons (.var 3) (.cons (.var 2) .nil)))) (.cons .never .nil))))⟩
/-- 72: times(presses, one), slots presses one (k26) -/
def f_times : Fd := ⟨2, 2, (.cons (.ret (.prim .add (.cons (.call 6 (.cons (.prim (.cut true false) (.cons (.var 0) (.cons (.prim .ix (.cons (.call 70 (.cons (.var 0) (.cons (.var 1) .nil))) (.cons (.cst (.int 0)) .nil))) .nil))) .nil)) (.cons (.cst (.int 1)) .nil)))) .nil)⟩
/-- 73: is_mirror(presses, one), slots presses one copies many at (k26) -/
def f_is_mirror : Fd := ⟨2, 5, (.cons .never (.cons (.expr (.call 68 (.cons (.var 2) (.cons (.var 1) .nil)))) (.cons .never (.cons .never .nil))))⟩
/-- 74: alike_from(copies, start, other), slots copies start other low high many (k26) -/
def f_alike_from : Fd := ⟨3, 6, (.cons .never (.cons (.whl (.val (.prim .lt (.cons (.var 3) (.cons (.var 4) .nil)))) (.cons (.asg (.nm 5) (.prim .fdiv (.cons (.prim .add (.cons (.prim .add (.cons (.var 3) (.cons (.var 4) .nil))) (.cons (.cst (.int 1)) .nil))) (.cons (.cst (.int 2)) .nil)))) (.cons .never .nil))) (.cons (.ret (.var 3)) .nil)))⟩
/-- 75: compared(presses, one, other), slots presses one other copies many (k26) -/
def f_compared : Fd := ⟨3, 5, (.cons .never (.cons (.expr (.call 68 (.cons (.var 3) (.cons (.var 1) .nil)))) (.cons (.expr (.call 68 (.cons (.var 3) (.cons (.var 2) .nil)))) (.cons (.asg (.nm 4) (.call 74 (.cons (.var 3) (.cons (.prim .ix (.cons (.var 1) (.cons (.cst (.int 0)) .nil))) (.cons (.prim .ix (.cons (.var 2) (.cons (.cst (.int 0)) .nil))) .nil))))) (.cons (.ifs (.val (.prim .ge (.cons (.var 4) (.cons (.prim .min2 (.cons (.prim .ix (.cons (.var 1) (.cons (.cst (.int 1)) .nil))) (.cons (.prim .ix (.cons (.var 2) (.cons (.cst (.int 1)) .nil))) .nil))) .nil)))) (.cons (.ret (.prim .sub (.cons (.prim .toInt (.cons (.prim .gt (.cons (.prim .ix (.cons (.var 1) (.cons (.cst (.int 1)) .nil))) (.cons (.prim .ix (.cons (.var 2) (.cons (.cst (.int 1)) .nil))) .nil))) .nil)) (.cons (.prim .toInt (.cons (.prim .lt (.cons (.prim .ix (.cons (.var 1) (.cons (.cst (.int 1)) .nil))) (.cons (.prim .ix (.cons (.var 2) (.cons (.cst (.int 1)) .nil))) .nil))) .nil)) .nil)))) .nil) .nil) (.cons (.ret (.ite (.val (.prim .gt (.cons (.call 9 (.cons (.var 0) (.cons (.prim .add (.cons (.prim .ix (.cons (.var 1) (.cons (.cst (.int 0)) .nil))) (.cons (.var 4) .nil))) .nil))) (.cons (.call 9 (.cons (.var 0) (.cons (.prim .add (.cons (.prim .ix (.cons (.var 2) (.cons (.cst (.int 0)) .nil))) (.cons (.var 4) .nil))) .nil))) .nil)))) (.cst (.int 1)) (.prim .neg (.cons (.cst (.int 1)) .nil)))) .nil))))))⟩
/-- 76: alike_far(presses, start, other), slots presses start other copies (k26) -/
def f_alike_far : Fd := ⟨3, 4, (.cons .never (.cons (.expr (.call 69 (.cons (.var 3) (.cons (.var 1) .nil)))) (.cons (.expr (.call 69 (.cons (.var 3) (.cons (.var 2) .nil)))) (.cons (.ret (.call 74 (.cons (.var 3) (.cons (.var 1) (.cons (.var 2) .nil))))) .nil))))⟩
/-- 77: longest(presses, number), slots presses number copies many (k31) -/
def f_longest : Fd := ⟨2, 4, (.cons .never (.cons .never (.cons (.ret (.prim .max1 (.cons (.comp (.call .range1 (.cons (.prim .add (.cons (.prim .len (.cons (.var 2) .nil)) (.cons (.cst (.int 1)) .nil))) .nil)) (.nm 3) [3] (.val (.prim .ge (.cons (.prim .add (.cons (.call 6 (.cons (.prim (.cut true false) (.cons (.var 0) (.cons (.var 3) .nil))) .nil)) (.cons (.cst (.int 1)) .nil))) (.cons (.var 1) .nil)))) (.var 3)) .nil))) .nil)))⟩
/-- 78: parted_at(presses, piece), slots presses piece many at (k33) -/
def f_parted_at : Fd := ⟨2, 4, (.cons (.asg (.two 2 3) (.call 61 (.cons (.var 0) (.cons (.var 1) .nil)))) (.cons (.ret (.prim .tup (.cons (.prim (.cut false true) (.cons (.var 0) (.cons (.var 2) .nil))) (.cons (.prim (.cut true false) (.cons (.var 0) (.cons (.var 2) .nil))) (.cons (.var 3) .nil))))) .nil))⟩
/-- 79: gaps(presses, piece), slots presses piece found own_presses behind at letter many apart (k33) -/
def f_gaps : Fd := ⟨2, 9, (.cons (.asg (.three 3 4 5) (.call 78 (.cons (.var 0) (.cons (.var 1) .nil)))) (.cons (.asg (.nm 2) (.prim .dic .nil)) (.cons .never (.cons .never .nil))))⟩
/-- 80: gap_presses(presses, piece), slots presses piece (k33) -/
def f_gap_presses : Fd := ⟨2, 2, (.cons (.ret (.prim .ix (.cons (.call 78 (.cons (.var 0) (.cons (.var 1) .nil))) (.cons (.cst (.int 1)) .nil)))) .nil)⟩
/-- 81: gap_letter(presses, piece, number), slots presses piece number behind (k33) -/
def f_gap_letter : Fd := ⟨3, 4, (.cons (.asg (.nm 3) (.call 80 (.cons (.var 0) (.cons (.var 1) .nil)))) (.cons .never (.cons (.ret (.call 9 (.cons (.var 3) (.cons (.var 2) .nil)))) .nil)))⟩
/-- 82: gap(presses, piece, number), slots presses piece number (k33) -/
def f_gap : Fd := ⟨3, 3, (.cons (.ret (.call 28 (.cons (.prim .ix (.cons (.call 78 (.cons (.var 0) (.cons (.var 1) .nil))) (.cons (.cst (.int 0)) .nil))) (.cons (.call 81 (.cons (.var 0) (.cons (.var 1) (.cons (.var 2) .nil)))) .nil)))) .nil)⟩
/-- 83: nearest(presses, piece, place), slots presses piece place lower up_to ahead (k35) -/
def f_nearest : Fd := ⟨3, 6, (.cons (.expr (.call 61 (.cons (.var 0) (.cons (.var 1) .nil)))) (.cons .never (.cons (.asg (.two 4 5) (.prim .tup (.cons (.call 65 (.cons (.var 0) (.cons (.var 1) (.cons (.prim .add (.cons (.var 2) (.cons (.cst (.int 1)) .nil))) .nil)))) (.cons (.call 65 (.cons (.var 0) (.cons (.var 1) (.cons (.var 2) .nil)))) .nil)))) (.cons (.asg (.nm 3) (.ite (.val (.prim .gt (.cons (.var 4) (.cons (.cst (.int 0)) .nil)))) (.call 64 (.cons (.var 0) (.cons (.var 1) (.cons (.prim .sub (.cons (.var 4) (.cons (.cst (.int 1)) .nil))) .nil)))) (.cst .non))) (.cons (.ret (.prim .tup (.cons (.var 3) (.cons (.ite (.val (.prim .lt (.cons (.var 5) (.cons (.call 63 (.cons (.var 0) (.cons (.var 1) .nil))) .nil)))) (.call 64 (.cons (.var 0) (.cons (.var 1) (.cons (.var 5) .nil)))) (.cst .non)) .nil)))) .nil)))))⟩
/-- 84: beside(behind, letter), slots behind letter found (k36) -/
def f_beside : Fd := ⟨2, 3, (.cons (.ifs (.val (.prim .isNN (.cons (.var 1) .nil))) (.cons .never .nil) .nil) (.cons .never (.cons .never (.cons (.ret (.var 2)) .nil))))⟩
/-- 85: followed(presses, piece), slots presses piece end own_presses behind at (k36) -/
def f_followed : Fd := ⟨2, 6, (.cons (.asg (.three 3 4 5) (.call 78 (.cons (.var 0) (.cons (.var 1) .nil)))) (.cons (.asg (.nm 2) (.prim .add (.cons (.var 5) (.cons (.prim .len (.cons (.var 1) .nil)) .nil)))) (.cons (.ret (.call 84 (.cons (.var 4) (.cons (.ite (.val (.prim .lt (.cons (.var 2) (.cons (.call 6 (.cons (.var 3) .nil)) .nil)))) (.call 9 (.cons (.var 3) (.cons (.var 2) .nil))) (.cst .non)) .nil)))) .nil)))⟩
/-- 86: led(presses, piece), slots presses piece own_presses behind at (k36) -/
def f_led : Fd := ⟨2, 5, (.cons (.asg (.three 2 3 4) (.call 78 (.cons (.var 0) (.cons (.var 1) .nil)))) (.cons (.ret (.call 84 (.cons (.var 3) (.cons (.ite (.val (.prim .gt (.cons (.var 4) (.cons (.cst (.int 0)) .nil)))) (.call 9 (.cons (.var 2) (.cons (.prim .sub (.cons (.var 4) (.cons (.cst (.int 1)) .nil))) .nil))) (.cst .non)) .nil)))) .nil))⟩
/-- 87: squared(presses), slots presses grown found size ahead (k37) -/
def f_squared : Fd := ⟨1, 5, (.cons (.asg (.three 2 3 4) (.prim .tup (.cons (.prim .lst .nil) (.cons (.cst (.int 0)) (.cons (.cst (.int 1)) .nil))))) (.cons (.for_ (.ofE (.call 7 (.cons (.var 0) .nil))) (.nm 1) (.cons (.aug 3 .add (.var 1)) (.cons (.expr (.meth .list .append (.var 2) (.cons (.prim .tup (.cons (.var 3) (.cons (.var 1) (.cons (.var 4) .nil)))) .nil))) (.cons (.aug 4 .add (.prim .mul (.cons (.var 1) (.cons (.var 1) .nil)))) .nil)))) (.cons (.ret (.var 2)) .nil)))⟩
/-- 88: how_many_unlike(presses), slots presses grown (k37) -/
def f_how_many_unlike : Fd := ⟨1, 2, (.cons (.ret (.prim .add (.cons (.cst (.int 1)) (.cons (.prim .sum1 (.cons (.comp (.ofE (.call 7 (.cons (.var 0) .nil))) (.nm 1) [1] .tt (.prim .mul (.cons (.var 1) (.cons (.var 1) .nil)))) .nil)) .nil)))) .nil)⟩
/-- 89: need_many(many), slots many (k37) -/
def f_need_many : Fd := ⟨1, 1, (.cons (.ifs (.not (.val (.call 0 (.cons (.var 0) .nil)))) (.cons .never .nil) .nil) .nil)⟩
/-- 90: how_many_of(presses, many), slots presses many rows found size grown ahead (k37) -/
def f_how_many_of : Fd := ⟨2, 7, (.cons (.asg (.nm 2) (.call 87 (.cons (.var 0) .nil))) (.cons (.expr (.call 89 (.cons (.var 1) .nil))) (.cons (.asg (.nm 3) (.prim .toInt (.cons (.prim .eq (.cons (.var 1) (.cons (.cst (.int 0)) .nil))) .nil))) (.cons (.for_ (.ofE (.var 2)) (.three 4 5 6) (.cons (.aug 3 .add (.prim .max2 (.cons (.cst (.int 0)) (.cons (.prim .sub (.cons (.var 5) (.cons (.prim .abs (.cons (.prim .add (.cons (.prim .sub (.cons (.prim .sub (.cons (.var 4) (.cons (.var 1) .nil))) (.cons (.var 5) .nil))) (.cons (.cst (.int 1)) .nil))) .nil)) .nil))) .nil)))) .nil)) (.cons (.ret (.var 3)) .nil)))))⟩
/-- 91: mirrors_of(presses, many), slots presses many rows found size grown ahead (k37) -/
def f_mirrors_of : Fd := ⟨2, 7, (.cons (.asg (.nm 2) (.call 87 (.cons (.var 0) .nil))) (.cons (.expr (.call 89 (.cons (.var 1) .nil))) (.cons (.asg (.nm 3) (.prim .toInt (.cons (.prim .eq (.cons (.var 1) (.cons (.cst (.int 0)) .nil))) .nil))) (.cons (.for_ (.ofE (.var 2)) (.three 4 5 6) (.cons (.aug 3 .add (.prim .toInt (.cons (.andv (.prim .eq (.cons (.prim .mod (.cons (.var 4) (.cons (.cst (.int 2)) .nil))) (.cons (.prim .mod (.cons (.var 1) (.cons (.cst (.int 2)) .nil))) .nil))) (.chain .le .lt (.cst (.int 0)) (.prim .sub (.cons (.var 4) (.cons (.var 1) .nil))) (.prim .mul (.cons (.cst (.int 2)) (.cons (.var 5) .nil))))) .nil))) .nil)) (.cons (.ret (.var 3)) .nil)))))⟩
/-- 92: grown_by(presses, number), slots presses number rows place row (k37) -/
def f_grown_by : Fd := ⟨2, 5, (.cons (.asg (.nm 2) (.call 87 (.cons (.var 0) .nil))) (.cons .never (.cons (.ifs (.val (.prim .eq (.cons (.var 1) (.cons (.cst (.int 0)) .nil)))) (.cons (.ret (.prim .tup (.cons (.cst (.int 0)) (.cons (.cst (.int 0)) (.cons (.cst (.int 0)) .nil))))) .nil) .nil) (.cons (.asg (.nm 3) (.prim .max1 (.cons (.comp (.call .enum (.cons (.var 2) .nil)) (.two 3 4) [3, 4] (.val (.prim .le (.cons (.prim .ix (.cons (.var 4) (.cons (.cst (.int 2)) .nil))) (.cons (.var 1) .nil)))) (.var 3)) .nil))) (.cons .never .nil)))))⟩
/-- 93: is_triple(rows, thing), slots rows thing one (k37) -/
def f_is_triple : Fd := ⟨2, 3, (.cons (.ifs (.or (.not (.val (.prim (.isi .tuple) (.cons (.var 1) .nil)))) (.or (.val (.prim .ne (.cons (.prim .len (.cons (.var 1) .nil)) (.cons (.cst (.int 3)) .nil)))) (.not (.val (.prim .all1 (.cons (.comp (.ofE (.var 1)) (.nm 2) [2] .tt (.call 0 (.cons (.var 2) .nil))) .nil)))))) (.cons (.ret (.cst (.bl false))) .nil) .nil) (.cons (.ifs (.or (.val (.prim .eq (.cons (.prim .ix (.cons (.var 1) (.cons (.cst (.int 0)) .nil))) (.cons (.cst (.int 0)) .nil)))) (.val (.prim .gt (.cons (.prim .ix (.cons (.var 1) (.cons (.cst (.int 0)) .nil))) (.cons (.prim .len (.cons (.var 0) .nil)) .nil))))) (.cons (.ret (.prim .eq (.cons (.var 1) (.cons (.prim .tup (.cons (.cst (.int 0)) (.cons (.cst (.int 0)) (.cons (.cst (.int 0)) .nil)))) .nil)))) .nil) .nil) (.cons (.ret (.prim .lt (.cons (.prim .max1 (.cons (.prim (.cut true false) (.cons (.var 1) (.cons (.cst (.int 1)) .nil))) .nil)) (.cons (.prim .ix (.cons (.prim .ix (.cons (.var 0) (.cons (.prim .sub (.cons (.prim .ix (.cons (.var 1) (.cons (.cst (.int 0)) .nil))) (.cons (.cst (.int 1)) .nil))) .nil))) (.cons (.cst (.int 1)) .nil))) .nil)))) .nil)))⟩
/-- 94: number_in(rows, triple), slots rows triple size grown ahead (k37) -/
def f_number_in : Fd := ⟨2, 5, (.cons (.ifs (.val (.prim .eq (.cons (.prim .ix (.cons (.var 1) (.cons (.cst (.int 0)) .nil))) (.cons (.cst (.int 0)) .nil)))) (.cons (.ret (.cst (.int 0))) .nil) .nil) (.cons (.asg (.three 2 3 4) (.prim .ix (.cons (.var 0) (.cons (.prim .sub (.cons (.prim .ix (.cons (.var 1) (.cons (.cst (.int 0)) .nil))) (.cons (.cst (.int 1)) .nil))) .nil)))) (.cons (.ret (.prim .add (.cons (.prim .add (.cons (.var 4) (.cons (.prim .mul (.cons (.prim .ix (.cons (.var 1) (.cons (.cst (.int 1)) .nil))) (.cons (.var 3) .nil))) .nil))) (.cons (.prim .ix (.cons (.var 1) (.cons (.cst (.int 2)) .nil))) .nil)))) .nil)))⟩
/-- 95: number_by(presses, triple), slots presses triple rows (k37) -/
def f_number_by : Fd := ⟨2, 3, (.cons (.asg (.nm 2) (.call 87 (.cons (.var 0) .nil))) (.cons (.ifs (.not (.val (.call 93 (.cons (.var 2) (.cons (.var 1) .nil))))) (.cons .never .nil) .nil) (.cons (.ret (.call 94 (.cons (.var 2) (.cons (.var 1) .nil)))) .nil)))⟩
/-- 96: number_of(presses, piece), slots presses piece rows many at (k37) -/
def f_number_of : Fd := ⟨2, 5, (.cons (.asg (.two 3 4) (.call 61 (.cons (.var 0) (.cons (.var 1) .nil)))) (.cons (.asg (.nm 2) (.call 87 (.cons (.var 0) .nil))) (.cons (.ret (.ite (.val (.prim .eq (.cons (.var 3) (.cons (.cst (.int 0)) .nil)))) (.cst (.int 0)) (.call 94 (.cons (.var 2) (.cons (.prim .tup (.cons (.var 3) (.cons (.var 4) (.cons (.prim .sub (.cons (.prim .sub (.cons (.prim .ix (.cons (.prim .ix (.cons (.var 2) (.cons (.prim .sub (.cons (.var 3) (.cons (.cst (.int 1)) .nil))) .nil))) (.cons (.cst (.int 0)) .nil))) (.cons (.var 4) .nil))) (.cons (.prim .len (.cons (.var 1) .nil)) .nil))) .nil)))) .nil))))) .nil)))⟩
/-- 97: text_of(presses, start, many), slots presses start many place end found (k37) -/
def f_text_of : Fd := ⟨3, 6, (.cons (.asg (.two 4 5) (.prim .tup (.cons (.prim .add (.cons (.var 1) (.cons (.var 2) .nil))) (.cons (.prim .lst .nil) .nil)))) (.cons (.for_ (.call .range3 (.cons (.var 1) (.cons (.var 4) (.cons (.cst (.int 1000)) .nil)))) (.nm 3) (.cons (.expr (.meth .list .append (.var 5) (.cons (.call 10 (.cons (.var 0) (.cons (.var 3) (.cons (.prim .min2 (.cons (.cst (.int 1000)) (.cons (.prim .sub (.cons (.var 4) (.cons (.var 3) .nil))) .nil))) .nil)))) .nil))) .nil)) (.cons (.ret (.meth .str .join (.cst (.str [])) (.cons (.var 5) .nil))) .nil)))⟩
/-- 98: piece_by(presses, number), slots presses number own_presses size many ahead behind (k37) -/
def f_piece_by : Fd := ⟨2, 7, (.cons (.asg (.three 4 5 6) (.call 92 (.cons (.var 0) (.cons (.var 1) .nil)))) (.cons (.ifs (.val (.prim .eq (.cons (.var 4) (.cons (.cst (.int 0)) .nil)))) (.cons (.ret (.cst (.str []))) .nil) .nil) (.cons (.asg (.nm 2) (.prim (.cut false true) (.cons (.var 0) (.cons (.var 4) .nil)))) (.cons (.asg (.nm 3) (.prim .sub (.cons (.prim .sub (.cons (.prim .sum1 (.cons (.call 7 (.cons (.var 2) .nil)) .nil)) (.cons (.var 5) .nil))) (.cons (.var 6) .nil)))) (.cons (.ifs (.val (.prim .gt (.cons (.var 3) (.cons (.cst (.int 20000)) .nil)))) (.cons .never .nil) .nil) (.cons (.ret (.call 97 (.cons (.var 2) (.cons (.var 5) (.cons (.var 3) .nil))))) .nil))))))⟩
/-- 99: need_twos(thing), slots thing place letter (k41) -/
def f_need_twos : Fd := ⟨1, 3, (.cons (.ifs (.or (.not (.val (.prim (.isi .str) (.cons (.var 0) .nil)))) (.val (.prim .gt (.cons (.prim .len (.cons (.var 0) .nil)) (.cons (.cst (.int 200)) .nil))))) (.cons .never .nil) .nil) (.cons (.for_ (.call .enum (.cons (.var 0) .nil)) (.two 1 2) (.cons (.ifs (.val (.prim .nin (.cons (.var 2) (.cons (.prim .tup (.cons (.cst (.str [97])) (.cons (.cst (.str [98])) .nil))) .nil)))) (.cons .never .nil) .nil) .nil)) .nil))⟩
/-- 100: shared_part(one, other), slots one other (k41) -/
def f_shared_part : Fd := ⟨2, 2, (.cons (.whl (.val (.prim .ne (.cons (.var 1) (.cons (.cst (.int 0)) .nil)))) (.cons (.asg (.two 0 1) (.prim .tup (.cons (.var 1) (.cons (.prim .mod (.cons (.var 0) (.cons (.var 1) .nil))) .nil)))) .nil)) (.cons (.ret (.var 0)) .nil))⟩
/-- 101: need_pair(pair), slots pair one (k41) -/
def f_need_pair : Fd := ⟨1, 2, (.cons .never (.cons (.ifs (.val (.prim .ne (.cons (.call 100 (.cons (.prim .ix (.cons (.var 0) (.cons (.cst (.int 0)) .nil))) (.cons (.prim .ix (.cons (.var 0) (.cons (.cst (.int 1)) .nil))) .nil))) (.cons (.cst (.int 1)) .nil)))) (.cons .never .nil) .nil) .nil))⟩
/-- 102: pair_of(presses), slots presses letter p q (k41) -/
def f_pair_of : Fd := ⟨1, 4, (.cons (.expr (.call 99 (.cons (.var 0) .nil))) (.cons (.asg (.two 2 3) (.prim .tup (.cons (.cst (.int 1)) (.cons (.cst (.int 1)) .nil)))) (.cons (.for_ (.ofE (.prim .rev (.cons (.var 0) .nil))) (.nm 1) (.cons (.asg (.two 2 3) (.ite (.val (.prim .eq (.cons (.var 1) (.cons (.cst (.str [97])) .nil)))) (.prim .tup (.cons (.prim .add (.cons (.var 2) (.cons (.var 3) .nil))) (.cons (.var 3) .nil))) (.prim .tup (.cons (.var 2) (.cons (.prim .add (.cons (.var 2) (.cons (.var 3) .nil))) .nil))))) .nil)) (.cons (.ret (.prim .tup (.cons (.var 2) (.cons (.var 3) .nil)))) .nil))))⟩
/-- 103: runs_of(pair), slots pair found p q many (k41) -/
def f_runs_of : Fd := ⟨1, 5, (.cons .never (.cons (.whl (.val (.prim .ne (.cons (.var 2) (.cons (.var 3) .nil)))) (.cons (.ifs (.val (.prim .gt (.cons (.var 2) (.cons (.var 3) .nil)))) (.cons (.asg (.nm 4) (.prim .fdiv (.cons (.prim .sub (.cons (.var 2) (.cons (.cst (.int 1)) .nil))) (.cons (.var 3) .nil)))) (.cons (.expr (.meth .list .append (.var 1) (.cons (.prim .tup (.cons (.cst (.str [97])) (.cons (.var 4) .nil))) .nil))) (.cons (.aug 2 .sub (.prim .mul (.cons (.var 4) (.cons (.var 3) .nil)))) .nil))) (.cons (.asg (.nm 4) (.prim .fdiv (.cons (.prim .sub (.cons (.var 3) (.cons (.cst (.int 1)) .nil))) (.cons (.var 2) .nil)))) (.cons (.expr (.meth .list .append (.var 1) (.cons (.prim .tup (.cons (.cst (.str [98])) (.cons (.var 4) .nil))) .nil))) (.cons (.aug 3 .sub (.prim .mul (.cons (.var 4) (.cons (.var 2) .nil)))) .nil)))) .nil)) (.cons (.ret (.var 1)) .nil)))⟩
/-- 104: presses_of_pair(pair), slots pair rows many letter times (k41) -/
def f_presses_of_pair : Fd := ⟨1, 5, (.cons (.expr (.call 101 (.cons (.var 0) .nil))) (.cons (.asg (.nm 1) (.call 103 (.cons (.var 0) .nil))) (.cons (.asg (.nm 2) (.prim .sum1 (.cons (.comp (.ofE (.var 1)) (.two 3 4) [3, 4] .tt (.var 4)) .nil))) (.cons (.ifs (.val (.prim .gt (.cons (.var 2) (.cons (.cst (.int 200)) .nil)))) (.cons .never .nil) .nil) (.cons (.ret (.meth .str .join (.cst (.str [])) (.cons (.comp (.ofE (.var 1)) (.two 3 4) [3, 4] .tt (.prim .mul (.cons (.var 3) (.cons (.var 4) .nil)))) .nil))) .nil)))))⟩
/-- 105: need_up_to(number, most), slots number most (k42) -/
def f_need_up_to : Fd := ⟨2, 2, (.cons .never .nil)⟩
/-- 106: line_there(pair, number), slots pair number p q (k42) -/
def f_line_there : Fd := ⟨2, 4, (.cons (.asg (.two 2 3) (.var 0)) (.cons (.ret (.ite (.val (.prim .ge (.cons (.prim .add (.cons (.prim .mod (.cons (.var 1) (.cons (.prim .add (.cons (.var 2) (.cons (.var 3) .nil))) .nil))) (.cons (.var 3) .nil))) (.cons (.prim .add (.cons (.var 2) (.cons (.var 3) .nil))) .nil)))) (.cst (.str [98])) (.cst (.str [97])))) .nil))⟩
/-- 107: line_letter(pair, place), slots pair place (k42) -/
def f_line_letter : Fd := ⟨2, 2, (.cons (.expr (.call 101 (.cons (.var 0) .nil))) (.cons (.expr (.call 105 (.cons (.var 1) (.cons (.prim .sub (.cons (.prim .add (.cons (.prim .ix (.cons (.var 0) (.cons (.cst (.int 0)) .nil))) (.cons (.prim .ix (.cons (.var 0) (.cons (.cst (.int 1)) .nil))) .nil))) (.cons (.cst (.int 3)) .nil))) .nil)))) (.cons (.ret (.call 106 (.cons (.var 0) (.cons (.prim .mul (.cons (.prim .add (.cons (.var 1) (.cons (.cst (.int 1)) .nil))) (.cons (.prim .ix (.cons (.var 0) (.cons (.cst (.int 1)) .nil))) .nil))) .nil)))) .nil)))⟩
/-- 108: line_ahead(pair, place), slots pair place (k42) -/
def f_line_ahead : Fd := ⟨2, 2, (.cons (.expr (.call 101 (.cons (.var 0) .nil))) (.cons (.expr (.call 105 (.cons (.var 1) (.cons (.prim .sub (.cons (.prim .add (.cons (.prim .ix (.cons (.var 0) (.cons (.cst (.int 0)) .nil))) (.cons (.prim .ix (.cons (.var 0) (.cons (.cst (.int 1)) .nil))) .nil))) (.cons (.cst (.int 2)) .nil))) .nil)))) (.cons (.ret (.prim .fdiv (.cons (.prim .mul (.cons (.prim .add (.cons (.var 1) (.cons (.cst (.int 1)) .nil))) (.cons (.prim .ix (.cons (.var 0) (.cons (.cst (.int 1)) .nil))) .nil))) (.cons (.prim .add (.cons (.prim .ix (.cons (.var 0) (.cons (.cst (.int 0)) .nil))) (.cons (.prim .ix (.cons (.var 0) (.cons (.cst (.int 1)) .nil))) .nil))) .nil)))) .nil)))⟩
/-- 109: line_place(pair, number), slots pair number (k42) -/
def f_line_place : Fd := ⟨2, 2, (.cons (.expr (.call 101 (.cons (.var 0) .nil))) (.cons (.expr (.call 105 (.cons (.var 1) (.cons (.prim .sub (.cons (.prim .ix (.cons (.var 0) (.cons (.cst (.int 1)) .nil))) (.cons (.cst (.int 2)) .nil))) .nil)))) (.cons (.ret (.prim .sub (.cons (.prim .sub (.cons (.cst (.int 0)) (.cons (.prim .fdiv (.cons (.prim .sub (.cons (.cst (.int 0)) (.cons (.prim .mul (.cons (.prim .add (.cons (.var 1) (.cons (.cst (.int 1)) .nil))) (.cons (.prim .add (.cons (.prim .ix (.cons (.var 0) (.cons (.cst (.int 0)) .nil))) (.cons (.prim .ix (.cons (.var 0) (.cons (.cst (.int 1)) .nil))) .nil))) .nil))) .nil))) (.cons (.prim .ix (.cons (.var 0) (.cons (.cst (.int 1)) .nil))) .nil))) .nil))) (.cons (.cst (.int 2)) .nil)))) .nil)))⟩
/-- 110: inverse_by(number, base), slots number base one other found later many (k43) -/
def f_inverse_by : Fd := ⟨2, 7, (.cons .never (.cons (.whl (.val (.prim .ne (.cons (.var 3) (.cons (.cst (.int 0)) .nil)))) (.cons (.asg (.nm 6) (.prim .fdiv (.cons (.var 2) (.cons (.var 3) .nil)))) (.cons .never .nil))) (.cons (.ret (.prim .mod (.cons (.var 4) (.cons (.var 1) .nil)))) .nil)))⟩
/-- 111: own_turned(pair), slots pair whole far (k43) -/
def f_own_turned : Fd := ⟨1, 3, (.cons (.asg (.nm 1) (.prim .add (.cons (.prim .ix (.cons (.var 0) (.cons (.cst (.int 0)) .nil))) (.cons (.prim .ix (.cons (.var 0) (.cons (.cst (.int 1)) .nil))) .nil)))) (.cons (.asg (.nm 2) (.call 110 (.cons (.prim .ix (.cons (.var 0) (.cons (.cst (.int 1)) .nil))) (.cons (.var 1) .nil)))) (.cons (.ret (.prim .tup (.cons (.prim .sub (.cons (.var 1) (.cons (.var 2) .nil))) (.cons (.var 2) .nil)))) .nil)))⟩
/-- 112: turned_pair(pair), slots pair (k43) -/
def f_turned_pair : Fd := ⟨1, 1, (.cons (.expr (.call 101 (.cons (.var 0) .nil))) (.cons (.ret (.call 111 (.cons (.var 0) .nil))) .nil))⟩
/-- 113: first_between(step, whole, low, high), slots step whole low high gone found (k43) -/
def f_first_between : Fd := ⟨4, 6, (.cons (.asg (.nm 4) (.prim .lst .nil)) (.cons (.whl (.val (.prim .gt (.cons (.prim .sub (.cons (.cst (.int 0)) (.cons (.prim .mul (.cons (.prim .fdiv (.cons (.prim .sub (.cons (.cst (.int 0)) (.cons (.var 2) .nil))) (.cons (.var 0) .nil))) (.cons (.var 0) .nil))) .nil))) (.cons (.var 3) .nil)))) (.cons (.expr (.meth .list .append (.var 4) (.cons (.prim .tup (.cons (.var 0) (.cons (.var 1) (.cons (.var 2) .nil)))) .nil))) (.cons .never .nil))) (.cons (.asg (.nm 5) (.prim .sub (.cons (.cst (.int 0)) (.cons (.prim .fdiv (.cons (.prim .sub (.cons (.cst (.int 0)) (.cons (.var 2) .nil))) (.cons (.var 0) .nil))) .nil)))) (.cons (.for_ (.ofE (.prim .rev (.cons (.var 4) .nil))) (.three 0 1 2) (.cons (.asg (.nm 5) (.prim .sub (.cons (.cst (.int 0)) (.cons (.prim .fdiv (.cons (.prim .sub (.cons (.prim .sub (.cons (.cst (.int 0)) (.cons (.var 2) .nil))) (.cons (.prim .mul (.cons (.var 1) (.cons (.var 5) .nil))) .nil))) (.cons (.var 0) .nil))) .nil)))) .nil)) (.cons (.ret (.var 5)) .nil)))))⟩
/-- 114: evenness(pair, many), slots pair many far is_more is_less step whole few rest (k43) -/
def f_evenness : Fd := ⟨2, 9, (.cons (.expr (.call 101 (.cons (.var 0) .nil))) (.cons (.asg (.two 5 6) (.prim .tup (.cons (.prim .ix (.cons (.var 0) (.cons (.cst (.int 1)) .nil))) (.cons (.prim .add (.cons (.prim .ix (.cons (.var 0) (.cons (.cst (.int 0)) .nil))) (.cons (.prim .ix (.cons (.var 0) (.cons (.cst (.int 1)) .nil))) .nil))) .nil)))) (.cons (.expr (.call 105 (.cons (.var 1) (.cons (.prim .sub (.cons (.var 6) (.cons (.cst (.int 2)) .nil))) .nil)))) (.cons .never (.cons (.ifs (.val (.prim .eq (.cons (.var 8) (.cons (.cst (.int 0)) .nil)))) (.cons (.ret (.prim .tup (.cons (.var 7) (.cons (.var 7) .nil)))) .nil) .nil) (.cons (.asg (.nm 2) (.prim .sub (.cons (.prim .sub (.cons (.var 6) (.cons (.cst (.int 1)) .nil))) (.cons (.var 1) .nil)))) (.cons (.asg (.nm 3) (.prim .le (.cons (.call 113 (.cons (.var 5) (.cons (.var 6) (.cons (.prim .sub (.cons (.var 6) (.cons (.var 8) .nil))) (.cons (.prim .sub (.cons (.var 6) (.cons (.cst (.int 1)) .nil))) .nil))))) (.cons (.var 2) .nil)))) (.cons (.asg (.nm 4) (.andv (.prim .lt (.cons (.var 8) (.cons (.prim .sub (.cons (.var 6) (.cons (.cst (.int 1)) .nil))) .nil))) (.prim .le (.cons (.call 113 (.cons (.var 5) (.cons (.var 6) (.cons (.cst (.int 1)) (.cons (.prim .sub (.cons (.prim .sub (.cons (.var 6) (.cons (.var 8) .nil))) (.cons (.cst (.int 1)) .nil))) .nil))))) (.cons (.var 2) .nil))))) (.cons .never .nil)))))))))⟩
/-- 115: parents(pair), slots pair size whole found many (k45) -/
def f_parents : Fd := ⟨1, 5, (.cons (.expr (.call 101 (.cons (.var 0) .nil))) (.cons (.ifs (.val (.prim .inn (.cons (.cst (.int 1)) (.cons (.var 0) .nil)))) (.cons .never .nil) .nil) (.cons (.asg (.two 2 3) (.prim .tup (.cons (.prim .add (.cons (.prim .ix (.cons (.var 0) (.cons (.cst (.int 0)) .nil))) (.cons (.prim .ix (.cons (.var 0) (.cons (.cst (.int 1)) .nil))) .nil))) (.cons (.prim .lst .nil) .nil)))) (.cons (.for_ (.ofE (.call 111 (.cons (.var 0) .nil))) (.nm 1) (.cons (.asg (.nm 4) (.prim .add (.cons (.prim .fdiv (.cons (.prim .mul (.cons (.prim .sub (.cons (.var 1) (.cons (.cst (.int 1)) .nil))) (.cons (.prim .ix (.cons (.var 0) (.cons (.cst (.int 1)) .nil))) .nil))) (.cons (.var 2) .nil))) (.cons (.cst (.int 1)) .nil)))) (.cons (.expr (.meth .list .append (.var 3) (.cons (.prim .tup (.cons (.prim .sub (.cons (.var 1) (.cons (.var 4) .nil))) (.cons (.var 4) .nil))) .nil))) .nil))) (.cons (.ret (.prim .toTuple (.cons (.var 3) .nil))) .nil)))))⟩
/-- 116: midst(pair), slots pair (k45) -/
def f_midst : Fd := ⟨1, 1, (.cons (.expr (.call 101 (.cons (.var 0) .nil))) (.cons (.ifs (.val (.prim .eq (.cons (.prim .mod (.cons (.prim .add (.cons (.prim .ix (.cons (.var 0) (.cons (.cst (.int 0)) .nil))) (.cons (.prim .ix (.cons (.var 0) (.cons (.cst (.int 1)) .nil))) .nil))) (.cons (.cst (.int 2)) .nil))) (.cons (.cst (.int 0)) .nil)))) (.cons (.ret (.cst (.str []))) .nil) .nil) (.cons (.ret (.ite (.val (.prim .eq (.cons (.prim .mod (.cons (.prim .ix (.cons (.var 0) (.cons (.cst (.int 0)) .nil))) (.cons (.cst (.int 2)) .nil))) (.cons (.cst (.int 0)) .nil)))) (.cst (.str [97])) (.cst (.str [98])))) .nil)))⟩
/-- 117: all_rolled(pair), slots pair whole found number place (k46) -/
def f_all_rolled : Fd := ⟨1, 5, (.cons (.expr (.call 101 (.cons (.var 0) .nil))) (.cons (.asg (.nm 1) (.prim .add (.cons (.prim .ix (.cons (.var 0) (.cons (.cst (.int 0)) .nil))) (.cons (.prim .ix (.cons (.var 0) (.cons (.cst (.int 1)) .nil))) .nil)))) (.cons (.ifs (.val (.prim .gt (.cons (.var 1) (.cons (.cst (.int 200)) .nil)))) (.cons .never .nil) .nil) (.cons (.asg (.nm 2) (.prim .lst .nil)) (.cons (.for_ (.call .range1 (.cons (.var 1) .nil)) (.nm 3) (.cons (.expr (.meth .list .append (.var 2) (.cons (.meth .str .join (.cst (.str [])) (.cons (.comp (.call .range1 (.cons (.var 1) .nil)) (.nm 4) [4] .tt (.call 106 (.cons (.var 0) (.cons (.prim .add (.cons (.var 3) (.cons (.prim .mul (.cons (.var 4) (.cons (.prim .ix (.cons (.var 0) (.cons (.cst (.int 1)) .nil))) .nil))) .nil))) .nil)))) .nil)) .nil))) .nil)) (.cons (.ret (.prim .toTuple (.cons (.var 2) .nil))) .nil))))))⟩
/-- 118: rolled_start(pair, number), slots pair number whole (k46) -/
def f_rolled_start : Fd := ⟨2, 3, (.cons (.expr (.call 101 (.cons (.var 0) .nil))) (.cons (.asg (.nm 2) (.prim .add (.cons (.prim .ix (.cons (.var 0) (.cons (.cst (.int 0)) .nil))) (.cons (.prim .ix (.cons (.var 0) (.cons (.cst (.int 1)) .nil))) .nil)))) (.cons (.expr (.call 105 (.cons (.var 1) (.cons (.prim .sub (.cons (.var 2) (.cons (.cst (.int 1)) .nil))) .nil)))) (.cons (.ret (.prim .mod (.cons (.prim .mul (.cons (.var 1) (.cons (.call 110 (.cons (.prim .ix (.cons (.var 0) (.cons (.cst (.int 1)) .nil))) (.cons (.var 2) .nil))) .nil))) (.cons (.var 2) .nil)))) .nil))))⟩
/-- 119: rolled_letter(pair, number, place), slots pair number place whole (k46) -/
def f_rolled_letter : Fd := ⟨3, 4, (.cons (.expr (.call 101 (.cons (.var 0) .nil))) (.cons (.asg (.nm 3) (.prim .add (.cons (.prim .ix (.cons (.var 0) (.cons (.cst (.int 0)) .nil))) (.cons (.prim .ix (.cons (.var 0) (.cons (.cst (.int 1)) .nil))) .nil)))) (.cons (.expr (.call 105 (.cons (.var 1) (.cons (.prim .sub (.cons (.var 3) (.cons (.cst (.int 1)) .nil))) .nil)))) (.cons (.expr (.call 105 (.cons (.var 2) (.cons (.prim .sub (.cons (.var 3) (.cons (.cst (.int 1)) .nil))) .nil)))) (.cons (.ret (.call 106 (.cons (.var 0) (.cons (.prim .add (.cons (.var 1) (.cons (.prim .mul (.cons (.var 2) (.cons (.prim .ix (.cons (.var 0) (.cons (.cst (.int 1)) .nil))) .nil))) .nil))) .nil)))) .nil)))))⟩
/-- 120: carried(presses, letter, stand), slots presses letter stand (k49) -/
def f_carried : Fd := ⟨3, 3, (.cons (.ret (.prim .sub (.cons (.prim .mul (.cons (.cst (.int 2)) (.cons (.var 2) .nil))) (.cons (.call 18 (.cons (.var 0) (.cons (.var 1) (.cons (.var 2) .nil)))) .nil)))) .nil)⟩
/-- 121: part_at(presses, stand), slots presses stand (k49) -/
def f_part_at : Fd := ⟨2, 2, (.cons (.ifs (.val (.prim .eq (.cons (.var 1) (.cons (.call 6 (.cons (.var 0) .nil)) .nil)))) (.cons (.ret (.prim .tup (.cons (.call 6 (.cons (.prim (.cut true false) (.cons (.var 0) (.cons (.cst (.int 1)) .nil))) .nil)) (.cons (.cst (.int 1)) .nil)))) .nil) .nil) (.cons (.ret (.call 34 (.cons (.var 0) (.cons (.cst (.int 1)) (.cons (.var 1) .nil))))) .nil))⟩
/-- 122: alike_at(presses, one, other), slots presses one other number steps rest many at first second letter (k52) -/
def f_alike_at : Fd := ⟨3, 11, (.cons (.asg (.two 4 5) (.prim .tup (.cons (.prim .lst .nil) (.cons (.var 0) .nil)))) (.cons (.whl (.val (.prim .ne (.cons (.var 5) (.cons (.cst (.str [])) .nil)))) (.cons .never (.cons (.asg (.two 10 5) (.prim .tup (.cons (.prim .ix (.cons (.var 5) (.cons (.cst (.int 0)) .nil))) (.cons (.prim (.cut true false) (.cons (.var 5) (.cons (.cst (.int 1)) .nil))) .nil)))) (.cons (.ifs (.val (.prim .eq (.cons (.prim .ix (.cons (.var 8) (.cons (.cst (.int 1)) .nil))) (.cons (.prim .ix (.cons (.var 9) (.cons (.cst (.int 1)) .nil))) .nil)))) (.cons (.asg (.two 1 2) (.prim .tup (.cons (.prim .ix (.cons (.var 8) (.cons (.cst (.int 0)) .nil))) (.cons (.prim .ix (.cons (.var 9) (.cons (.cst (.int 0)) .nil))) .nil)))) .nil) (.cons (.ifs (.and (.val (.prim .gt (.cons (.prim .ix (.cons (.var 8) (.cons (.cst (.int 0)) .nil))) (.cons (.cst (.int 0)) .nil)))) (.val (.prim .eq (.cons (.call 9 (.cons (.var 5) (.cons (.prim .sub (.cons (.prim .ix (.cons (.var 8) (.cons (.cst (.int 0)) .nil))) (.cons (.cst (.int 1)) .nil))) .nil))) (.cons (.var 10) .nil))))) (.cons (.asg (.two 1 2) (.prim .tup (.cons (.prim .sub (.cons (.prim .ix (.cons (.var 8) (.cons (.cst (.int 0)) .nil))) (.cons (.cst (.int 1)) .nil))) (.cons (.prim .ix (.cons (.var 9) (.cons (.cst (.int 0)) .nil))) .nil)))) .nil) (.cons .brk .nil)) .nil)) (.cons (.expr (.meth .list .append (.var 4) (.cons (.prim .ix (.cons (.var 9) (.cons (.cst (.int 1)) .nil))) .nil))) .nil))))) (.cons (.asg (.two 6 7) (.prim .tup (.cons (.prim .len (.cons (.var 4) .nil)) (.cons (.cst (.int 0)) .nil)))) (.cons (.for_ (.call .range3 (.cons (.prim .sub (.cons (.var 6) (.cons (.cst (.int 1)) .nil))) (.cons (.prim .neg (.cons (.cst (.int 1)) .nil)) (.cons (.prim .neg (.cons (.cst (.int 1)) .nil)) .nil)))) (.nm 3) (.cons (.asg (.nm 7) (.prim .add (.cons (.call 120 (.cons (.prim (.cut true true) (.cons (.var 0) (.cons (.prim .add (.cons (.var 3) (.cons (.cst (.int 1)) .nil))) (.cons (.var 6) .nil)))) (.cons (.prim .ix (.cons (.var 0) (.cons (.var 3) .nil))) (.cons (.var 7) .nil)))) (.cons (.prim .ix (.cons (.var 4) (.cons (.var 3) .nil))) .nil)))) .nil)) (.cons (.ret (.prim .tup (.cons (.var 6) (.cons (.var 7) .nil)))) .nil)))))⟩
/-- 123: pairs_about(presses, many), slots presses many rest more (k54) -/
def f_pairs_about : Fd := ⟨2, 4, (.cons (.expr (.call 3 (.cons (.var 0) .nil))) (.cons .never (.cons (.asg (.nm 2) (.prim (.cut true false) (.cons (.var 0) (.cons (.var 1) .nil)))) (.cons (.ifs (.val (.prim .eq (.cons (.var 2) (.cons (.cst (.str [])) .nil)))) (.cons (.ret (.cst (.int 0))) .nil) .nil) (.cons (.asg (.nm 3) (.prim .sub (.cons (.call 6 (.cons (.var 2) .nil)) (.cons (.call 6 (.cons (.prim (.cut true false) (.cons (.var 2) (.cons (.cst (.int 1)) .nil))) .nil)) .nil)))) (.cons (.ret (.prim .mul (.cons (.prim .mul (.cons (.prim .add (.cons (.call 6 (.cons (.prim (.cut false true) (.cons (.var 0) (.cons (.var 1) .nil))) .nil)) (.cons (.cst (.int 1)) .nil))) (.cons (.var 3) .nil))) (.cons (.var 3) .nil)))) .nil))))))⟩
/-- 124: runs_of(presses), slots presses found letter (k57) -/
def f_runs_of_1 : Fd := ⟨1, 3, (.cons (.asg (.nm 1) (.prim .lst .nil)) (.cons (.for_ (.ofE (.var 0)) (.nm 2) (.cons (.ifs (.and (.val (.prim .ne (.cons (.var 1) (.cons (.prim .lst .nil) .nil)))) (.val (.prim .eq (.cons (.prim .ix (.cons (.prim .ix (.cons (.var 1) (.cons (.prim .neg (.cons (.cst (.int 1)) .nil)) .nil))) (.cons (.cst (.int 0)) .nil))) (.cons (.var 2) .nil))))) (.cons (.asgIx (.var 1) (.prim .neg (.cons (.cst (.int 1)) .nil)) (.prim .tup (.cons (.var 2) (.cons (.prim .add (.cons (.prim .ix (.cons (.prim .ix (.cons (.var 1) (.cons (.prim .neg (.cons (.cst (.int 1)) .nil)) .nil))) (.cons (.cst (.int 1)) .nil))) (.cons (.cst (.int 1)) .nil))) .nil)))) .nil) (.cons (.expr (.meth .list .append (.var 1) (.cons (.prim .tup (.cons (.var 2) (.cons (.cst (.int 1)) .nil))) .nil))) .nil)) .nil)) (.cons (.ret (.var 1)) .nil)))⟩
/-- 125: runs_text(presses), slots presses words letter many (k57) -/
def f_runs_text : Fd := ⟨1, 4, (.cons (.expr (.call 3 (.cons (.var 0) .nil))) (.cons .never (.cons (.ret (.ite (.val (.prim .ne (.cons (.var 1) (.cons (.prim .lst .nil) .nil)))) (.meth .str .join (.cst (.str [32])) (.cons (.var 1) .nil)) (.cst (.str [45])))) .nil)))⟩
/-- 126: text_text(text), slots text (k57) -/
def f_text_text : Fd := ⟨1, 1, (.cons (.expr (.call 21 (.cons (.var 0) .nil))) (.cons (.ret (.ite (.val (.prim .ne (.cons (.var 0) (.cons (.cst (.str [])) .nil)))) (.var 0) (.cst (.str [45])))) .nil))⟩
/-- 127: numbers_text(thing, many, least, word, between), slots thing many least word between one (k57) -/
def f_numbers_text : Fd := ⟨5, 6, (.cons .never (.cons .never .nil))⟩
/-- 128: home_text(pair), slots pair (k57) -/
def f_home_text : Fd := ⟨1, 1, (.cons (.ret (.call 127 (.cons (.var 0) (.cons (.cst (.int 2)) (.cons (.cst (.int 0)) (.cons (.cst (.str [104, 111, 109, 101])) (.cons (.cst (.str [32])) .nil))))))) .nil)⟩
/-- 129: triple_text(triple), slots triple (k57) -/
def f_triple_text : Fd := ⟨1, 1, (.cons (.ret (.call 127 (.cons (.var 0) (.cons (.cst (.int 3)) (.cons (.cst (.int 0)) (.cons (.cst (.str [116, 114, 105, 112, 108, 101])) (.cons (.cst (.str [32])) .nil))))))) .nil)⟩
/-- 130: pair_text(pair), slots pair (k57) -/
def f_pair_text : Fd := ⟨1, 1, (.cons (.ret (.call 127 (.cons (.var 0) (.cons (.cst (.int 2)) (.cons (.cst (.int 1)) (.cons (.cst (.str [112, 97, 105, 114])) (.cons (.cst (.str [47])) .nil))))))) .nil)⟩
/-- 131: address_text(digits), slots digits digit (k57) -/
def f_address_text : Fd := ⟨1, 2, (.cons (.ifs (.or (.not (.val (.prim (.isi .tuple) (.cons (.var 0) .nil)))) (.val (.prim .gt (.cons (.prim .len (.cons (.var 0) .nil)) (.cons (.cst (.int 200)) .nil))))) (.cons .never .nil) .nil) (.cons .never (.cons .never .nil)))⟩
/-- 132: words_in(text), slots text (k57) -/
def f_words_in : Fd := ⟨1, 1, (.cons (.ifs (.not (.val (.prim (.isi .str) (.cons (.var 0) .nil)))) (.cons .never .nil) .nil) (.cons .never .nil))⟩
/-- 133: figures_in(word), slots word sign (k57) -/
def f_figures_in : Fd := ⟨1, 2, (.cons (.ifs (.or (.val (.prim .eq (.cons (.var 0) (.cons (.cst (.str [])) .nil)))) (.or (.val (.prim .gt (.cons (.prim .len (.cons (.var 0) .nil)) (.cons (.cst (.int 4000)) .nil)))) (.val (.prim .ne (.cons (.comp (.ofE (.var 0)) (.nm 1) [1] (.val (.prim .nin (.cons (.var 1) (.cons (.cst (.str [48, 49, 50, 51, 52, 53, 54, 55, 56, 57])) .nil)))) (.var 1)) (.cons (.prim .lst .nil) .nil)))))) (.cons (.ret (.cst .non)) .nil) .nil) (.cons (.ret (.ite (.or (.val (.prim .eq (.cons (.var 0) (.cons (.cst (.str [48])) .nil)))) (.val (.prim .ne (.cons (.prim .ix (.cons (.var 0) (.cons (.cst (.int 0)) .nil))) (.cons (.cst (.str [48])) .nil))))) (.prim .toInt (.cons (.var 0) .nil)) (.cst .non))) .nil))⟩
/-- 134: need_end(words, many), slots words many (k57) -/
def f_need_end : Fd := ⟨2, 2, (.cons (.ifs (.val (.prim .gt (.cons (.prim .len (.cons (.var 0) .nil)) (.cons (.var 1) .nil)))) (.cons .never .nil) .nil) .nil)⟩
/-- 135: run_in(word, ahead), slots word ahead many (k57) -/
def f_run_in : Fd := ⟨2, 3, (.cons (.ifs (.or (.not (.val (.call 1 (.cons (.prim (.cut false true) (.cons (.var 0) (.cons (.cst (.int 1)) .nil))) .nil)))) (.val (.prim .eq (.cons (.prim .ix (.cons (.var 0) (.cons (.cst (.int 0)) .nil))) (.cons (.var 1) .nil))))) (.cons (.ret (.cst .non)) .nil) .nil) (.cons (.asg (.nm 2) (.ite (.val (.prim .eq (.cons (.prim .len (.cons (.var 0) .nil)) (.cons (.cst (.int 1)) .nil)))) (.cst (.int 1)) (.call 133 (.cons (.prim (.cut true false) (.cons (.var 0) (.cons (.cst (.int 1)) .nil))) .nil)))) (.cons (.ret (.ite (.and (.val (.prim .isNN (.cons (.var 2) .nil))) (.or (.val (.prim .eq (.cons (.prim .len (.cons (.var 0) .nil)) (.cons (.cst (.int 1)) .nil)))) (.val (.prim .gt (.cons (.var 2) (.cons (.cst (.int 1)) .nil)))))) (.var 2) (.cst .non))) .nil)))⟩
/-- 136: runs_in(text), slots text words found spot word many (k57) -/
def f_runs_in : Fd := ⟨1, 6, (.cons (.asg (.nm 1) (.call 132 (.cons (.var 0) .nil))) (.cons (.ifs (.val (.prim .eq (.cons (.prim .ix (.cons (.var 1) (.cons (.cst (.int 0)) .nil))) (.cons (.cst (.str [45])) .nil)))) (.cons (.expr (.call 134 (.cons (.var 1) (.cons (.cst (.int 1)) .nil)))) (.cons (.ret (.cst (.str []))) .nil)) .nil) (.cons (.asg (.nm 2) (.cst (.str []))) (.cons (.for_ (.call .enum (.cons (.var 1) .nil)) (.two 3 4) (.cons (.asg (.nm 5) (.call 135 (.cons (.var 4) (.cons (.prim (.cut true false) (.cons (.var 2) (.cons (.prim .neg (.cons (.cst (.int 1)) .nil)) .nil))) .nil)))) (.cons (.ifs (.or (.val (.prim .isN (.cons (.var 5) .nil))) (.val (.prim .gt (.cons (.prim .add (.cons (.prim .len (.cons (.var 2) .nil)) (.cons (.var 5) .nil))) (.cons (.cst (.int 200)) .nil))))) (.cons .never .nil) .nil) (.cons (.aug 2 .add (.prim .mul (.cons (.prim .ix (.cons (.var 4) (.cons (.cst (.int 0)) .nil))) (.cons (.var 5) .nil)))) .nil)))) (.cons (.ret (.var 2)) .nil)))))⟩
/-- 137: text_in(text), slots text words (k57) -/
def f_text_in : Fd := ⟨1, 2, (.cons (.asg (.nm 1) (.call 132 (.cons (.var 0) .nil))) (.cons (.ifs (.and (.val (.prim .ne (.cons (.prim .ix (.cons (.var 1) (.cons (.cst (.int 0)) .nil))) (.cons (.cst (.str [45])) .nil)))) (.or (.val (.prim .eq (.cons (.prim .ix (.cons (.var 1) (.cons (.cst (.int 0)) .nil))) (.cons (.cst (.str [])) .nil)))) (.not (.val (.call 23 (.cons (.prim .ix (.cons (.var 1) (.cons (.cst (.int 0)) .nil))) .nil)))))) (.cons .never .nil) .nil) (.cons (.expr (.call 134 (.cons (.var 1) (.cons (.cst (.int 1)) .nil)))) (.cons (.ret (.ite (.val (.prim .ne (.cons (.prim .ix (.cons (.var 1) (.cons (.cst (.int 0)) .nil))) (.cons (.cst (.str [45])) .nil)))) (.prim .ix (.cons (.var 1) (.cons (.cst (.int 0)) .nil))) (.cst (.str [])))) .nil))))⟩
/-- 138: numbers_in(text, many), slots text many spot words found number (k57) -/
def f_numbers_in : Fd := ⟨2, 6, (.cons (.asg (.two 3 4) (.prim .tup (.cons (.call 132 (.cons (.var 0) .nil)) (.cons (.prim .lst .nil) .nil)))) (.cons (.for_ (.call .range1 (.cons (.var 1) .nil)) (.nm 2) (.cons (.asg (.nm 5) (.ite (.val (.prim .lt (.cons (.var 2) (.cons (.prim .len (.cons (.var 3) .nil)) .nil)))) (.call 133 (.cons (.prim .ix (.cons (.var 3) (.cons (.var 2) .nil))) .nil)) (.cst .non))) (.cons (.ifs (.val (.prim .isN (.cons (.var 5) .nil))) (.cons .never .nil) .nil) (.cons (.expr (.meth .list .append (.var 4) (.cons (.var 5) .nil))) .nil)))) (.cons (.expr (.call 134 (.cons (.var 3) (.cons (.var 1) .nil)))) (.cons (.ret (.prim .toTuple (.cons (.var 4) .nil))) .nil))))⟩
/-- 139: home_in(text), slots text (k57) -/
def f_home_in : Fd := ⟨1, 1, (.cons (.ret (.call 138 (.cons (.var 0) (.cons (.cst (.int 2)) .nil)))) .nil)⟩
/-- 140: triple_in(text), slots text (k57) -/
def f_triple_in : Fd := ⟨1, 1, (.cons (.ret (.call 138 (.cons (.var 0) (.cons (.cst (.int 3)) .nil)))) .nil)⟩
/-- 141: address_in(text), slots text words word sign (k57) -/
def f_address_in : Fd := ⟨1, 4, (.cons (.asg (.nm 1) (.call 132 (.cons (.var 0) .nil))) (.cons (.asg (.nm 2) (.ite (.val (.prim .ne (.cons (.prim .ix (.cons (.var 1) (.cons (.cst (.int 0)) .nil))) (.cons (.cst (.str [45])) .nil)))) (.prim .ix (.cons (.var 1) (.cons (.cst (.int 0)) .nil))) (.cst (.str [])))) (.cons (.ifs (.or (.val (.prim .eq (.cons (.prim .ix (.cons (.var 1) (.cons (.cst (.int 0)) .nil))) (.cons (.cst (.str [])) .nil)))) (.or (.val (.prim .gt (.cons (.prim .len (.cons (.var 2) .nil)) (.cons (.cst (.int 200)) .nil)))) (.val (.prim .ne (.cons (.comp (.ofE (.var 2)) (.nm 3) [3] (.val (.prim .nin (.cons (.var 3) (.cons (.cst (.str [48, 49])) .nil)))) (.var 3)) (.cons (.prim .lst .nil) .nil)))))) (.cons .never .nil) .nil) (.cons (.expr (.call 134 (.cons (.var 1) (.cons (.cst (.int 1)) .nil)))) (.cons (.ret (.prim .toTuple (.cons (.comp (.ofE (.var 2)) (.nm 3) [3] .tt (.prim .toInt (.cons (.var 3) .nil))) .nil))) .nil)))))⟩
/-- 142: pair_in(text), slots text words numbers part (k57) -/
def f_pair_in : Fd := ⟨1, 4, (.cons (.asg (.nm 1) (.call 132 (.cons (.var 0) .nil))) (.cons .never (.cons (.ifs (.or (.val (.prim .ne (.cons (.prim .len (.cons (.var 2) .nil)) (.cons (.cst (.int 2)) .nil)))) (.or (.val (.prim .inn (.cons (.cst .non) (.cons (.var 2) .nil)))) (.val (.prim .inn (.cons (.cst (.int 0)) (.cons (.var 2) .nil)))))) (.cons .never .nil) .nil) (.cons (.expr (.call 134 (.cons (.var 1) (.cons (.cst (.int 1)) .nil)))) (.cons (.ret (.prim .toTuple (.cons (.var 2) .nil))) .nil)))))⟩
/-- 143: found_home(copies, piece), slots copies piece many head around at text begin (k58) -/
def f_found_home_1 : Fd := ⟨2, 8, (.cons (.ifs (.val (.prim .eq (.cons (.var 1) (.cons (.cst (.str [])) .nil)))) (.cons (.ret (.prim .tup (.cons (.cst (.int 0)) (.cons (.cst (.int 0)) .nil)))) .nil) .nil) (.cons .never (.cons (.for_ (.call .range1 (.cons (.prim .len (.cons (.var 0) .nil)) .nil)) (.nm 2) (.cons .never (.cons (.asg (.nm 5) (.meth .str .find (.var 6) (.cons (.var 1) .nil))) (.cons (.ifs (.val (.prim .ge (.cons (.var 5) (.cons (.cst (.int 0)) .nil)))) (.cons (.ret (.prim .tup (.cons (.prim .add (.cons (.var 2) (.cons (.cst (.int 1)) .nil))) (.cons (.prim .add (.cons (.var 7) (.cons (.var 5) .nil))) .nil)))) .nil) .nil) .nil)))) (.cons (.ret (.cst .non)) .nil))))⟩
/-- 144: home(presses, piece), slots presses piece copies found (k58) -/
def f_home_1 : Fd := ⟨2, 4, (.cons .never (.cons (.expr (.call 59 (.cons (.var 1) .nil))) (.cons (.asg (.nm 3) (.call 143 (.cons (.var 2) (.cons (.var 1) .nil)))) (.cons (.ifs (.val (.prim .isN (.cons (.var 3) .nil))) (.cons .never .nil) .nil) (.cons (.ret (.var 3)) .nil)))))⟩
/-- 145: how_often(presses, piece), slots presses piece copies found (k58) -/
def f_how_often_1 : Fd := ⟨2, 4, (.cons .never (.cons (.expr (.call 59 (.cons (.var 1) .nil))) (.cons (.asg (.nm 3) (.call 143 (.cons (.var 2) (.cons (.var 1) .nil)))) (.cons (.ret (.ite (.val (.prim .isN (.cons (.var 3) .nil))) (.cst (.int 0)) (.prim .add (.cons (.call 6 (.cons (.prim (.cut true false) (.cons (.var 0) (.cons (.prim .ix (.cons (.var 3) (.cons (.cst (.int 0)) .nil))) .nil))) .nil)) (.cons (.cst (.int 1)) .nil))))) .nil))))⟩
/-- 146: place_at(presses, piece, number), slots presses piece number many at (k58) -/
def f_place_at_1 : Fd := ⟨3, 5, (.cons (.asg (.two 3 4) (.call 144 (.cons (.var 0) (.cons (.var 1) .nil)))) (.cons .never (.cons (.ret (.prim .add (.cons (.call 35 (.cons (.var 0) (.cons (.var 3) (.cons (.var 2) .nil)))) (.cons (.var 4) .nil)))) .nil)))⟩
/-- 147: parted_at(presses, piece), slots presses piece many at (k58) -/
def f_parted_at_1 : Fd := ⟨2, 4, (.cons (.asg (.two 2 3) (.call 144 (.cons (.var 0) (.cons (.var 1) .nil)))) (.cons (.ret (.prim .tup (.cons (.prim (.cut false true) (.cons (.var 0) (.cons (.var 2) .nil))) (.cons (.prim (.cut true false) (.cons (.var 0) (.cons (.var 2) .nil))) (.cons (.var 3) .nil))))) .nil))⟩
/-- 148: gap_presses(presses, piece), slots presses piece (k58) -/
def f_gap_presses_1 : Fd := ⟨2, 2, (.cons (.ret (.prim .ix (.cons (.call 147 (.cons (.var 0) (.cons (.var 1) .nil))) (.cons (.cst (.int 1)) .nil)))) .nil)⟩
/-- 149: gap_letter(presses, piece, number), slots presses piece number behind (k58) -/
def f_gap_letter_1 : Fd := ⟨3, 4, (.cons (.asg (.nm 3) (.call 148 (.cons (.var 0) (.cons (.var 1) .nil)))) (.cons .never (.cons (.ret (.call 9 (.cons (.var 3) (.cons (.var 2) .nil)))) .nil)))⟩
/-- 150: gap(presses, piece, number), slots presses piece number (k58) -/
def f_gap_1 : Fd := ⟨3, 3, (.cons (.ret (.call 28 (.cons (.prim .ix (.cons (.call 147 (.cons (.var 0) (.cons (.var 1) .nil))) (.cons (.cst (.int 0)) .nil))) (.cons (.call 149 (.cons (.var 0) (.cons (.var 1) (.cons (.var 2) .nil)))) .nil)))) .nil)⟩
/-- 151: runs_text(presses), slots presses words letter many (k58) -/
def f_runs_text_1 : Fd := ⟨1, 4, (.cons (.expr (.call 3 (.cons (.var 0) .nil))) (.cons .never (.cons (.ret (.ite (.val (.prim .ne (.cons (.var 1) (.cons (.prim .lst .nil) .nil)))) (.meth .str .join (.cst (.str [32])) (.cons (.var 1) .nil)) (.cst (.str [45])))) .nil)))⟩
/-- 152: pair_in(text), slots text words numbers part (k58) -/
def f_pair_in_1 : Fd := ⟨1, 4, (.cons (.asg (.nm 1) (.call 132 (.cons (.var 0) .nil))) (.cons .never (.cons (.ifs (.or (.val (.prim .ne (.cons (.prim .len (.cons (.var 2) .nil)) (.cons (.cst (.int 2)) .nil)))) (.or (.val (.prim .inn (.cons (.cst .non) (.cons (.var 2) .nil)))) (.val (.prim .inn (.cons (.cst (.int 0)) (.cons (.var 2) .nil)))))) (.cons .never .nil) .nil) (.cons (.expr (.call 134 (.cons (.var 1) (.cons (.cst (.int 1)) .nil)))) (.cons (.ret (.prim .toTuple (.cons (.var 2) .nil))) .nil)))))⟩
/-- 153: presses_of_pair(pair), slots pair rows many letter times (k58) -/
def f_presses_of_pair_1 : Fd := ⟨1, 5, (.cons (.expr (.call 101 (.cons (.var 0) .nil))) (.cons .never (.cons (.asg (.nm 2) (.prim .sum1 (.cons (.comp (.ofE (.var 1)) (.two 3 4) [3, 4] .tt (.var 4)) .nil))) (.cons (.ifs (.val (.prim .gt (.cons (.var 2) (.cons (.cst (.int 200)) .nil)))) (.cons .never .nil) .nil) (.cons (.ret (.meth .str .join (.cst (.str [])) (.cons (.comp (.ofE (.var 1)) (.two 3 4) [3, 4] .tt (.prim .mul (.cons (.var 3) (.cons (.var 4) .nil)))) .nil))) .nil)))))⟩
/-- 154: number_in(rows, triple), slots rows triple size grown ahead (k58) -/
def f_number_in_1 : Fd := ⟨2, 5, (.cons (.ifs (.val (.prim .eq (.cons (.prim .ix (.cons (.var 1) (.cons (.cst (.int 0)) .nil))) (.cons (.cst (.int 0)) .nil)))) (.cons (.ret (.cst (.int 0))) .nil) .nil) (.cons (.asg (.three 2 3 4) (.prim .ix (.cons (.var 0) (.cons (.prim .sub (.cons (.prim .ix (.cons (.var 1) (.cons (.cst (.int 0)) .nil))) (.cons (.cst (.int 1)) .nil))) .nil)))) (.cons (.ret (.prim .add (.cons (.prim .add (.cons (.var 4) (.cons (.prim .mul (.cons (.prim .ix (.cons (.var 1) (.cons (.cst (.int 1)) .nil))) (.cons (.var 3) .nil))) .nil))) (.cons (.prim .ix (.cons (.var 1) (.cons (.cst (.int 2)) .nil))) .nil)))) .nil)))⟩
/-- 155: number_of(presses, piece), slots presses piece rows many at (k58) -/
def f_number_of_1 : Fd := ⟨2, 5, (.cons (.asg (.two 3 4) (.call 144 (.cons (.var 0) (.cons (.var 1) .nil)))) (.cons (.asg (.nm 2) (.call 87 (.cons (.var 0) .nil))) (.cons .never .nil)))⟩
/-- 156: piece_in(word), slots word found (k58) -/
def f_piece_in : Fd := ⟨1, 2, (.cons (.asg (.nm 1) (.call 137 (.cons (.var 0) .nil))) (.cons (.ifs (.val (.prim .gt (.cons (.prim .len (.cons (.var 1) .nil)) (.cons (.cst (.int 200)) .nil)))) (.cons .never .nil) .nil) (.cons (.ret (.var 1)) .nil)))⟩
/-- 157: all_said(lines), slots lines desk line (k63) -/
def f_all_said : Fd := ⟨1, 3, (.cons .never (.cons .never (.cons .never .nil)))⟩
def progL : List Fd := [f_is_whole, f_is_letter, f_odd_place, f_need_presses, f_lasts_of, f_lengths_of, f_length, f_growths, f_letter_there, f_letter_at, f_window, f_mirror_text, f_need_letter, f_count_there, f_how_many, f_counts, f_counts_by_beginnings, f_ahead_there, f_how_many_ahead, f_need_weights, f_weight, f_need_text, f_turned_text, f_is_text, f_spread, f_unspread, f_need_within, f_added_by, f_block_length, f_first_letters, f_block, f_need_cut, f_digits_of, f_value_of, f_block_of, f_block_start, f_address, f_is_good, f_is_address, f_place_of, f_next_address, f_cuts_of, f_cuts, f_place_by_cuts, f_lengths_by, f_borders, f_periods, f_is_period, f_ties, f_in_common, f_part, f_order, f_below, f_around, f_middles, f_one_more, f_read_back, f_presses_of, f_begun_by, f_need_piece, f_found_home, f_home, f_is_piece, f_how_often, f_place_at, f_stand_ahead, f_forced, f_wall, f_need_window, f_need_spot, f_home_of, f_are_alike, f_times, f_is_mirror, f_alike_from, f_compared, f_alike_far, f_longest, f_parted_at, f_gaps, f_gap_presses, f_gap_letter, f_gap, f_nearest, f_beside, f_followed, f_led, f_squared, f_how_many_unlike, f_need_many, f_how_many_of, f_mirrors_of, f_grown_by, f_is_triple, f_number_in, f_number_by, f_number_of, f_text_of, f_piece_by, f_need_twos, f_shared_part, f_need_pair, f_pair_of, f_runs_of, f_presses_of_pair, f_need_up_to, f_line_there, f_line_letter, f_line_ahead, f_line_place, f_inverse_by, f_own_turned, f_turned_pair, f_first_between, f_evenness, f_parents, f_midst, f_all_rolled, f_rolled_start, f_rolled_letter, f_carried, f_part_at, f_alike_at, f_pairs_about, f_runs_of_1, f_runs_text, f_text_text, f_numbers_text, f_home_text, f_triple_text, f_pair_text, f_address_text, f_words_in, f_figures_in, f_need_end, f_run_in, f_runs_in, f_text_in, f_numbers_in, f_home_in, f_triple_in, f_address_in, f_pair_in, f_found_home_1, f_home_1, f_how_often_1, f_place_at_1, f_parted_at_1, f_gap_presses_1, f_gap_letter_1, f_gap_1, f_runs_text_1, f_pair_in_1, f_presses_of_pair_1, f_number_in_1, f_number_of_1, f_piece_in, f_all_said]
end Mp

set_option linter.all false
set_option maxRecDepth 100000
namespace Mp
/-- 1000: _law_mixed(_law_number, _law_k), slots _law_number _law_k (k01) -/
def h_mixed : Fd := ⟨2, 2, (.cons (.asg (.nm 0) (.prim .mod (.cons (.prim .mul (.cons (.prim .add (.cons (.prim .add (.cons (.prim .mod (.cons (.var 0) (.cons (.cst (.int 2147483647)) .nil))) (.cons (.prim .mul (.cons (.prim .mul (.cons (.cst (.int 7919)) (.cons (.var 1) .nil))) (.cons (.var 1) .nil))) .nil))) (.cons (.prim .mul (.cons (.cst (.int 31)) (.cons (.var 1) .nil))) .nil))) (.cons (.cst (.int 48271)) .nil))) (.cons (.cst (.int 2147483647)) .nil)))) (.cons (.ret (.prim .mod (.cons (.prim .mul (.cons (.var 0) (.cons (.prim .add (.cons (.cst (.int 69621)) (.cons (.prim .mul (.cons (.cst (.int 2)) (.cons (.var 1) .nil))) .nil))) .nil))) (.cons (.cst (.int 2147483629)) .nil)))) .nil))⟩
/-- 1001: _law_stream(_law_cell, _law_k), slots _law_cell _law_k (k01) -/
def h_stream : Fd := ⟨2, 2, (.cons (.ret (.prim .lst (.cons (.ite (.val (.prim .ge (.cons (.var 0) (.cons (.prim .pow (.cons (.cst (.int 10)) (.cons (.cst (.int 18)) .nil))) .nil)))) (.var 0) (.cst (.int 0))) (.cons (.cst (.int 0)) (.cons (.call 1000 (.cons (.var 0) (.cons (.var 1) .nil))) .nil))))) .nil)⟩
/-- 1002: _law_take(_law_stream_here, _law_top), slots _law_stream_here _law_top _law_number (k01) -/
def h_take : Fd := ⟨2, 3, (.cons (.asgIx (.var 0) (.cst (.int 1)) (.prim .add (.cons (.prim .ix (.cons (.var 0) (.cons (.cst (.int 1)) .nil))) (.cons (.cst (.int 1)) .nil)))) (.cons (.ifs (.val (.prim .eq (.cons (.prim .ix (.cons (.var 0) (.cons (.cst (.int 0)) .nil))) (.cons (.cst (.int 0)) .nil)))) (.cons (.ret (.prim .mod (.cons (.call 1000 (.cons (.call 1000 (.cons (.prim .ix (.cons (.var 0) (.cons (.cst (.int 2)) .nil))) (.cons (.prim .ix (.cons (.var 0) (.cons (.cst (.int 1)) .nil))) .nil))) (.cons (.cst (.int 7)) .nil))) (.cons (.var 1) .nil)))) .nil) .nil) (.cons (.asg (.nm 2) (.prim .mod (.cons (.prim .ix (.cons (.var 0) (.cons (.cst (.int 0)) .nil))) (.cons (.var 1) .nil)))) (.cons (.asgIx (.var 0) (.cst (.int 0)) (.prim .fdiv (.cons (.prim .ix (.cons (.var 0) (.cons (.cst (.int 0)) .nil))) (.cons (.var 1) .nil)))) (.cons (.ret (.var 2)) .nil)))))⟩
/-- 1003: _law_signs(_law_stream_here, _law_size), slots _law_stream_here _law_size _law_shift _law_step _law_k (k01) -/
def h_signs : Fd := ⟨2, 5, (.cons (.asg (.two 2 3) (.prim .tup (.cons (.call 1002 (.cons (.var 0) (.cons (.cst (.int 26)) .nil))) (.cons (.prim .add (.cons (.cst (.int 1)) (.cons (.prim .mul (.cons (.cst (.int 2)) (.cons (.call 1002 (.cons (.var 0) (.cons (.cst (.int 6)) .nil))) .nil))) .nil))) .nil)))) (.cons (.ret (.comp (.call .range1 (.cons (.var 1) .nil)) (.nm 4) [4] .tt (.prim .ix (.cons (.cst (.str [97, 98, 99, 100, 101, 102, 103, 104, 105, 106, 107, 108, 109, 110, 111, 112, 113, 114, 115, 116, 117, 118, 119, 120, 121, 122])) (.cons (.prim .mod (.cons (.prim .add (.cons (.var 2) (.cons (.prim .mul (.cons (.var 3) (.cons (.var 4) .nil))) .nil))) (.cons (.cst (.int 26)) .nil))) .nil))))) .nil))⟩
/-- 1004: _law_presses(_law_stream_here, _law_limit), slots _law_stream_here _law_limit _law_signs_here _law_found _law_size _law_run (k01) -/
def h_presses : Fd := ⟨2, 6, (.cons (.asg (.two 2 3) (.prim .tup (.cons (.call 1003 (.cons (.var 0) (.cons (.prim .ix (.cons (.prim .lst (.cons (.cst (.int 1)) (.cons (.cst (.int 2)) (.cons (.cst (.int 3)) (.cons (.cst (.int 5)) (.cons (.cst (.int 26)) .nil)))))) (.cons (.call 1002 (.cons (.var 0) (.cons (.cst (.int 5)) .nil))) .nil))) .nil))) (.cons (.cst (.str [])) .nil)))) (.cons (.asg (.two 4 5) (.prim .tup (.cons (.call 1002 (.cons (.var 0) (.cons (.prim .add (.cons (.var 1) (.cons (.cst (.int 1)) .nil))) .nil))) (.cons (.prim .add (.cons (.cst (.int 1)) (.cons (.call 1002 (.cons (.var 0) (.cons (.cst (.int 4)) .nil))) .nil))) .nil)))) (.cons (.whl (.val (.prim .lt (.cons (.prim .len (.cons (.var 3) .nil)) (.cons (.var 4) .nil)))) (.cons (.asg (.nm 3) (.prim .add (.cons (.var 3) (.cons (.prim .mul (.cons (.prim .ix (.cons (.var 2) (.cons (.call 1002 (.cons (.var 0) (.cons (.prim .len (.cons (.var 2) .nil)) .nil))) .nil))) (.cons (.prim .add (.cons (.cst (.int 1)) (.cons (.call 1002 (.cons (.var 0) (.cons (.var 5) .nil))) .nil))) .nil))) .nil)))) .nil)) (.cons (.ret (.prim (.cut false true) (.cons (.var 3) (.cons (.var 4) .nil)))) .nil))))⟩
/-- 1005: _law_spot(_law_stream_here, _law_size), slots _law_stream_here _law_size _law_found _law_turn _law_way _law_near (k05) -/
def h_spot : Fd := ⟨2, 6, (.cons (.asg (.two 4 5) (.prim .tup (.cons (.call 1002 (.cons (.var 0) (.cons (.cst (.int 5)) .nil))) (.cons (.prim .mod (.cons (.call 1002 (.cons (.var 0) (.cons (.cst (.int 9)) .nil))) (.cons (.var 1) .nil))) .nil)))) (.cons (.ifs (.val (.prim .lt (.cons (.var 4) (.cons (.cst (.int 2)) .nil)))) (.cons (.ret (.prim .ix (.cons (.prim .lst (.cons (.var 5) (.cons (.prim .sub (.cons (.prim .sub (.cons (.var 1) (.cons (.cst (.int 1)) .nil))) (.cons (.var 5) .nil))) .nil))) (.cons (.var 4) .nil)))) .nil) .nil) (.cons (.ifs (.val (.prim .eq (.cons (.var 4) (.cons (.cst (.int 2)) .nil)))) (.cons (.ret (.prim .mod (.cons (.prim .add (.cons (.prim .fdiv (.cons (.var 1) (.cons (.cst (.int 2)) .nil))) (.cons (.var 5) .nil))) (.cons (.var 1) .nil)))) .nil) .nil) (.cons (.asg (.nm 2) (.cst (.int 0))) (.cons (.for_ (.call .range1 (.cons (.cst (.int 9)) .nil)) (.nm 3) (.cons (.asg (.nm 2) (.prim .add (.cons (.prim .mul (.cons (.var 2) (.cons (.prim .pow (.cons (.cst (.int 10)) (.cons (.cst (.int 8)) .nil))) .nil))) (.cons (.call 1002 (.cons (.var 0) (.cons (.prim .pow (.cons (.cst (.int 10)) (.cons (.cst (.int 8)) .nil))) .nil))) .nil)))) .nil)) (.cons (.ret (.prim .mod (.cons (.var 2) (.cons (.var 1) .nil)))) .nil))))))⟩
/-- 1006: _law_mixed(_law_drawn, _law_k), slots _law_drawn _law_k _law_number (k09) -/
def h_mixed_1 : Fd := ⟨2, 3, (.cons (.asg (.nm 2) (.prim .add (.cons (.prim .add (.cons (.prim .mod (.cons (.var 0) (.cons (.prim .ix (.cons (.prim .lst (.cons (.cst (.int 2147483629)) (.cons (.cst (.int 2147483587)) (.cons (.cst (.int 2147483579)) .nil)))) (.cons (.prim .mod (.cons (.var 1) (.cons (.cst (.int 3)) .nil))) .nil))) .nil))) (.cons (.prim .mul (.cons (.cst (.int 104729)) (.cons (.var 1) .nil))) .nil))) (.cons (.cst (.int 17)) .nil)))) (.cons (.ret (.prim .mod (.cons (.prim .mul (.cons (.prim .mod (.cons (.prim .pow (.cons (.var 2) (.cons (.cst (.int 3)) .nil))) (.cons (.cst (.int 2147483647)) .nil))) (.cons (.prim .add (.cons (.cst (.int 48271)) (.cons (.prim .mul (.cons (.cst (.int 2)) (.cons (.var 1) .nil))) .nil))) .nil))) (.cons (.cst (.int 2147483629)) .nil)))) .nil))⟩
/-- 1007: _law_begun(_law_script, _law_k), slots _law_script _law_k _law_drawn _law_behind (k09) -/
def h_begun : Fd := ⟨2, 4, (.cons (.asg (.two 2 3) (.prim (.cut false true) (.cons (.prim .add (.cons (.prim (.cut true true) (.cons (.var 0) (.cons (.var 1) (.cons (.prim .add (.cons (.var 1) (.cons (.cst (.int 2)) .nil))) .nil)))) (.cons (.prim .lst (.cons (.cst (.int 5)) (.cons (.cst (.int 7)) .nil))) .nil))) (.cons (.cst (.int 2)) .nil)))) (.cons .never .nil))⟩
/-- 1008: _law_take(_law_state, _law_count), slots _law_state _law_count _law_number _law_found (k09) -/
def h_take_1 : Fd := ⟨2, 4, (.cons (.ifs (.val (.prim .gt (.cons (.prim .ix (.cons (.var 0) (.cons (.cst (.str [108, 101, 102, 116])) .nil))) (.cons (.cst (.int 0)) .nil)))) (.cons (.asg (.nm 3) (.prim .mod (.cons (.prim .ix (.cons (.var 0) (.cons (.cst (.str [108, 101, 102, 116])) .nil))) (.cons (.var 1) .nil)))) (.cons (.asgIx (.var 0) (.cst (.str [108, 101, 102, 116])) (.prim .fdiv (.cons (.prim .ix (.cons (.var 0) (.cons (.cst (.str [108, 101, 102, 116])) .nil))) (.cons (.var 1) .nil)))) (.cons (.ret (.var 3)) .nil))) .nil) (.cons (.asgIx (.var 0) (.cst (.str [97, 116])) (.prim .add (.cons (.prim .ix (.cons (.var 0) (.cons (.cst (.str [97, 116])) .nil))) (.cons (.cst (.int 1)) .nil)))) (.cons (.asg (.nm 2) (.prim .add (.cons (.prim .mul (.cons (.call 1006 (.cons (.prim .ix (.cons (.var 0) (.cons (.cst (.str [111, 119, 110])) .nil))) (.cons (.prim .ix (.cons (.var 0) (.cons (.cst (.str [97, 116])) .nil))) .nil))) (.cons (.cst (.int 2147483579)) .nil))) (.cons (.call 1006 (.cons (.prim .ix (.cons (.var 0) (.cons (.cst (.str [98, 101, 104, 105, 110, 100])) .nil))) (.cons (.prim .add (.cons (.prim .ix (.cons (.var 0) (.cons (.cst (.str [97, 116])) .nil))) (.cons (.cst (.int 9001)) .nil))) .nil))) .nil)))) (.cons (.ret (.prim .mod (.cons (.prim .fdiv (.cons (.var 2) (.cons (.cst (.int 11)) .nil))) (.cons (.var 1) .nil)))) .nil))))⟩
/-- 1009: _law_of(_law_state, _law_some), slots _law_state _law_some (k09) -/
def h_of : Fd := ⟨2, 2, (.cons (.ret (.prim .ix (.cons (.var 1) (.cons (.call 1008 (.cons (.var 0) (.cons (.prim .len (.cons (.var 1) .nil)) .nil))) .nil)))) .nil)⟩
/-- 1010: _law_signs(_law_state), slots _law_state _law_every _law_first _law_step _law_k (k09) -/
def h_signs_1 : Fd := ⟨1, 5, (.cons (.asg (.two 2 3) (.prim .tup (.cons (.call 1008 (.cons (.var 0) (.cons (.cst (.int 26)) .nil))) (.cons (.call 1009 (.cons (.var 0) (.cons (.prim .lst (.cons (.cst (.int 1)) (.cons (.cst (.int 3)) (.cons (.cst (.int 5)) (.cons (.cst (.int 7)) .nil))))) .nil))) .nil)))) (.cons (.asg (.nm 1) (.cst (.str [97, 98, 99, 100, 101, 102, 103, 104, 105, 106, 107, 108, 109, 110, 111, 112, 113, 114, 115, 116, 117, 118, 119, 120, 121, 122]))) (.cons (.ret (.meth .str .join (.cst (.str [])) (.cons (.comp (.call .range1 (.cons (.prim .add (.cons (.cst (.int 1)) (.cons (.call 1008 (.cons (.var 0) (.cons (.cst (.int 6)) .nil))) .nil))) .nil)) (.nm 4) [4] .tt (.prim .ix (.cons (.var 1) (.cons (.prim .mod (.cons (.prim .add (.cons (.var 2) (.cons (.prim .mul (.cons (.var 3) (.cons (.var 4) .nil))) .nil))) (.cons (.cst (.int 26)) .nil))) .nil)))) .nil))) .nil)))⟩
/-- 1011: _law_pressed(_law_state, _law_signs_here, _law_most), slots _law_state _law_signs_here _law_most _law_found _law_turn (k09) -/
def h_pressed : Fd := ⟨3, 5, (.cons (.asg (.nm 3) (.cst (.str []))) (.cons (.for_ (.call .range1 (.cons (.call 1008 (.cons (.var 0) (.cons (.prim .add (.cons (.var 2) (.cons (.cst (.int 1)) .nil))) .nil))) .nil)) (.nm 4) (.cons (.asg (.nm 3) (.prim .add (.cons (.var 3) (.cons (.prim .mul (.cons (.call 1009 (.cons (.var 0) (.cons (.var 1) .nil))) (.cons (.prim .ix (.cons (.prim .lst (.cons (.cst (.int 1)) (.cons (.cst (.int 1)) (.cons (.cst (.int 1)) (.cons (.cst (.int 2)) (.cons (.prim .add (.cons (.cst (.int 1)) (.cons (.call 1008 (.cons (.var 0) (.cons (.cst (.int 9)) .nil))) .nil))) .nil)))))) (.cons (.call 1008 (.cons (.var 0) (.cons (.cst (.int 5)) .nil))) .nil))) .nil))) .nil)))) .nil)) (.cons (.ret (.prim (.cut false true) (.cons (.var 3) (.cons (.var 2) .nil)))) .nil)))⟩
/-- 1012: _law_closed(_law_own), slots _law_own _law_found _law_sign _law_at _law_k (k09) -/
def h_closed : Fd := ⟨1, 5, (.cons (.asg (.nm 1) (.cst (.str []))) (.cons (.for_ (.ofE (.var 0)) (.nm 2) (.cons (.asg (.nm 1) (.prim .add (.cons (.var 1) (.cons (.var 2) .nil)))) (.cons (.asg (.nm 3) (.prim .min1 (.cons (.comp (.call .range1 (.cons (.prim .len (.cons (.var 1) .nil)) .nil)) (.nm 4) [4] (.val (.prim .eq (.cons (.prim (.cut true false) (.cons (.var 1) (.cons (.var 4) .nil))) (.cons (.prim .rev (.cons (.prim (.cut true false) (.cons (.var 1) (.cons (.var 4) .nil))) .nil)) .nil)))) (.var 4)) .nil))) (.cons (.asg (.nm 1) (.prim .add (.cons (.var 1) (.cons (.prim .rev (.cons (.prim (.cut false true) (.cons (.var 1) (.cons (.var 3) .nil))) .nil)) .nil)))) .nil)))) (.cons (.ret (.var 1)) .nil)))⟩
/-- 1013: _law_draws(_law_script), slots _law_script _law_cells _law_found _law_k _law_cell (k17) -/
def h_draws : Fd := ⟨1, 5, (.cons (.asg (.nm 1) (.ite (.val (.prim .ne (.cons (.var 0) (.cons (.prim .lst .nil) .nil)))) (.prim .toList (.cons (.var 0) .nil)) (.prim .lst (.cons (.cst (.int 0)) .nil)))) (.cons (.asg (.nm 2) (.prim .lst .nil)) (.cons (.for_ (.call .enum (.cons (.prim (.cut false true) (.cons (.var 1) (.cons (.cst (.int 6)) .nil))) .nil)) (.two 3 4) (.cons .never .nil)) (.cons (.ret (.var 2)) .nil))))⟩
/-- 1014: _law_closed(_law_own_presses), slots _law_own_presses _law_letter _law_found _law_used _law_word _law_at (k17) -/
def h_closed_1 : Fd := ⟨1, 6, (.cons (.asg (.two 2 3) (.prim .tup (.cons (.cst (.str [])) (.cons (.cst (.str [])) .nil)))) (.cons (.for_ (.ofE (.var 0)) (.nm 1) (.cons (.asg (.two 4 5) (.prim .tup (.cons (.prim .add (.cons (.var 2) (.cons (.var 1) .nil))) (.cons (.cst (.int 0)) .nil)))) (.cons (.whl (.val (.prim .ne (.cons (.prim (.cut true false) (.cons (.var 4) (.cons (.var 5) .nil))) (.cons (.prim .rev (.cons (.prim (.cut true false) (.cons (.var 4) (.cons (.var 5) .nil))) .nil)) .nil)))) (.cons (.asg (.nm 5) (.prim .add (.cons (.var 5) (.cons (.cst (.int 1)) .nil)))) .nil)) (.cons (.ifs (.val (.prim .gt (.cons (.prim .add (.cons (.prim .len (.cons (.var 4) .nil)) (.cons (.var 5) .nil))) (.cons (.cst (.int 300)) .nil)))) (.cons (.ret (.prim .tup (.cons (.var 3) (.cons (.var 2) .nil)))) .nil) .nil) (.cons (.asg (.two 2 3) (.prim .tup (.cons (.prim .add (.cons (.var 4) (.cons (.prim .rev (.cons (.prim (.cut false true) (.cons (.var 4) (.cons (.var 5) .nil))) .nil)) .nil))) (.cons (.prim .add (.cons (.var 3) (.cons (.var 1) .nil))) .nil)))) .nil))))) (.cons (.ret (.prim .tup (.cons (.var 3) (.cons (.var 2) .nil)))) .nil)))⟩
/-- 1015: _law_take(_law_draw, _law_many), slots _law_draw _law_many _law_added _law_number _law_found _law_at _law_cells (k18) -/
def h_take_2 : Fd := ⟨2, 7, (.cons (.asgIx (.var 0) (.cst (.str [97, 116])) (.prim .add (.cons (.prim .ix (.cons (.var 0) (.cons (.cst (.str [97, 116])) .nil))) (.cons (.cst (.int 1)) .nil)))) (.cons (.ifs (.val (.prim .gt (.cons (.prim .ix (.cons (.var 0) (.cons (.cst (.str [108, 101, 102, 116])) .nil))) (.cons (.cst (.int 0)) .nil)))) (.cons (.asg (.nm 4) (.prim .mod (.cons (.prim .ix (.cons (.var 0) (.cons (.cst (.str [108, 101, 102, 116])) .nil))) (.cons (.var 1) .nil)))) (.cons (.asgIx (.var 0) (.cst (.str [108, 101, 102, 116])) (.prim .fdiv (.cons (.prim .ix (.cons (.var 0) (.cons (.cst (.str [108, 101, 102, 116])) .nil))) (.cons (.var 1) .nil)))) (.cons (.ret (.var 4)) .nil))) .nil) (.cons (.asg (.two 5 6) (.prim .tup (.cons (.prim .ix (.cons (.var 0) (.cons (.cst (.str [97, 116])) .nil))) (.cons (.prim .ix (.cons (.var 0) (.cons (.cst (.str [99, 101, 108, 108, 115])) .nil))) .nil)))) (.cons (.asg (.nm 2) (.prim .add (.cons (.prim .add (.cons (.prim .mul (.cons (.prim .mul (.cons (.cst (.int 7907)) (.cons (.var 5) .nil))) (.cons (.var 5) .nil))) (.cons (.prim .mul (.cons (.cst (.int 104723)) (.cons (.var 5) .nil))) .nil))) (.cons (.cst (.int 11)) .nil)))) (.cons (.asg (.nm 3) (.prim .add (.cons (.prim .mod (.cons (.prim .ix (.cons (.var 6) (.cons (.prim .mod (.cons (.var 5) (.cons (.prim .len (.cons (.var 6) .nil)) .nil))) .nil))) (.cons (.cst (.int 2147483629)) .nil))) (.cons (.var 2) .nil)))) (.cons (.asg (.nm 3) (.prim .mod (.cons (.prim .pow (.cons (.var 3) (.cons (.cst (.int 5)) .nil))) (.cons (.cst (.int 2147483647)) .nil)))) (.cons (.ret (.prim .mod (.cons (.prim .fdiv (.cons (.prim .mod (.cons (.prim .mul (.cons (.var 3) (.cons (.cst (.int 48271)) .nil))) (.cons (.cst (.int 2147483629)) .nil))) (.cons (.cst (.int 7)) .nil))) (.cons (.var 1) .nil)))) .nil)))))))⟩
/-- 1016: _law_far(_law_draw, _law_many), slots _law_draw _law_many _law_found _law_k (k18) -/
def h_far : Fd := ⟨2, 4, (.cons (.asg (.nm 2) (.cst (.int 0))) (.cons (.for_ (.call .range1 (.cons (.cst (.int 8)) .nil)) (.nm 3) (.cons (.asg (.nm 2) (.prim .add (.cons (.prim .mul (.cons (.var 2) (.cons (.prim .pow (.cons (.cst (.int 10)) (.cons (.cst (.int 8)) .nil))) .nil))) (.cons (.call 1015 (.cons (.var 0) (.cons (.prim .pow (.cons (.cst (.int 10)) (.cons (.cst (.int 8)) .nil))) .nil))) .nil)))) .nil)) (.cons (.ret (.prim .mod (.cons (.var 2) (.cons (.var 1) .nil)))) .nil)))⟩
/-- 1017: _law_letters(_law_draw), slots _law_draw _law_step _law_first _law_many _law_k (k18) -/
def h_letters : Fd := ⟨1, 5, (.cons (.asg (.nm 1) (.prim .ix (.cons (.prim .lst (.cons (.cst (.int 1)) (.cons (.cst (.int 3)) (.cons (.cst (.int 5)) (.cons (.cst (.int 7)) (.cons (.cst (.int 9)) (.cons (.cst (.int 11)) (.cons (.cst (.int 15)) (.cons (.cst (.int 17)) (.cons (.cst (.int 19)) (.cons (.cst (.int 21)) (.cons (.cst (.int 23)) (.cons (.cst (.int 25)) .nil))))))))))))) (.cons (.call 1015 (.cons (.var 0) (.cons (.cst (.int 12)) .nil))) .nil)))) (.cons (.asg (.two 2 3) (.prim .tup (.cons (.call 1015 (.cons (.var 0) (.cons (.cst (.int 26)) .nil))) (.cons (.prim .add (.cons (.cst (.int 1)) (.cons (.call 1015 (.cons (.var 0) (.cons (.cst (.int 5)) .nil))) .nil))) .nil)))) (.cons (.ret (.meth .str .join (.cst (.str [])) (.cons (.comp (.call .range1 (.cons (.var 3) .nil)) (.nm 4) [4] .tt (.prim .ix (.cons (.cst (.str [97, 98, 99, 100, 101, 102, 103, 104, 105, 106, 107, 108, 109, 110, 111, 112, 113, 114, 115, 116, 117, 118, 119, 120, 121, 122])) (.cons (.prim .mod (.cons (.prim .add (.cons (.var 2) (.cons (.prim .mul (.cons (.var 1) (.cons (.var 4) .nil))) .nil))) (.cons (.cst (.int 26)) .nil))) .nil)))) .nil))) .nil)))⟩
/-- 1018: _law_presses(_law_draw, _law_letters_here, _law_most), slots _law_draw _law_letters_here _law_most _law_many _law_way _law_found _law_letter (k18) -/
def h_presses_1 : Fd := ⟨3, 7, (.cons (.asg (.three 3 4 5) (.prim .tup (.cons (.call 1015 (.cons (.var 0) (.cons (.prim .add (.cons (.var 2) (.cons (.cst (.int 1)) .nil))) .nil))) (.cons (.call 1015 (.cons (.var 0) (.cons (.cst (.int 4)) .nil))) (.cons (.cst (.str [])) .nil))))) (.cons (.whl (.val (.prim .lt (.cons (.prim .len (.cons (.var 5) .nil)) (.cons (.var 3) .nil)))) (.cons (.asg (.nm 6) (.prim .ix (.cons (.var 1) (.cons (.call 1015 (.cons (.var 0) (.cons (.prim .len (.cons (.var 1) .nil)) .nil))) .nil)))) (.cons (.ifs (.val (.prim .eq (.cons (.var 4) (.cons (.cst (.int 3)) .nil)))) (.cons (.asg (.nm 6) (.prim .ix (.cons (.var 1) (.cons (.prim .mod (.cons (.prim .len (.cons (.var 5) .nil)) (.cons (.prim .len (.cons (.var 1) .nil)) .nil))) .nil)))) .nil) .nil) (.cons (.asg (.nm 5) (.prim .add (.cons (.var 5) (.cons (.prim .mul (.cons (.var 6) (.cons (.prim .ix (.cons (.prim .lst (.cons (.cst (.int 1)) (.cons (.cst (.int 1)) (.cons (.prim .add (.cons (.cst (.int 1)) (.cons (.call 1015 (.cons (.var 0) (.cons (.cst (.int 9)) .nil))) .nil))) (.cons (.cst (.int 1)) .nil))))) (.cons (.var 4) .nil))) .nil))) .nil)))) .nil)))) (.cons (.ret (.prim (.cut false true) (.cons (.var 5) (.cons (.var 3) .nil)))) .nil)))⟩
/-- 1019: _law_closed(_law_presses_here), slots _law_presses_here _law_letter _law_found _law_used _law_word _law_at (k19) -/
def h_closed_2 : Fd := ⟨1, 6, (.cons (.asg (.two 2 3) (.prim .tup (.cons (.cst (.str [])) (.cons (.cst (.str [])) .nil)))) (.cons (.for_ (.ofE (.var 0)) (.nm 1) (.cons (.asg (.two 4 5) (.prim .tup (.cons (.prim .add (.cons (.var 2) (.cons (.var 1) .nil))) (.cons (.cst (.int 0)) .nil)))) (.cons (.whl (.val (.prim .ne (.cons (.prim (.cut true false) (.cons (.var 4) (.cons (.var 5) .nil))) (.cons (.prim .rev (.cons (.prim (.cut true false) (.cons (.var 4) (.cons (.var 5) .nil))) .nil)) .nil)))) (.cons (.asg (.nm 5) (.prim .add (.cons (.var 5) (.cons (.cst (.int 1)) .nil)))) .nil)) (.cons (.ifs (.val (.prim .gt (.cons (.prim .add (.cons (.prim .len (.cons (.var 4) .nil)) (.cons (.var 5) .nil))) (.cons (.cst (.int 300)) .nil)))) (.cons (.ret (.prim .tup (.cons (.var 3) (.cons (.var 2) .nil)))) .nil) .nil) (.cons (.asg (.two 2 3) (.prim .tup (.cons (.prim .add (.cons (.var 4) (.cons (.prim .rev (.cons (.prim (.cut false true) (.cons (.var 4) (.cons (.var 5) .nil))) .nil)) .nil))) (.cons (.prim .add (.cons (.var 3) (.cons (.var 1) .nil))) .nil)))) .nil))))) (.cons (.ret (.prim .tup (.cons (.var 3) (.cons (.var 2) .nil)))) .nil)))⟩
/-- 1020: _law_begun(_law_script, _law_bout), slots _law_script _law_bout _law_drawn _law_own _law_folded _law_most (k25) -/
def h_begun_1 : Fd := ⟨2, 6, (.cons (.asg (.two 4 5) (.prim .tup (.cons (.prim .add (.cons (.var 1) (.cons (.cst (.int 1)) .nil))) (.cons (.prim .mul (.cons (.prim .mul (.cons (.prim .mul (.cons (.prim .mul (.cons (.cst (.int 2147483629)) (.cons (.cst (.int 2147483587)) .nil))) (.cons (.cst (.int 2147483579)) .nil))) (.cons (.cst (.int 2147483563)) .nil))) (.cons (.cst (.int 2147483549)) .nil))) .nil)))) (.cons (.for_ (.ofE (.var 0)) (.nm 2) (.cons (.asg (.nm 4) (.prim .mod (.cons (.prim .add (.cons (.prim .mul (.cons (.var 4) (.cons (.cst (.int 1000000000039)) .nil))) (.cons (.var 2) .nil))) (.cons (.var 5) .nil)))) .nil)) (.cons (.asg (.nm 3) (.ite (.val (.prim .lt (.cons (.var 1) (.cons (.prim .len (.cons (.var 0) .nil)) .nil)))) (.prim .ix (.cons (.var 0) (.cons (.var 1) .nil))) (.cst (.int 0)))) (.cons .never .nil))))⟩
/-- 1021: _law_draw(_law_state, _law_many), slots _law_state _law_many _law_at _law_prime _law_mixed _law_found (k25) -/
def h_draw : Fd := ⟨2, 6, (.cons (.ifs (.val (.prim .gt (.cons (.prim .ix (.cons (.var 0) (.cons (.cst (.str [108, 101, 102, 116])) .nil))) (.cons (.cst (.int 0)) .nil)))) (.cons (.asg (.nm 5) (.prim .mod (.cons (.prim .ix (.cons (.var 0) (.cons (.cst (.str [108, 101, 102, 116])) .nil))) (.cons (.var 1) .nil)))) (.cons (.asgIx (.var 0) (.cst (.str [108, 101, 102, 116])) (.prim .fdiv (.cons (.prim .ix (.cons (.var 0) (.cons (.cst (.str [108, 101, 102, 116])) .nil))) (.cons (.var 1) .nil)))) (.cons (.ret (.var 5)) .nil))) .nil) (.cons (.asg (.nm 2) (.prim .add (.cons (.prim .ix (.cons (.var 0) (.cons (.cst (.str [97, 116])) .nil))) (.cons (.cst (.int 1)) .nil)))) (.cons (.asgIx (.var 0) (.cst (.str [97, 116])) (.var 2)) (.cons (.asg (.nm 3) (.prim .ix (.cons (.prim .lst (.cons (.cst (.int 2147483629)) (.cons (.cst (.int 2147483587)) (.cons (.cst (.int 2147483579)) (.cons (.cst (.int 2147483563)) (.cons (.cst (.int 2147483549)) .nil)))))) (.cons (.prim .mod (.cons (.var 2) (.cons (.cst (.int 5)) .nil))) .nil)))) (.cons (.asg (.nm 4) (.prim .mod (.cons (.prim .mul (.cons (.prim .add (.cons (.prim .add (.cons (.prim .add (.cons (.prim .mod (.cons (.prim .ix (.cons (.var 0) (.cons (.cst (.str [99, 101, 108, 108])) .nil))) (.cons (.var 3) .nil))) (.cons (.prim .mul (.cons (.prim .mul (.cons (.cst (.int 7919)) (.cons (.var 2) .nil))) (.cons (.var 2) .nil))) .nil))) (.cons (.prim .mul (.cons (.cst (.int 31)) (.cons (.var 2) .nil))) .nil))) (.cons (.cst (.int 17)) .nil))) (.cons (.cst (.int 48271)) .nil))) (.cons (.var 3) .nil)))) (.cons (.ret (.prim .mod (.cons (.prim .fdiv (.cons (.prim .mod (.cons (.prim .mul (.cons (.var 4) (.cons (.prim .add (.cons (.prim .mod (.cons (.var 4) (.cons (.cst (.int 65521)) .nil))) (.cons (.cst (.int 16807)) .nil))) .nil))) (.cons (.cst (.int 2147483647)) .nil))) (.cons (.cst (.int 7)) .nil))) (.cons (.var 1) .nil)))) .nil))))))⟩
/-- 1022: _law_pick(_law_state, _law_some), slots _law_state _law_some (k25) -/
def h_pick : Fd := ⟨2, 2, (.cons (.ret (.prim .ix (.cons (.var 1) (.cons (.call 1021 (.cons (.var 0) (.cons (.prim .len (.cons (.var 1) .nil)) .nil))) .nil)))) .nil)⟩
/-- 1023: _law_letters(_law_state, _law_most), slots _law_state _law_most _law_first _law_step _law_k (k25) -/
def h_letters_1 : Fd := ⟨2, 5, (.cons (.asg (.two 2 3) (.prim .tup (.cons (.call 1021 (.cons (.var 0) (.cons (.cst (.int 26)) .nil))) (.cons (.prim .ix (.cons (.prim .lst (.cons (.cst (.int 1)) (.cons (.cst (.int 3)) (.cons (.cst (.int 5)) (.cons (.cst (.int 7)) (.cons (.cst (.int 9)) (.cons (.cst (.int 11)) .nil))))))) (.cons (.call 1021 (.cons (.var 0) (.cons (.cst (.int 6)) .nil))) .nil))) .nil)))) (.cons (.ret (.comp (.call .range1 (.cons (.prim .add (.cons (.cst (.int 1)) (.cons (.call 1021 (.cons (.var 0) (.cons (.var 1) .nil))) .nil))) .nil)) (.nm 4) [4] .tt (.prim .ix (.cons (.cst (.str [97, 98, 99, 100, 101, 102, 103, 104, 105, 106, 107, 108, 109, 110, 111, 112, 113, 114, 115, 116, 117, 118, 119, 120, 121, 122])) (.cons (.prim .mod (.cons (.prim .add (.cons (.var 2) (.cons (.prim .mul (.cons (.var 3) (.cons (.var 4) .nil))) .nil))) (.cons (.cst (.int 26)) .nil))) .nil))))) .nil))⟩
/-- 1024: _law_row(_law_state, _law_most), slots _law_state _law_most _law_signs _law_many _law_way _law_found _law_k (k25) -/
def h_row : Fd := ⟨2, 7, (.cons (.asg (.two 2 3) (.prim .tup (.cons (.call 1023 (.cons (.var 0) (.cons (.cst (.int 4)) .nil))) (.cons (.call 1021 (.cons (.var 0) (.cons (.prim .add (.cons (.var 1) (.cons (.cst (.int 1)) .nil))) .nil))) .nil)))) (.cons (.asg (.two 4 5) (.prim .tup (.cons (.call 1021 (.cons (.var 0) (.cons (.cst (.int 5)) .nil))) (.cons (.cst (.str [])) .nil)))) (.cons (.ifs (.val (.prim .eq (.cons (.var 4) (.cons (.cst (.int 0)) .nil)))) (.cons (.ret (.meth .str .join (.cst (.str [])) (.cons (.comp (.call .range1 (.cons (.var 3) .nil)) (.nm 6) [6] .tt (.prim .ix (.cons (.var 2) (.cons (.prim .mod (.cons (.var 6) (.cons (.prim .len (.cons (.var 2) .nil)) .nil))) .nil)))) .nil))) .nil) .nil) (.cons (.whl (.val (.prim .lt (.cons (.prim .len (.cons (.var 5) .nil)) (.cons (.var 3) .nil)))) (.cons (.asg (.nm 5) (.prim .add (.cons (.var 5) (.cons (.prim .mul (.cons (.call 1022 (.cons (.var 0) (.cons (.var 2) .nil))) (.cons (.prim .add (.cons (.cst (.int 1)) (.cons (.call 1021 (.cons (.var 0) (.cons (.prim .ix (.cons (.prim .lst (.cons (.cst (.int 1)) (.cons (.cst (.int 4)) (.cons (.cst (.int 1)) (.cons (.cst (.int 9)) .nil))))) (.cons (.prim .sub (.cons (.var 4) (.cons (.cst (.int 1)) .nil))) .nil))) .nil))) .nil))) .nil))) .nil)))) .nil)) (.cons (.ret (.prim (.cut false true) (.cons (.var 5) (.cons (.var 3) .nil)))) .nil)))))⟩
/-- 1025: _law_closed(_law_pressed), slots _law_pressed _law_found _law_sign _law_longer _law_at _law_k (k25) -/
def h_closed_3 : Fd := ⟨1, 6, (.cons (.asg (.nm 1) (.cst (.str []))) (.cons (.for_ (.ofE (.var 0)) (.nm 2) (.cons (.asg (.nm 3) (.prim .add (.cons (.var 1) (.cons (.var 2) .nil)))) (.cons (.asg (.nm 4) (.prim .ix (.cons (.comp (.call .range1 (.cons (.prim .len (.cons (.var 3) .nil)) .nil)) (.nm 5) [5] (.val (.prim .eq (.cons (.prim (.cut true false) (.cons (.var 3) (.cons (.var 5) .nil))) (.cons (.prim .rev (.cons (.prim (.cut true false) (.cons (.var 3) (.cons (.var 5) .nil))) .nil)) .nil)))) (.var 5)) (.cons (.cst (.int 0)) .nil)))) (.cons (.asg (.nm 1) (.prim .add (.cons (.var 3) (.cons (.prim .rev (.cons (.prim (.cut false true) (.cons (.var 3) (.cons (.var 4) .nil))) .nil)) .nil)))) .nil)))) (.cons (.ret (.var 1)) .nil)))⟩
/-- 1026: _law_spots(_law_text, _law_bit), slots _law_text _law_bit _law_k (k25) -/
def h_spots : Fd := ⟨2, 3, (.cons (.ret (.comp (.call .range1 (.cons (.prim .add (.cons (.prim .sub (.cons (.prim .len (.cons (.var 0) .nil)) (.cons (.prim .len (.cons (.var 1) .nil)) .nil))) (.cons (.cst (.int 1)) .nil))) .nil)) (.nm 2) [2] (.val (.prim .eq (.cons (.prim (.cut true true) (.cons (.var 0) (.cons (.var 2) (.cons (.prim .add (.cons (.var 2) (.cons (.prim .len (.cons (.var 1) .nil)) .nil))) .nil)))) (.cons (.var 1) .nil)))) (.var 2))) .nil)⟩
/-- 1027: _law_below(_law_state, _law_many), slots _law_state _law_many _law_found _law_turn (k27) -/
def h_below : Fd := ⟨2, 4, (.cons (.asg (.nm 2) (.cst (.int 0))) (.cons (.for_ (.call .range1 (.cons (.cst (.int 11)) .nil)) (.nm 3) (.cons (.asg (.nm 2) (.prim .add (.cons (.prim .mul (.cons (.var 2) (.cons (.cst (.int 1000003)) .nil))) (.cons (.call 1021 (.cons (.var 0) (.cons (.cst (.int 1000003)) .nil))) .nil)))) .nil)) (.cons (.ret (.prim .mod (.cons (.var 2) (.cons (.var 1) .nil)))) .nil)))⟩
/-- 1028: _law_begun(_law_script, _law_k), slots _law_script _law_k _law_cell _law_left _law_some _law_found (k33) -/
def h_begun_2 : Fd := ⟨2, 6, (.cons .never (.cons (.for_ (.ofE (.var 4)) (.nm 2) (.cons (.asg (.nm 5) (.prim .mod (.cons (.prim .add (.cons (.prim .mul (.cons (.var 5) (.cons (.cst (.int 1000000000039)) .nil))) (.cons (.var 2) .nil))) (.cons (.cst (.int 45671919084464375650470121801725774452702282179)) .nil)))) .nil)) (.cons (.asg (.nm 3) (.ite (.and (.val (.prim .ne (.cons (.var 4) (.cons (.prim .lst .nil) .nil)))) (.val (.prim .ge (.cons (.prim .ix (.cons (.var 4) (.cons (.cst (.int 0)) .nil))) (.cons (.prim .pow (.cons (.cst (.int 10)) (.cons (.cst (.int 18)) .nil))) .nil))))) (.prim .ix (.cons (.var 4) (.cons (.cst (.int 0)) .nil))) (.cst (.int 0)))) (.cons .never .nil))))⟩
/-- 1029: _law_take(_law_draw, _law_edge), slots _law_draw _law_edge _law_k _law_prime _law_mixed _law_found (k33) -/
def h_take_3 : Fd := ⟨2, 6, (.cons (.ifs (.val (.prim .gt (.cons (.prim .ix (.cons (.var 0) (.cons (.cst (.str [108, 101, 102, 116])) .nil))) (.cons (.cst (.int 0)) .nil)))) (.cons (.asg (.nm 5) (.prim .mod (.cons (.prim .ix (.cons (.var 0) (.cons (.cst (.str [108, 101, 102, 116])) .nil))) (.cons (.var 1) .nil)))) (.cons (.asgIx (.var 0) (.cst (.str [108, 101, 102, 116])) (.prim .fdiv (.cons (.prim .ix (.cons (.var 0) (.cons (.cst (.str [108, 101, 102, 116])) .nil))) (.cons (.var 1) .nil)))) (.cons (.ret (.var 5)) .nil))) .nil) (.cons (.asg (.nm 2) (.prim .add (.cons (.prim .ix (.cons (.var 0) (.cons (.cst (.str [97, 116])) .nil))) (.cons (.cst (.int 1)) .nil)))) (.cons (.asgIx (.var 0) (.cst (.str [97, 116])) (.var 2)) (.cons (.asg (.nm 3) (.prim .ix (.cons (.prim .lst (.cons (.cst (.int 2147483629)) (.cons (.cst (.int 2147483587)) (.cons (.cst (.int 2147483579)) (.cons (.cst (.int 2147483563)) (.cons (.cst (.int 2147483549)) .nil)))))) (.cons (.prim .mod (.cons (.var 2) (.cons (.cst (.int 5)) .nil))) .nil)))) (.cons (.asg (.nm 4) (.prim .mod (.cons (.prim .mul (.cons (.prim .add (.cons (.prim .add (.cons (.prim .add (.cons (.prim .mod (.cons (.prim .ix (.cons (.var 0) (.cons (.cst (.str [99, 101, 108, 108])) .nil))) (.cons (.var 3) .nil))) (.cons (.prim .mul (.cons (.prim .mul (.cons (.cst (.int 7919)) (.cons (.var 2) .nil))) (.cons (.var 2) .nil))) .nil))) (.cons (.prim .mul (.cons (.cst (.int 31)) (.cons (.var 2) .nil))) .nil))) (.cons (.cst (.int 17)) .nil))) (.cons (.cst (.int 48271)) .nil))) (.cons (.var 3) .nil)))) (.cons (.ret (.prim .mod (.cons (.prim .mod (.cons (.prim .mul (.cons (.var 4) (.cons (.prim .add (.cons (.prim .mod (.cons (.var 4) (.cons (.cst (.int 65521)) .nil))) (.cons (.cst (.int 16807)) .nil))) .nil))) (.cons (.cst (.int 2147483647)) .nil))) (.cons (.var 1) .nil)))) .nil))))))⟩
/-- 1030: _law_of(_law_draw, _law_some), slots _law_draw _law_some (k33) -/
def h_of_1 : Fd := ⟨2, 2, (.cons (.ret (.prim .ix (.cons (.var 1) (.cons (.call 1029 (.cons (.var 0) (.cons (.prim .len (.cons (.var 1) .nil)) .nil))) .nil)))) .nil)⟩
/-- 1031: _law_letters(_law_draw, _law_wide), slots _law_draw _law_wide _law_start _law_stride _law_k (k33) -/
def h_letters_2 : Fd := ⟨2, 5, (.cons (.asg (.two 2 3) (.prim .tup (.cons (.call 1029 (.cons (.var 0) (.cons (.cst (.int 26)) .nil))) (.cons (.call 1030 (.cons (.var 0) (.cons (.prim .lst (.cons (.cst (.int 1)) (.cons (.cst (.int 3)) (.cons (.cst (.int 5)) (.cons (.cst (.int 7)) (.cons (.cst (.int 9)) (.cons (.cst (.int 11)) .nil))))))) .nil))) .nil)))) (.cons (.ret (.comp (.call .range1 (.cons (.var 1) .nil)) (.nm 4) [4] .tt (.prim .ix (.cons (.cst (.str [97, 98, 99, 100, 101, 102, 103, 104, 105, 106, 107, 108, 109, 110, 111, 112, 113, 114, 115, 116, 117, 118, 119, 120, 121, 122])) (.cons (.prim .mod (.cons (.prim .add (.cons (.var 2) (.cons (.prim .mul (.cons (.var 3) (.cons (.var 4) .nil))) .nil))) (.cons (.cst (.int 26)) .nil))) .nil))))) .nil))⟩
/-- 1032: _law_row(_law_draw, _law_some, _law_wide), slots _law_draw _law_some _law_wide _law_found _law_k (k33) -/
def h_row_1 : Fd := ⟨3, 5, (.cons (.asg (.nm 3) (.cst (.str []))) (.cons (.for_ (.call .range1 (.cons (.var 2) .nil)) (.nm 4) (.cons (.ifs (.val (.prim .lt (.cons (.prim .len (.cons (.var 3) .nil)) (.cons (.var 2) .nil)))) (.cons (.asg (.nm 3) (.prim .add (.cons (.var 3) (.cons (.prim .mul (.cons (.call 1030 (.cons (.var 0) (.cons (.var 1) .nil))) (.cons (.call 1030 (.cons (.var 0) (.cons (.prim .lst (.cons (.cst (.int 1)) (.cons (.cst (.int 1)) (.cons (.cst (.int 1)) (.cons (.cst (.int 1)) (.cons (.cst (.int 2)) (.cons (.cst (.int 3)) .nil))))))) .nil))) .nil))) .nil)))) .nil) .nil) .nil)) (.cons (.ret (.prim (.cut false true) (.cons (.var 3) (.cons (.var 2) .nil)))) .nil)))⟩
/-- 1033: _law_closed(_law_text, _law_sign), slots _law_text _law_sign _law_grown _law_at (k33) -/
def h_closed_4 : Fd := ⟨2, 4, (.cons (.asg (.nm 2) (.prim .add (.cons (.var 0) (.cons (.var 1) .nil)))) (.cons (.for_ (.call .range1 (.cons (.prim .len (.cons (.var 2) .nil)) .nil)) (.nm 3) (.cons (.ifs (.val (.prim .eq (.cons (.prim (.cut true false) (.cons (.var 2) (.cons (.var 3) .nil))) (.cons (.prim .rev (.cons (.prim (.cut true false) (.cons (.var 2) (.cons (.var 3) .nil))) .nil)) .nil)))) (.cons (.ret (.prim .add (.cons (.var 2) (.cons (.prim .rev (.cons (.prim (.cut false true) (.cons (.var 2) (.cons (.var 3) .nil))) .nil)) .nil)))) .nil) .nil) .nil)) (.cons (.ret (.var 2)) .nil)))⟩
/-- 1034: _law_mirrors(_law_row_here), slots _law_row_here _law_found _law_sign (k33) -/
def h_mirrors : Fd := ⟨1, 3, (.cons (.asg (.nm 1) (.prim .lst (.cons (.cst (.str [])) .nil))) (.cons (.for_ (.ofE (.var 0)) (.nm 2) (.cons (.expr (.meth .list .append (.var 1) (.cons (.call 1033 (.cons (.prim .ix (.cons (.var 1) (.cons (.prim .neg (.cons (.cst (.int 1)) .nil)) .nil))) (.cons (.var 2) .nil))) .nil))) .nil)) (.cons (.ret (.var 1)) .nil)))⟩
/-- 1035: _law_short(_law_draw, _law_some, _law_most), slots _law_draw _law_some _law_most _law_sign _law_row_here _law_found (k33) -/
def h_short : Fd := ⟨3, 6, (.cons (.asg (.two 4 5) (.prim .tup (.cons (.cst (.str [])) (.cons (.prim .lst (.cons (.cst (.str [])) .nil)) .nil)))) (.cons (.for_ (.ofE (.call 1032 (.cons (.var 0) (.cons (.var 1) (.cons (.prim .add (.cons (.cst (.int 1)) (.cons (.call 1029 (.cons (.var 0) (.cons (.cst (.int 12)) .nil))) .nil))) .nil))))) (.nm 3) (.cons (.ifs (.val (.prim .le (.cons (.prim .add (.cons (.prim .mul (.cons (.prim .len (.cons (.prim .ix (.cons (.var 5) (.cons (.prim .neg (.cons (.cst (.int 1)) .nil)) .nil))) .nil)) (.cons (.cst (.int 2)) .nil))) (.cons (.cst (.int 1)) .nil))) (.cons (.var 2) .nil)))) (.cons (.asg (.nm 4) (.prim .add (.cons (.var 4) (.cons (.var 3) .nil)))) (.cons (.expr (.meth .list .append (.var 5) (.cons (.call 1033 (.cons (.prim .ix (.cons (.var 5) (.cons (.prim .neg (.cons (.cst (.int 1)) .nil)) .nil))) (.cons (.var 3) .nil))) .nil))) .nil)) .nil) .nil)) (.cons (.ret (.prim .tup (.cons (.var 4) (.cons (.var 5) .nil)))) .nil)))⟩
/-- 1036: _law_bit(_law_draw, _law_text), slots _law_draw _law_text _law_start _law_size (k33) -/
def h_bit : Fd := ⟨2, 4, (.cons (.asg (.nm 2) (.call 1029 (.cons (.var 0) (.cons (.prim .add (.cons (.prim .len (.cons (.var 1) .nil)) (.cons (.cst (.int 1)) .nil))) .nil)))) (.cons (.asg (.nm 3) (.call 1030 (.cons (.var 0) (.cons (.prim .lst (.cons (.call 1029 (.cons (.var 0) (.cons (.cst (.int 6)) .nil))) (.cons (.call 1029 (.cons (.var 0) (.cons (.cst (.int 14)) .nil))) (.cons (.call 1029 (.cons (.var 0) (.cons (.prim .add (.cons (.prim .len (.cons (.var 1) .nil)) (.cons (.cst (.int 1)) .nil))) .nil))) (.cons (.cst (.int 1)) (.cons (.cst (.int 0)) (.cons (.prim .len (.cons (.var 1) .nil)) .nil))))))) .nil)))) (.cons (.ret (.ite (.val (.prim .lt (.cons (.var 3) (.cons (.prim .len (.cons (.var 1) .nil)) .nil)))) (.prim (.cut true true) (.cons (.var 1) (.cons (.var 2) (.cons (.prim .add (.cons (.var 2) (.cons (.var 3) .nil))) .nil)))) (.var 1))) .nil)))⟩
/-- 1037: _law_spots(_law_text, _law_bit_here), slots _law_text _law_bit_here _law_at (k33) -/
def h_spots_1 : Fd := ⟨2, 3, (.cons (.ret (.comp (.call .range1 (.cons (.prim .add (.cons (.prim .sub (.cons (.prim .len (.cons (.var 0) .nil)) (.cons (.prim .len (.cons (.var 1) .nil)) .nil))) (.cons (.cst (.int 1)) .nil))) .nil)) (.nm 2) [2] (.val (.prim .eq (.cons (.prim (.cut true true) (.cons (.var 0) (.cons (.var 2) (.cons (.prim .add (.cons (.var 2) (.cons (.prim .len (.cons (.var 1) .nil)) .nil))) .nil)))) (.cons (.var 1) .nil)))) (.var 2))) .nil)⟩
/-- 1038: _law_lens(_law_row_here), slots _law_row_here _law_found _law_known _law_k _law_sign (k34) -/
def h_lens : Fd := ⟨1, 5, (.cons (.asg (.two 1 2) (.prim .tup (.cons (.prim .lst (.cons (.cst (.int 0)) .nil)) (.cons (.prim .dic .nil) .nil)))) (.cons (.for_ (.call .enum (.cons (.var 0) .nil)) (.two 3 4) (.cons (.expr (.meth .list .append (.var 1) (.cons (.ite (.val (.prim .inn (.cons (.var 4) (.cons (.var 2) .nil)))) (.prim .sub (.cons (.prim .mul (.cons (.cst (.int 2)) (.cons (.prim .ix (.cons (.var 1) (.cons (.var 3) .nil))) .nil))) (.cons (.prim .ix (.cons (.var 1) (.cons (.prim .ix (.cons (.var 2) (.cons (.var 4) .nil))) .nil))) .nil))) (.prim .add (.cons (.prim .mul (.cons (.cst (.int 2)) (.cons (.prim .ix (.cons (.var 1) (.cons (.var 3) .nil))) .nil))) (.cons (.cst (.int 1)) .nil)))) .nil))) (.cons (.asgIx (.var 2) (.var 4) (.var 3)) .nil))) (.cons (.ret (.var 1)) .nil)))⟩
/-- 1039: _law_far(_law_draw, _law_most), slots _law_draw _law_most _law_found _law_turn (k34) -/
def h_far_1 : Fd := ⟨2, 4, (.cons (.asg (.nm 2) (.cst (.int 0))) (.cons (.for_ (.call .range1 (.cons (.cst (.int 8)) .nil)) (.nm 3) (.cons (.asg (.nm 2) (.prim .add (.cons (.prim .mul (.cons (.var 2) (.cons (.prim .pow (.cons (.cst (.int 10)) (.cons (.cst (.int 9)) .nil))) .nil))) (.cons (.call 1029 (.cons (.var 0) (.cons (.prim .pow (.cons (.cst (.int 10)) (.cons (.cst (.int 9)) .nil))) .nil))) .nil)))) .nil)) (.cons (.ret (.prim .mod (.cons (.var 2) (.cons (.prim .add (.cons (.var 1) (.cons (.cst (.int 1)) .nil))) .nil)))) .nil)))⟩
/-- 1040: _law_seen(_law_draw, _law_row_here, _law_lens_here, _law_most), slots _law_draw _law_row_here _law_lens_here _law_most _law_start _law_many _law_size (k34) -/
def h_seen : Fd := ⟨4, 7, (.cons (.asg (.two 5 6) (.prim .tup (.cons (.prim .ix (.cons (.var 2) (.cons (.prim .neg (.cons (.cst (.int 1)) .nil)) .nil))) (.cons (.call 1029 (.cons (.var 0) (.cons (.prim .add (.cons (.prim .min2 (.cons (.var 3) (.cons (.prim .ix (.cons (.var 2) (.cons (.prim .neg (.cons (.cst (.int 1)) .nil)) .nil))) .nil))) (.cons (.cst (.int 1)) .nil))) .nil))) .nil)))) (.cons (.asg (.nm 4) (.call 1030 (.cons (.var 0) (.cons (.prim .lst (.cons (.call 1039 (.cons (.var 0) (.cons (.prim .sub (.cons (.var 5) (.cons (.var 6) .nil))) .nil))) (.cons (.cst (.int 0)) (.cons (.prim .sub (.cons (.var 5) (.cons (.var 6) .nil))) (.cons (.prim .fdiv (.cons (.prim .sub (.cons (.var 5) (.cons (.var 6) .nil))) (.cons (.cst (.int 2)) .nil))) .nil))))) .nil)))) (.cons (.ret (.call 10 (.cons (.var 1) (.cons (.var 4) (.cons (.var 6) .nil))))) .nil)))⟩
/-- 1041: _law_begun(_law_script), slots _law_script _law_cell (k41) -/
def h_begun_3 : Fd := ⟨1, 2, (.cons .never .nil)⟩
/-- 1042: _law_draw(_law_m, _law_count), slots _law_m _law_count _law_k _law_spot _law_cell _law_mixed (k41) -/
def h_draw_1 : Fd := ⟨2, 6, (.cons (.asg (.nm 2) (.prim .ix (.cons (.var 0) (.cons (.cst (.str [97, 116])) .nil)))) (.cons (.asgIx (.var 0) (.cst (.str [97, 116])) (.prim .add (.cons (.var 2) (.cons (.cst (.int 1)) .nil)))) (.cons (.asg (.nm 3) (.prim .mod (.cons (.var 2) (.cons (.prim .max2 (.cons (.cst (.int 1)) (.cons (.prim .len (.cons (.prim .ix (.cons (.var 0) (.cons (.cst (.str [115, 99, 114, 105, 112, 116])) .nil))) .nil)) .nil))) .nil)))) (.cons (.ifs (.and (.val (.prim .ne (.cons (.prim .ix (.cons (.var 0) (.cons (.cst (.str [108, 101, 102, 116])) .nil))) (.cons (.prim .lst .nil) .nil)))) (.val (.prim .gt (.cons (.prim .ix (.cons (.prim .ix (.cons (.var 0) (.cons (.cst (.str [108, 101, 102, 116])) .nil))) (.cons (.var 3) .nil))) (.cons (.cst (.int 0)) .nil))))) (.cons (.asg (.nm 4) (.prim .ix (.cons (.prim .ix (.cons (.var 0) (.cons (.cst (.str [108, 101, 102, 116])) .nil))) (.cons (.var 3) .nil)))) (.cons (.asgIx (.prim .ix (.cons (.var 0) (.cons (.cst (.str [108, 101, 102, 116])) .nil))) (.var 3) (.prim .fdiv (.cons (.var 4) (.cons (.var 1) .nil)))) (.cons (.ret (.prim .mod (.cons (.var 4) (.cons (.var 1) .nil)))) .nil))) .nil) (.cons (.asg (.nm 4) (.ite (.val (.prim .ne (.cons (.prim .ix (.cons (.var 0) (.cons (.cst (.str [115, 99, 114, 105, 112, 116])) .nil))) (.cons (.prim .lst .nil) .nil)))) (.prim .mod (.cons (.prim .ix (.cons (.prim .ix (.cons (.var 0) (.cons (.cst (.str [115, 99, 114, 105, 112, 116])) .nil))) (.cons (.var 3) .nil))) (.cons (.cst (.int 1000000007)) .nil))) (.cst (.int 0)))) (.cons (.asg (.nm 5) (.prim .mod (.cons (.prim .add (.cons (.prim .add (.cons (.prim .add (.cons (.prim .mul (.cons (.var 4) (.cons (.cst (.int 48271)) .nil))) (.cons (.prim .mul (.cons (.prim .mul (.cons (.cst (.int 7919)) (.cons (.var 2) .nil))) (.cons (.var 2) .nil))) .nil))) (.cons (.prim .mul (.cons (.cst (.int 31)) (.cons (.var 2) .nil))) .nil))) (.cons (.cst (.int 17)) .nil))) (.cons (.cst (.int 2147483647)) .nil)))) (.cons (.asg (.nm 5) (.prim .mod (.cons (.prim .add (.cons (.prim .add (.cons (.prim .mul (.cons (.var 5) (.cons (.cst (.int 69619)) .nil))) (.cons (.prim .mul (.cons (.cst (.int 104729)) (.cons (.var 2) .nil))) .nil))) (.cons (.cst (.int 5)) .nil))) (.cons (.cst (.int 2147483629)) .nil)))) (.cons (.ret (.prim .mod (.cons (.prim .fdiv (.cons (.prim .mod (.cons (.prim .mul (.cons (.var 5) (.cons (.var 5) .nil))) (.cons (.cst (.int 1000000007)) .nil))) (.cons (.cst (.int 11)) .nil))) (.cons (.var 1) .nil)))) .nil))))))))⟩
/-- 1043: _law_of(_law_m, _law_some), slots _law_m _law_some (k41) -/
def h_of_2 : Fd := ⟨2, 2, (.cons (.ret (.prim .ix (.cons (.var 1) (.cons (.call 1042 (.cons (.var 0) (.cons (.prim .len (.cons (.var 1) .nil)) .nil))) .nil)))) .nil)⟩
/-- 1044: _law_closed(_law_text), slots _law_text _law_at (k41) -/
def h_closed_5 : Fd := ⟨1, 2, (.cons (.for_ (.call .range1 (.cons (.prim .len (.cons (.var 0) .nil)) .nil)) (.nm 1) (.cons (.ifs (.val (.prim .eq (.cons (.prim (.cut true false) (.cons (.var 0) (.cons (.var 1) .nil))) (.cons (.prim .rev (.cons (.prim (.cut true false) (.cons (.var 0) (.cons (.var 1) .nil))) .nil)) .nil)))) (.cons (.ret (.prim .add (.cons (.var 0) (.cons (.prim .rev (.cons (.prim (.cut false true) (.cons (.var 0) (.cons (.var 1) .nil))) .nil)) .nil)))) .nil) .nil) .nil)) (.cons (.ret (.var 0)) .nil))⟩
/-- 1045: _law_mirror(_law_text), slots _law_text _law_found _law_letter (k41) -/
def h_mirror : Fd := ⟨1, 3, (.cons (.asg (.nm 1) (.cst (.str []))) (.cons (.for_ (.ofE (.var 0)) (.nm 2) (.cons (.asg (.nm 1) (.call 1044 (.cons (.prim .add (.cons (.var 1) (.cons (.var 2) .nil))) .nil))) .nil)) (.cons (.ret (.var 1)) .nil)))⟩
/-- 1046: _law_small(_law_m, _law_most), slots _law_m _law_most _law_k (k41) -/
def h_small : Fd := ⟨2, 3, (.cons (.ret (.meth .str .join (.cst (.str [])) (.cons (.comp (.call .range1 (.cons (.call 1042 (.cons (.var 0) (.cons (.prim .add (.cons (.var 1) (.cons (.cst (.int 1)) .nil))) .nil))) .nil)) (.nm 2) [2] .tt (.call 1043 (.cons (.var 0) (.cons (.prim .lst (.cons (.cst (.str [97])) (.cons (.cst (.str [98])) .nil))) .nil)))) .nil))) .nil)⟩
/-- 1047: _law_great(_law_m), slots _law_m _law_found _law_k (k41) -/
def h_great : Fd := ⟨1, 3, (.cons (.asg (.nm 1) (.cst (.str []))) (.cons (.for_ (.call .range1 (.cons (.call 1042 (.cons (.var 0) (.cons (.cst (.int 90)) .nil))) .nil)) (.nm 2) (.cons (.asg (.nm 1) (.prim .add (.cons (.var 1) (.cons (.prim .mul (.cons (.call 1043 (.cons (.var 0) (.cons (.prim .lst (.cons (.cst (.str [97])) (.cons (.cst (.str [98])) .nil))) .nil))) (.cons (.prim .add (.cons (.cst (.int 1)) (.cons (.call 1042 (.cons (.var 0) (.cons (.prim .ix (.cons (.prim .lst (.cons (.cst (.int 1)) (.cons (.cst (.int 2)) (.cons (.cst (.int 9)) .nil)))) (.cons (.call 1042 (.cons (.var 0) (.cons (.cst (.int 3)) .nil))) .nil))) .nil))) .nil))) .nil))) .nil)))) .nil)) (.cons (.ret (.prim (.cut false true) (.cons (.var 1) (.cons (.cst (.int 200)) .nil)))) .nil)))⟩
/-- 1048: _law_pair(_law_m), slots _law_m _law_k _law_p _law_q _law_total _law_step (k41) -/
def h_pair : Fd := ⟨1, 6, (.cons (.asg (.three 2 3 4) (.prim .tup (.cons (.cst (.int 1)) (.cons (.cst (.int 1)) (.cons (.cst (.int 0)) .nil))))) (.cons (.for_ (.call .range1 (.cons (.call 1042 (.cons (.var 0) (.cons (.cst (.int 13)) .nil))) .nil)) (.nm 1) (.cons (.asg (.nm 5) (.call 1043 (.cons (.var 0) (.cons (.prim .lst (.cons (.cst (.int 1)) (.cons (.cst (.int 1)) (.cons (.cst (.int 1)) (.cons (.cst (.int 2)) (.cons (.cst (.int 3)) (.cons (.prim .add (.cons (.cst (.int 1)) (.cons (.call 1042 (.cons (.var 0) (.cons (.cst (.int 50)) .nil))) .nil))) (.cons (.prim .add (.cons (.prim .pow (.cons (.cst (.int 10)) (.cons (.cst (.int 9)) .nil))) (.cons (.call 1042 (.cons (.var 0) (.cons (.cst (.int 99)) .nil))) .nil))) (.cons (.prim .pow (.cons (.cst (.int 10)) (.cons (.cst (.int 60)) .nil))) .nil))))))))) .nil)))) (.cons (.asg (.two 2 3) (.ite (.val (.prim .eq (.cons (.call 1042 (.cons (.var 0) (.cons (.cst (.int 2)) .nil))) (.cons (.cst (.int 0)) .nil)))) (.prim .tup (.cons (.prim .add (.cons (.var 2) (.cons (.prim .mul (.cons (.var 5) (.cons (.var 3) .nil))) .nil))) (.cons (.var 3) .nil))) (.prim .tup (.cons (.var 2) (.cons (.prim .add (.cons (.var 3) (.cons (.prim .mul (.cons (.var 5) (.cons (.var 2) .nil))) .nil))) .nil))))) (.cons (.asg (.nm 4) (.prim .add (.cons (.var 4) (.cons (.var 5) .nil)))) .nil)))) (.cons (.ret (.prim .tup (.cons (.prim .tup (.cons (.var 2) (.cons (.var 3) .nil))) (.cons (.var 4) .nil)))) .nil)))⟩
/-- 1049: _law_wide(_law_m, _law_count), slots _law_m _law_count _law_found _law_k (k42) -/
def h_wide : Fd := ⟨2, 4, (.cons (.asg (.nm 2) (.cst (.int 0))) (.cons (.for_ (.call .range1 (.cons (.cst (.int 12)) .nil)) (.nm 3) (.cons (.asg (.nm 2) (.prim .add (.cons (.prim .mul (.cons (.var 2) (.cons (.cst (.int 10000019)) .nil))) (.cons (.call 1042 (.cons (.var 0) (.cons (.cst (.int 10000019)) .nil))) .nil)))) .nil)) (.cons (.ret (.prim .mod (.cons (.ite (.val (.prim .gt (.cons (.var 1) (.cons (.var 2) .nil)))) (.prim .pow (.cons (.var 2) (.cons (.cst (.int 9)) .nil))) (.var 2)) (.cons (.var 1) .nil)))) .nil)))⟩
/-- 1050: _law_mixed(_law_cell, _law_k), slots _law_cell _law_k _law_found (k49) -/
def h_mixed_2 : Fd := ⟨2, 3, (.cons (.asg (.nm 2) (.prim .mod (.cons (.prim .mul (.cons (.prim .add (.cons (.prim .add (.cons (.prim .add (.cons (.prim .mod (.cons (.var 0) (.cons (.cst (.int 2147483629)) .nil))) (.cons (.prim .mul (.cons (.prim .mul (.cons (.cst (.int 7919)) (.cons (.var 1) .nil))) (.cons (.var 1) .nil))) .nil))) (.cons (.prim .mul (.cons (.cst (.int 104729)) (.cons (.var 1) .nil))) .nil))) (.cons (.cst (.int 17)) .nil))) (.cons (.cst (.int 48271)) .nil))) (.cons (.cst (.int 2147483647)) .nil)))) (.cons (.ret (.prim .fdiv (.cons (.prim .mod (.cons (.prim .mul (.cons (.var 2) (.cons (.prim .add (.cons (.prim .add (.cons (.var 2) (.cons (.prim .mul (.cons (.cst (.int 2)) (.cons (.var 1) .nil))) .nil))) (.cons (.cst (.int 5)) .nil))) .nil))) (.cons (.cst (.int 2147483629)) .nil))) (.cons (.cst (.int 16)) .nil)))) .nil))⟩
/-- 1051: _law_state(_law_script, _law_at), slots _law_script _law_at _law_cells _law_k (k49) -/
def h_state : Fd := ⟨2, 4, (.cons (.asg (.nm 2) (.comp (.call .range2 (.cons (.var 1) (.cons (.prim .add (.cons (.var 1) (.cons (.cst (.int 9)) .nil))) .nil))) (.nm 3) [3] .tt (.ite (.val (.prim .lt (.cons (.var 3) (.cons (.prim .len (.cons (.var 0) .nil)) .nil)))) (.prim .ix (.cons (.var 0) (.cons (.var 3) .nil))) (.var 3)))) (.cons .never .nil))⟩
/-- 1052: _law_draw(_law_state_here, _law_top), slots _law_state_here _law_top _law_k _law_pace _law_found (k49) -/
def h_draw_2 : Fd := ⟨2, 5, (.cons (.ifs (.val (.prim .gt (.cons (.prim .ix (.cons (.var 0) (.cons (.cst (.str [108, 101, 102, 116])) .nil))) (.cons (.cst (.int 0)) .nil)))) (.cons (.asg (.nm 4) (.prim .mod (.cons (.prim .ix (.cons (.var 0) (.cons (.cst (.str [108, 101, 102, 116])) .nil))) (.cons (.var 1) .nil)))) (.cons (.asgIx (.var 0) (.cst (.str [108, 101, 102, 116])) (.prim .fdiv (.cons (.prim .ix (.cons (.var 0) (.cons (.cst (.str [108, 101, 102, 116])) .nil))) (.cons (.var 1) .nil)))) (.cons (.ret (.var 4)) .nil))) .nil) (.cons (.asg (.nm 2) (.prim .ix (.cons (.var 0) (.cons (.cst (.str [116, 117, 114, 110])) .nil)))) (.cons (.asgIx (.var 0) (.cst (.str [116, 117, 114, 110])) (.prim .add (.cons (.var 2) (.cons (.cst (.int 1)) .nil)))) (.cons (.asg (.nm 3) (.prim .add (.cons (.prim .add (.cons (.prim .mul (.cons (.prim .ix (.cons (.var 0) (.cons (.cst (.str [112, 97, 99, 101])) .nil))) (.cons (.cst (.int 48271)) .nil))) (.cons (.prim .ix (.cons (.prim .ix (.cons (.var 0) (.cons (.cst (.str [99, 101, 108, 108, 115])) .nil))) (.cons (.prim .mod (.cons (.var 2) (.cons (.cst (.int 9)) .nil))) .nil))) .nil))) (.cons (.var 2) .nil)))) (.cons (.asgIx (.var 0) (.cst (.str [112, 97, 99, 101])) (.prim .mod (.cons (.var 3) (.cons (.cst (.int 2147483647)) .nil)))) (.cons (.ret (.prim .mod (.cons (.call 1050 (.cons (.call 1050 (.cons (.prim .ix (.cons (.var 0) (.cons (.cst (.str [112, 97, 99, 101])) .nil))) (.cons (.prim .mod (.cons (.var 2) (.cons (.cst (.int 64)) .nil))) .nil))) (.cons (.prim .mod (.cons (.prim .ix (.cons (.prim .ix (.cons (.var 0) (.cons (.cst (.str [99, 101, 108, 108, 115])) .nil))) (.cons (.prim .mod (.cons (.prim .add (.cons (.var 2) (.cons (.cst (.int 3)) .nil))) (.cons (.cst (.int 9)) .nil))) .nil))) (.cons (.cst (.int 64)) .nil))) .nil))) (.cons (.var 1) .nil)))) .nil))))))⟩
/-- 1053: _law_of(_law_state_here, _law_some), slots _law_state_here _law_some (k49) -/
def h_of_3 : Fd := ⟨2, 2, (.cons (.ret (.prim .ix (.cons (.var 1) (.cons (.call 1052 (.cons (.var 0) (.cons (.prim .len (.cons (.var 1) .nil)) .nil))) .nil)))) .nil)⟩
/-- 1054: _law_signs(_law_state_here), slots _law_state_here _law_first _law_step _law_k (k49) -/
def h_signs_2 : Fd := ⟨1, 4, (.cons (.asg (.two 1 2) (.prim .tup (.cons (.call 1052 (.cons (.var 0) (.cons (.cst (.int 26)) .nil))) (.cons (.call 1053 (.cons (.var 0) (.cons (.prim .lst (.cons (.cst (.int 1)) (.cons (.cst (.int 3)) (.cons (.cst (.int 5)) (.cons (.cst (.int 7)) (.cons (.cst (.int 9)) (.cons (.cst (.int 11)) .nil))))))) .nil))) .nil)))) (.cons (.ret (.comp (.call .range1 (.cons (.prim .add (.cons (.cst (.int 1)) (.cons (.call 1052 (.cons (.var 0) (.cons (.cst (.int 4)) .nil))) .nil))) .nil)) (.nm 3) [3] .tt (.prim .ix (.cons (.cst (.str [97, 98, 99, 100, 101, 102, 103, 104, 105, 106, 107, 108, 109, 110, 111, 112, 113, 114, 115, 116, 117, 118, 119, 120, 121, 122])) (.cons (.prim .mod (.cons (.prim .add (.cons (.var 1) (.cons (.prim .mul (.cons (.var 2) (.cons (.var 3) .nil))) .nil))) (.cons (.cst (.int 26)) .nil))) .nil))))) .nil))⟩
/-- 1055: _law_row(_law_state_here, _law_signs_here, _law_least, _law_most), slots _law_state_here _law_signs_here _law_least _law_most _law_size_here _law_way _law_wide _law_k (k49) -/
def h_row_2 : Fd := ⟨4, 8, (.cons (.asg (.two 4 5) (.prim .tup (.cons (.prim .add (.cons (.var 2) (.cons (.call 1052 (.cons (.var 0) (.cons (.prim .add (.cons (.prim .sub (.cons (.var 3) (.cons (.var 2) .nil))) (.cons (.cst (.int 1)) .nil))) .nil))) .nil))) (.cons (.call 1052 (.cons (.var 0) (.cons (.cst (.int 4)) .nil))) .nil)))) (.cons (.ifs (.val (.prim .lt (.cons (.var 5) (.cons (.cst (.int 2)) .nil)))) (.cons (.asg (.nm 6) (.prim .add (.cons (.cst (.int 1)) (.cons (.prim .mul (.cons (.var 5) (.cons (.call 1052 (.cons (.var 0) (.cons (.cst (.int 5)) .nil))) .nil))) .nil)))) (.cons (.ret (.meth .str .join (.cst (.str [])) (.cons (.comp (.call .range1 (.cons (.var 4) .nil)) (.nm 7) [7] .tt (.prim .ix (.cons (.var 1) (.cons (.prim .mod (.cons (.prim .fdiv (.cons (.var 7) (.cons (.var 6) .nil))) (.cons (.prim .len (.cons (.var 1) .nil)) .nil))) .nil)))) .nil))) .nil)) .nil) (.cons (.ret (.meth .str .join (.cst (.str [])) (.cons (.comp (.call .range1 (.cons (.var 4) .nil)) (.nm 7) [7] .tt (.call 1053 (.cons (.var 0) (.cons (.var 1) .nil)))) .nil))) .nil)))⟩
/-- 1056: _law_sizes(_law_row_here), slots _law_row_here _law_found _law_last _law_k _law_sign (k49) -/
def h_sizes : Fd := ⟨1, 5, (.cons (.asg (.two 1 2) (.prim .tup (.cons (.prim .lst (.cons (.cst (.int 0)) .nil)) (.cons (.prim .dic .nil) .nil)))) (.cons (.for_ (.call .enum (.cons (.var 0) .nil)) (.two 3 4) (.cons (.expr (.meth .list .append (.var 1) (.cons (.prim .sub (.cons (.prim .mul (.cons (.cst (.int 2)) (.cons (.prim .ix (.cons (.var 1) (.cons (.var 3) .nil))) .nil))) (.cons (.ite (.val (.prim .inn (.cons (.var 4) (.cons (.var 2) .nil)))) (.prim .ix (.cons (.var 1) (.cons (.prim .ix (.cons (.var 2) (.cons (.var 4) .nil))) .nil))) (.prim .neg (.cons (.cst (.int 1)) .nil))) .nil))) .nil))) (.cons (.asgIx (.var 2) (.var 4) (.var 3)) .nil))) (.cons (.ret (.var 1)) .nil)))⟩
/-- 1057: _law_size(_law_row_here), slots _law_row_here (k49) -/
def h_size : Fd := ⟨1, 1, (.cons (.ret (.prim .ix (.cons (.call 1056 (.cons (.var 0) .nil)) (.cons (.prim .neg (.cons (.cst (.int 1)) .nil)) .nil)))) .nil)⟩
/-- 1058: _law_kind(_law_e), slots _law_e _law_some _law_called _law_is_so (k49) -/
def h_kind : Fd := ⟨1, 4, (.cons .never (.cons .never (.cons .never (.cons .never (.cons .never .nil)))))⟩
/-- 1059: _law_said(_law_deed), slots _law_deed _law_found _law_wrong _law_told (k49) -/
def h_said : Fd := ⟨1, 4, (.cons (.asg (.two 2 3) (.prim .tup (.cons (.cst .non) (.cons (.cst .non) .nil)))) (.cons .never (.cons (.ifs (.val (.prim .isN (.cons (.var 2) .nil))) (.cons (.ret (.prim .lst (.cons (.var 3) .nil))) .nil) .nil) (.cons (.asg (.nm 1) (.call 1058 (.cons (.var 2) .nil))) (.cons (.ifs (.val (.prim .inn (.cons (.var 1) (.cons (.prim .tup (.cons (.prim .lst (.cons (.cst (.str [112, 114, 101, 115, 115, 101, 115])) .nil)) (.cons (.prim .lst (.cons (.cst (.str [116, 101, 120, 116])) .nil)) .nil))) .nil)))) (.cons .never .nil) .nil) (.cons (.ifs (.val (.prim .inn (.cons (.var 1) (.cons (.prim .tup (.cons (.prim .lst (.cons (.cst (.str [112, 105, 101, 99, 101])) .nil)) (.cons (.prim .lst (.cons (.cst (.str [110, 117, 109, 98, 101, 114])) .nil)) .nil))) .nil)))) (.cons .never .nil) .nil) (.cons (.ifs (.val (.prim .eq (.cons (.var 1) (.cons (.prim .lst (.cons (.cst (.str [115, 117, 99, 104])) .nil)) .nil)))) (.cons .never .nil) .nil) (.cons .never .nil))))))))⟩
/-- 1060: _law_row(_law_state_here, _law_signs_here, _law_least, _law_most), slots _law_state_here _law_signs_here _law_least _law_most _law_size _law_way _law_wide _law_k (k50) -/
def h_row_3 : Fd := ⟨4, 8, (.cons (.asg (.two 4 5) (.prim .tup (.cons (.prim .add (.cons (.var 2) (.cons (.call 1052 (.cons (.var 0) (.cons (.prim .add (.cons (.prim .sub (.cons (.var 3) (.cons (.var 2) .nil))) (.cons (.cst (.int 1)) .nil))) .nil))) .nil))) (.cons (.call 1052 (.cons (.var 0) (.cons (.cst (.int 4)) .nil))) .nil)))) (.cons (.ifs (.val (.prim .lt (.cons (.var 5) (.cons (.cst (.int 2)) .nil)))) (.cons (.asg (.nm 6) (.prim .add (.cons (.cst (.int 1)) (.cons (.prim .mul (.cons (.var 5) (.cons (.call 1052 (.cons (.var 0) (.cons (.cst (.int 5)) .nil))) .nil))) .nil)))) (.cons (.ret (.meth .str .join (.cst (.str [])) (.cons (.comp (.call .range1 (.cons (.var 4) .nil)) (.nm 7) [7] .tt (.prim .ix (.cons (.var 1) (.cons (.prim .mod (.cons (.prim .fdiv (.cons (.var 7) (.cons (.var 6) .nil))) (.cons (.prim .len (.cons (.var 1) .nil)) .nil))) .nil)))) .nil))) .nil)) .nil) (.cons (.ret (.meth .str .join (.cst (.str [])) (.cons (.comp (.call .range1 (.cons (.var 4) .nil)) (.nm 7) [7] .tt (.call 1053 (.cons (.var 0) (.cons (.var 1) .nil)))) .nil))) .nil)))⟩
/-- 1061: _law_closed(_law_row_here), slots _law_row_here _law_text _law_sign _law_body _law_start (k50) -/
def h_closed_6 : Fd := ⟨1, 5, (.cons (.asg (.nm 1) (.cst (.str []))) (.cons (.for_ (.ofE (.var 0)) (.nm 2) (.cons (.asg (.two 3 4) (.prim .tup (.cons (.prim .add (.cons (.var 1) (.cons (.var 2) .nil))) (.cons (.cst (.int 0)) .nil)))) (.cons (.whl (.val (.prim .ne (.cons (.prim (.cut true false) (.cons (.var 3) (.cons (.var 4) .nil))) (.cons (.prim .rev (.cons (.prim (.cut true false) (.cons (.var 3) (.cons (.var 4) .nil))) .nil)) .nil)))) (.cons (.asg (.nm 4) (.prim .add (.cons (.var 4) (.cons (.cst (.int 1)) .nil)))) .nil)) (.cons (.asg (.nm 1) (.prim .add (.cons (.var 3) (.cons (.prim .rev (.cons (.prim (.cut false true) (.cons (.var 3) (.cons (.var 4) .nil))) .nil)) .nil)))) .nil)))) (.cons (.ret (.var 1)) .nil)))⟩
/-- 1062: _law_great(_law_state_here, _law_top), slots _law_state_here _law_top _law_found _law_k (k51) -/
def h_great_1 : Fd := ⟨2, 4, (.cons (.asg (.nm 2) (.cst (.int 0))) (.cons (.for_ (.call .range1 (.cons (.cst (.int 8)) .nil)) (.nm 3) (.cons (.asg (.nm 2) (.prim .add (.cons (.prim .mul (.cons (.var 2) (.cons (.prim .pow (.cons (.cst (.int 10)) (.cons (.cst (.int 9)) .nil))) .nil))) (.cons (.call 1052 (.cons (.var 0) (.cons (.prim .pow (.cons (.cst (.int 10)) (.cons (.cst (.int 9)) .nil))) .nil))) .nil)))) .nil)) (.cons (.ret (.prim .mod (.cons (.var 2) (.cons (.var 1) .nil)))) .nil)))⟩
/-- 1063: _law_draws(_law_script, _law_k), slots _law_script _law_k _law_cell _law_found _law_j _law_more (k57) -/
def h_draws_1 : Fd := ⟨2, 6, (.cons (.asg (.nm 2) (.ite (.val (.prim .lt (.cons (.var 1) (.cons (.prim .len (.cons (.var 0) .nil)) .nil)))) (.prim .mod (.cons (.prim .ix (.cons (.var 0) (.cons (.var 1) .nil))) (.cons (.prim .mul (.cons (.cst (.int 2)) (.cons (.prim .pow (.cons (.cst (.int 10)) (.cons (.cst (.int 60)) .nil))) .nil))) .nil))) (.cst (.int 0)))) (.cons (.asg (.nm 3) (.cst (.int 0))) (.cons (.for_ (.call .range1 (.cons (.cst (.int 200)) .nil)) (.nm 4) (.cons (.asg (.nm 5) (.prim .mod (.cons (.prim .add (.cons (.prim .add (.cons (.prim .mul (.cons (.var 2) (.cons (.cst (.int 48271)) .nil))) (.cons (.prim .mul (.cons (.cst (.int 7919)) (.cons (.prim .add (.cons (.var 1) (.cons (.prim .mul (.cons (.cst (.int 64)) (.cons (.var 4) .nil))) .nil))) .nil))) .nil))) (.cons (.cst (.int 12345)) .nil))) (.cons (.cst (.int 2147483647)) .nil)))) (.cons (.asg (.nm 3) (.prim .add (.cons (.prim .mul (.cons (.var 3) (.cons (.cst (.int 2147483629)) .nil))) (.cons (.prim .mod (.cons (.prim .add (.cons (.prim .pow (.cons (.var 5) (.cons (.cst (.int 5)) .nil))) (.cons (.prim .mul (.cons (.var 4) (.cons (.var 5) .nil))) .nil))) (.cons (.cst (.int 2147483629)) .nil))) .nil)))) .nil))) (.cons (.ret (.prim .lst (.cons (.prim .mul (.cons (.var 2) (.cons (.prim .toInt (.cons (.prim .ge (.cons (.var 2) (.cons (.prim .pow (.cons (.cst (.int 10)) (.cons (.cst (.int 18)) .nil))) .nil))) .nil)) .nil))) (.cons (.var 3) .nil)))) .nil))))⟩
/-- 1064: _law_take(_law_left, _law_many), slots _law_left _law_many _law_at _law_found (k57) -/
def h_take_4 : Fd := ⟨2, 4, (.cons (.asg (.nm 2) (.prim .toInt (.cons (.prim .eq (.cons (.prim .ix (.cons (.var 0) (.cons (.cst (.int 0)) .nil))) (.cons (.cst (.int 0)) .nil))) .nil))) (.cons (.asg (.nm 3) (.prim .mod (.cons (.prim .ix (.cons (.var 0) (.cons (.var 2) .nil))) (.cons (.var 1) .nil)))) (.cons (.asgIx (.var 0) (.var 2) (.prim .fdiv (.cons (.prim .ix (.cons (.var 0) (.cons (.var 2) .nil))) (.cons (.var 1) .nil)))) (.cons (.ret (.var 3)) .nil))))⟩
/-- 1065: _law_row(_law_left, _law_most), slots _law_left _law_most _law_some _law_many _law_k (k57) -/
def h_row_4 : Fd := ⟨2, 5, (.cons (.asg (.nm 2) (.prim .ix (.cons (.prim .lst (.cons (.cst (.str [97, 98])) (.cons (.cst (.str [97, 98, 99])) (.cons (.cst (.str [97, 98, 99, 100, 101])) (.cons (.cst (.str [97, 98, 99, 100, 101, 102, 103, 104, 105, 106, 107, 108, 109, 110, 111, 112, 113, 114, 115, 116, 117, 118, 119, 120, 121, 122])) .nil))))) (.cons (.call 1064 (.cons (.var 0) (.cons (.cst (.int 4)) .nil))) .nil)))) (.cons (.asg (.nm 3) (.prim .min2 (.cons (.var 1) (.cons (.prim .ix (.cons (.prim .lst (.cons (.cst (.int 0)) (.cons (.cst (.int 1)) (.cons (.cst (.int 2)) (.cons (.cst (.int 4)) (.cons (.cst (.int 7)) (.cons (.cst (.int 12)) (.cons (.cst (.int 40)) (.cons (.var 1) .nil))))))))) (.cons (.call 1064 (.cons (.var 0) (.cons (.cst (.int 8)) .nil))) .nil))) .nil)))) (.cons (.ret (.meth .str .join (.cst (.str [])) (.cons (.comp (.call .range1 (.cons (.var 3) .nil)) (.nm 4) [4] .tt (.prim .ix (.cons (.var 2) (.cons (.call 1064 (.cons (.var 0) (.cons (.prim .len (.cons (.var 2) .nil)) .nil))) .nil)))) .nil))) .nil)))⟩
/-- 1066: _law_runs(_law_row_here), slots _law_row_here _law_found _law_letter _law_many (k57) -/
def h_runs : Fd := ⟨1, 4, (.cons (.asg (.nm 1) (.prim .lst .nil)) (.cons (.for_ (.ofE (.var 0)) (.nm 2) (.cons (.ifs (.and (.val (.prim .ne (.cons (.var 1) (.cons (.prim .lst .nil) .nil)))) (.val (.prim .eq (.cons (.prim .ix (.cons (.prim .ix (.cons (.var 1) (.cons (.prim .neg (.cons (.cst (.int 1)) .nil)) .nil))) (.cons (.cst (.int 0)) .nil))) (.cons (.var 2) .nil))))) (.cons (.asg (.nm 3) (.ite (.val (.prim .gt (.cons (.prim .len (.cons (.prim .ix (.cons (.var 1) (.cons (.prim .neg (.cons (.cst (.int 1)) .nil)) .nil))) .nil)) (.cons (.cst (.int 1)) .nil)))) (.prim .add (.cons (.prim .toInt (.cons (.prim (.cut true false) (.cons (.prim .ix (.cons (.var 1) (.cons (.prim .neg (.cons (.cst (.int 1)) .nil)) .nil))) (.cons (.cst (.int 1)) .nil))) .nil)) (.cons (.cst (.int 1)) .nil))) (.cst (.int 2)))) (.cons .never .nil)) (.cons (.expr (.meth .list .append (.var 1) (.cons (.var 2) .nil))) .nil)) .nil)) (.cons (.ret (.var 1)) .nil)))⟩
/-- 1067: _law_desk(_law_row_here), slots _law_row_here _law_found _law_words (k60) -/
def h_desk : Fd := ⟨1, 3, (.cons .never (.cons .never (.cons (.ret (.var 1)) .nil)))⟩
/-- 1068: _law_ask(_law_desk_here, _law_words), slots _law_desk_here _law_words _law_word (k60) -/
def h_ask : Fd := ⟨2, 3, (.cons .never .nil)⟩
/-- 1069: _law_spots(_law_left, _law_many), slots _law_left _law_many _law_spot (k61) -/
def h_spots_2 : Fd := ⟨2, 3, (.cons (.ret (.comp (.ofE (.prim .tup (.cons (.cst (.int 0)) (.cons (.prim .sub (.cons (.var 1) (.cons (.cst (.int 1)) .nil))) (.cons (.call 1064 (.cons (.var 0) (.cons (.prim .add (.cons (.var 1) (.cons (.cst (.int 1)) .nil))) .nil))) (.cons (.call 1064 (.cons (.var 0) (.cons (.prim .add (.cons (.var 1) (.cons (.cst (.int 1)) .nil))) .nil))) .nil)))))) (.nm 2) [2] (.val (.chain .le .lt (.cst (.int 0)) (.var 2) (.var 1))) (.var 2))) .nil)⟩
def helpL : List Fd := [h_mixed, h_stream, h_take, h_signs, h_presses, h_spot, h_mixed_1, h_begun, h_take_1, h_of, h_signs_1, h_pressed, h_closed, h_draws, h_closed_1, h_take_2, h_far, h_letters, h_presses_1, h_closed_2, h_begun_1, h_draw, h_pick, h_letters_1, h_row, h_closed_3, h_spots, h_below, h_begun_2, h_take_3, h_of_1, h_letters_2, h_row_1, h_closed_4, h_mirrors, h_short, h_bit, h_spots_1, h_lens, h_far_1, h_seen, h_begun_3, h_draw_1, h_of_2, h_closed_5, h_mirror, h_small, h_great, h_pair, h_wide, h_mixed_2, h_state, h_draw_2, h_of_3, h_signs_2, h_row_2, h_sizes, h_size, h_kind, h_said, h_row_3, h_closed_6, h_great_1, h_draws_1, h_take_4, h_row_4, h_runs, h_desk, h_ask, h_spots_2]
end Mp

set_option linter.all false
set_option maxRecDepth 100000
namespace Mp

mutual
theorem U.beq_refl : ∀ a : U, U.beq a a = true
  | .non => rfl
  | .bl b => by simp [U.beq]
  | .int b => by simp [U.beq]
  | .str b => by simp [U.beq]
  | .ref b => by simp [U.beq]
  | .tup xs => by simp only [U.beq]; exact U.beqs_refl xs
theorem U.beqs_refl : ∀ a : List U, U.beqs a a = true
  | [] => rfl
  | x :: xs => by simp only [U.beqs, U.beq_refl x, U.beqs_refl xs, Bool.and_self]
end
theorem O.beqKv_refl : ∀ a : List (U × U), O.beqKv a a = true
  | [] => rfl
  | (x, y) :: xs => by simp only [O.beqKv, U.beq_refl, O.beqKv_refl xs, Bool.and_self]
theorem O.beq_refl (a : O) : O.beq a a = true := by
  cases a with
  | lst xs => exact U.beqs_refl xs
  | frz xs => exact U.beqs_refl xs
  | dic xs => exact O.beqKv_refl xs
@[simp] theorem obeq_some (o : O) : obeq (some o) (some o) = true := O.beq_refl o
@[simp] theorem still_nil (h h' : Hm) : still h h' [] = true := nr rfl
@[simp] theorem still_cons (h h' : Hm) (i : Nat) (g : List Nat) : still h h' (i :: g) = (obeq h[i]? h'[i]? && still h h' g) := nr rfl
@[simp] theorem toS_ok (r : En) (f : Fl) (h : Hm) : toS r (.ok f h) = .ok f h := nr rfl
@[simp] theorem quiet_app : ∀ (h l : Hm), quiet h (h ++ l) = true
  | [], l => rfl
  | a :: r, l => by simp [quiet, O.beq_refl, quiet_app r l]
@[simp] theorem quiet_self (h : Hm) : quiet h h = true := by simpa using quiet_app h []
theorem quiet_set : ∀ (h l : Hm) (i : Nat) (o : O), flatO o = true → quiet h (h.set i o ++ l) = true
  | [], l, i, o, f => rfl
  | a :: r, l, 0, o, f => by simp [quiet, f]
  | a :: r, l, i + 1, o, f => by simp [quiet, O.beq_refl, quiet_set r l i o f]
@[simp] theorem get_at (h l : Hm) (j : Nat) : (h ++ l)[h.length + j]? = l[j]? := by
  rw [List.getElem?_append_right (Nat.le_add_right _ _), Nat.add_sub_cancel_left]
@[simp] theorem get_at0 (h l : Hm) : (h ++ l)[h.length]? = l[0]? := get_at h l 0
@[simp] theorem set_at (h l : Hm) (j : Nat) (o : O) : (h ++ l).set (h.length + j) o = h ++ l.set j o := by
  rw [List.set_append_right _ _ (Nat.le_add_right _ _), Nat.add_sub_cancel_left]
@[simp] theorem set_at0 (h l : Hm) (o : O) : (h ++ l).set h.length o = h ++ l.set 0 o := set_at h l 0 o
theorem get_old {h l : Hm} {i : Nat} {o : O} (e : h[i]? = some o) : (h ++ l)[i]? = some o := by
  rw [List.getElem?_append_left (List.getElem?_eq_some_iff.mp e).1]; exact e
@[simp] theorem take_app (h l : Hm) : (h ++ l).take h.length = h := by simp
theorem swept_clean {h l : Hm} {u : U} (c : clean u = true) : swept h u (h ++ l) = .ok u h := by
  unfold swept
  rw [if_pos (quiet_app h l), if_pos c, take_app]
theorem swept_clean0 {h : Hm} {u : U} (c : clean u = true) : swept h u h = .ok u h := by simpa using swept_clean (l := []) c
@[simp] theorem swept_non (h : Hm) : swept h .non h = .ok .non h := swept_clean0 rfl
@[simp] theorem swept_int (h : Hm) (i : Int) : swept h (.int i) h = .ok (.int i) h := swept_clean0 rfl
@[simp] theorem swept_bl (h : Hm) (i : Bool) : swept h (.bl i) h = .ok (.bl i) h := swept_clean0 rfl
@[simp] theorem swept_str (h : Hm) (i : List Nat) : swept h (.str i) h = .ok (.str i) h := swept_clean0 rfl
@[simp] theorem swept_nonL (h l : Hm) : swept h .non (h ++ l) = .ok .non h := swept_clean rfl
@[simp] theorem swept_intL (h l : Hm) (i : Int) : swept h (.int i) (h ++ l) = .ok (.int i) h := swept_clean rfl
@[simp] theorem swept_blL (h l : Hm) (i : Bool) : swept h (.bl i) (h ++ l) = .ok (.bl i) h := swept_clean rfl
@[simp] theorem swept_strL (h l : Hm) (i : List Nat) : swept h (.str i) (h ++ l) = .ok (.str i) h := swept_clean rfl
theorem swept_flat0 {h l : Hm} {o : O} (e : l[0]? = some o) (f : flatO o = true) : swept h (.ref h.length) (h ++ l) = .ok (.ref h.length) (h ++ [o]) := by
  unfold swept
  rw [if_pos (quiet_app h l), if_neg (by simp [clean])]
  simp [e, f]
theorem swept_flat {h l : Hm} {j : Nat} {o : O} (e : l[j]? = some o) (f : flatO o = true) : swept h (.ref (h.length + j)) (h ++ l) = .ok (.ref h.length) (h ++ [o]) := by
  unfold swept
  rw [if_pos (quiet_app h l), if_neg (by simp [clean])]
  simp [e, f]
/-- an old object rewritten, flat; a plain answer -/
theorem swept_set {h l : Hm} {i : Nat} {o : O} {u : U} (f : flatO o = true) (c : clean u = true) : swept h u (h.set i o ++ l) = .ok u (h.set i o) := by
  unfold swept
  rw [if_pos (quiet_set h l i o f), if_pos c]
  have : h.length = (h.set i o).length := by simp
  rw [this, take_app]
theorem swept_set0 {h : Hm} {i : Nat} {o : O} {u : U} (f : flatO o = true) (c : clean u = true) : swept h u (h.set i o) = .ok u (h.set i o) := by simpa using swept_set (l := []) f c
theorem swept_setFlat {h l : Hm} {i j : Nat} {o p : O} (f : flatO o = true) (e : l[j]? = some p) (g : flatO p = true) : swept h (.ref (h.length + j)) (h.set i o ++ l) = .ok (.ref h.length) (h.set i o ++ [p]) := by
  unfold swept
  have hl : h.length = (h.set i o).length := by simp
  rw [if_pos (quiet_set h l i o f), if_neg (by simp [clean])]
  have : (h.set i o ++ l)[h.length + j]? = some p := by rw [hl, get_at]; exact e
  simp only [this, g, true_and]
  rw [if_pos (Nat.le_add_right _ _)]
  congr 1
  rw [hl, take_app]
@[simp] theorem ended_ret (h h' : Hm) (u : U) : ended h (.ok (.ret u) h') = swept h u h' := nr rfl
@[simp] theorem ended_next (h h' : Hm) (r : En) : ended h (.ok (.next r) h') = swept h .non h' := nr rfl
theorem cleans_int (l : List Int) : cleans (l.map .int) = true := by
  induction l with
  | nil => rfl
  | cons a r ih => simp [cleans, clean, ih]
theorem callF_run {T : Nat → Option Fd} {k i : Nat} {d : Fd} {us : List U} {h : Hm} (hT : T i = some d) (hl : us.length = d.np) :
    callF T (k + 1) i us h = ended h (exss (callF T k) d.body (us.map some ++ List.replicate (d.nl - d.np) none) h) := by
  rw [callF, hT]
  simp only [hl, if_true]

section
variable (cl : Nat → List U → Hm → R U)
@[simp] theorem evs_nil (r : En) (h : Hm) : evs cl .nil r h = .ok [] h := by rw [evs]
@[simp] theorem evs_cons (e : Ex) (es : Exs) (r : En) (h : Hm) : evs cl (.cons e es) r h = (ev cl e r h).bind fun u h1 => (evs cl es r h1).bind fun us h2 => .ok (u :: us) h2 := by rw [evs]
@[simp] theorem ev_cst (u : U) (r : En) (h : Hm) : ev cl (.cst u) r h = .ok u h := by rw [ev] <;> rfl
@[simp] theorem ev_prim (p : Prim) (es : Exs) (r : En) (h : Hm) : ev cl (.prim p es) r h = (evs cl es r h).bind fun us h1 => prim p us h1 := by rw [ev] <;> rfl
@[simp] theorem ev_call (f : Nat) (es : Exs) (r : En) (h : Hm) : ev cl (.call f es) r h = (evs cl es r h).bind fun us h1 => cl f us h1 := by rw [ev] <;> rfl
@[simp] theorem ev_meth (t : Tn) (p : Prim) (o : Ex) (es : Exs) (r : En) (h : Hm) : ev cl (.meth t p o es) r h = (ev cl o r h).bind fun u h1 => gd (tyN h1 u == some t) ((evs cl es r h1).bind fun us h2 => prim p (u :: us) h2) := by rw [ev] <;> rfl
@[simp] theorem ev_ite (t : Ts) (a b : Ex) (r : En) (h : Hm) : ev cl (.ite t a b) r h = (tst cl t r h).bind fun c h1 => if c = true then ev cl a r h1 else ev cl b r h1 := by rw [ev] <;> rfl
theorem ev_var {i : Nat} {r : En} {u : U} (h : Hm) (e : r[i]? = some (some u)) : ev cl (.var i) r h = .ok u h := by rw [ev, e]
@[simp] theorem ev_var0 (u : U) (r : En) (h : Hm) : ev cl (.var 0) (some u :: r) h = .ok u h := by rw [ev]; rfl
@[simp] theorem ev_varS (i : Nat) (u : Option U) (r : En) (h : Hm) : ev cl (.var (i + 1)) (u :: r) h = ev cl (.var i) r h := by rw [ev, ev, List.getElem?_cons_succ]
@[simp] theorem tst_val (e : Ex) (r : En) (h : Hm) : tst cl (.val e) r h = (ev cl e r h).bind fun u h1 => match truthy h1 u with | some b => .ok b h1 | none => .bad := by rw [tst] <;> rfl
@[simp] theorem tst_and (a b : Ts) (r : En) (h : Hm) : tst cl (.and a b) r h = (tst cl a r h).bind fun c h1 => if c = true then tst cl b r h1 else .ok false h1 := by rw [tst] <;> rfl
@[simp] theorem tst_or (a b : Ts) (r : En) (h : Hm) : tst cl (.or a b) r h = (tst cl a r h).bind fun c h1 => if c = true then .ok true h1 else tst cl b r h1 := by rw [tst] <;> rfl
@[simp] theorem tst_not (a : Ts) (r : En) (h : Hm) : tst cl (.not a) r h = (tst cl a r h).bind fun c h1 => .ok (!c) h1 := by rw [tst] <;> rfl
@[simp] theorem tst_tt (r : En) (h : Hm) : tst cl .tt r h = .ok true h := by rw [tst] <;> rfl
@[simp] theorem evi_ofE (e : Ex) (r : En) (h : Hm) : evi cl (.ofE e) r h = (ev cl e r h).bind fun u h1 => match walked h1 u with | some p => .ok p h1 | none => .bad := by rw [evi] <;> rfl
@[simp] theorem evi_call (k : Ik) (es : Exs) (r : En) (h : Hm) : evi cl (.call k es) r h = (evs cl es r h).bind fun us h1 => itR k us h1 := by rw [evi] <;> rfl
@[simp] theorem exss_nil (r : En) (h : Hm) : exss cl .nil r h = .ok (.next r) h := by rw [exss] <;> rfl
@[simp] theorem exss_cons (s : Sm) (ss : Sms) (r : En) (h : Hm) : exss cl (.cons s ss) r h = (exs cl s r h).bind fun f h1 => match f with | .next r' => exss cl ss r' h1 | f => .ok f h1 := by rw [exss] <;> rfl
@[simp] theorem exs_asg (p : Pt) (e : Ex) (r : En) (h : Hm) : exs cl (.asg p e) r h = toS r ((ev cl e r h).bind fun u h1 => match bindP p u r with | some r' => .ok (.next r') h1 | none => .bad) := by rw [exs] <;> rfl
@[simp] theorem exs_asgIx (o i e : Ex) (r : En) (h : Hm) : exs cl (.asgIx o i e) r h = toS r ((ev cl e r h).bind fun u h1 => (ev cl o r h1).bind fun ov h2 => (ev cl i r h2).bind fun iv h3 => match store ov iv u h3 with | some h4 => .ok (.next r) h4 | none => .bad) := by rw [exs] <;> rfl
@[simp] theorem exs_ifs (t : Ts) (a b : Sms) (r : En) (h : Hm) : exs cl (.ifs t a b) r h = toS r ((tst cl t r h).bind fun c h1 => if c = true then exss cl a r h1 else exss cl b r h1) := by rw [exs] <;> rfl
@[simp] theorem exs_ret (e : Ex) (r : En) (h : Hm) : exs cl (.ret e) r h = toS r ((ev cl e r h).bind fun u h1 => .ok (.ret u) h1) := by rw [exs] <;> rfl
@[simp] theorem exs_retN (r : En) (h : Hm) : exs cl .retN r h = .ok (.ret .non) h := by rw [exs] <;> rfl
@[simp] theorem exs_expr (e : Ex) (r : En) (h : Hm) : exs cl (.expr e) r h = toS r ((ev cl e r h).bind fun _ h1 => .ok (.next r) h1) := by rw [exs] <;> rfl
@[simp] theorem exs_pass (r : En) (h : Hm) : exs cl .pass r h = .ok (.next r) h := by rw [exs] <;> rfl
@[simp] theorem exs_for (it : It) (tg : Pt) (b : Sms) (r : En) (h : Hm) : exs cl (.for_ it tg b) r h = toS r ((evi cl it r h).bind fun xg h1 => forL (fun h' => still h1 h' xg.2) (fun x r' h' => match bindP tg x r' with | some r2 => exss cl b r2 h' | none => .bad) xg.1 r h1) := by rw [exs] <;> rfl
@[simp] theorem exs_whl (t : Ts) (b : Sms) (r : En) (h : Hm) : exs cl (.whl t b) r h = toS r (whileL (tst cl t) (exss cl b) turns r h) := by rw [exs] <;> rfl
@[simp] theorem exs_aug (i : Nat) (p : Prim) (e : Ex) (r : En) (h : Hm) : exs cl (.aug i p e) r h = match r[i]? with
    | some (some x) => toS r ((ev cl e r h).bind fun y h1 => match augR p x y with | some z => .ok (.next (r.set i (some z))) h1 | none => .bad)
    | _ => .bad := by rw [exs] <;> rfl
@[simp] theorem ev_comp (it : It) (tg : Pt) (own : List Nat) (c : Ts) (elt : Ex) (r : En) (h : Hm) : ev cl (.comp it tg own c elt) r h = (evi cl it r h).bind fun xg h1 =>
      compL (fun h' => still h1 h' xg.2) h1.length (fun x h2 => match bindP tg x (wipe r own) with
        | none => .bad
        | some r2 => (tst cl c r2 h2).bind fun b h3 => if b = true then (ev cl elt r2 h3).bind fun u h4 => .ok (some u) h4 else .ok none h3) xg.1 [] (h1 ++ [.lst []]) := by rw [ev] <;> rfl
@[simp] theorem ev_chain (p q : Prim) (a b c : Ex) (r : En) (h : Hm) : ev cl (.chain p q a b c) r h = (ev cl a r h).bind fun u h1 => (ev cl b r h1).bind fun v h2 => (prim p [u, v] h2).bind fun w h3 => match w with
    | .bl true => (ev cl c r h3).bind fun x h4 => prim q [v, x] h4
    | .bl false => .ok (.bl false) h3
    | _ => .bad := by rw [ev] <;> rfl
end
@[simp] theorem bindP_nm (i : Nat) (u : U) (r : En) : bindP (.nm i) u r = some (r.set i (some u)) := nr rfl
@[simp] theorem bindP_two (a b : Nat) (x y : U) (r : En) : bindP (.two a b) (.tup [x, y]) r = some ((r.set a (some x)).set b (some y)) := nr rfl
@[simp] theorem bindP_three (a b c : Nat) (x y z : U) (r : En) : bindP (.three a b c) (.tup [x, y, z]) r = some (((r.set a (some x)).set b (some y)).set c (some z)) := nr rfl

/-- by an invariant over what was walked and what is left -/
theorem forL_inv {chk : Hm → Bool} {b : U → En → Hm → R Fl} (I : List U → List U → En → Hm → Prop) : ∀ (xs done : List U) (r : En) (h : Hm), I done xs r h →
    (∀ d l r h, I d l r h → chk h = true) → (∀ d x l r h, I d (x :: l) r h → ∃ f h', b x r h = .ok f h' ∧ ((∃ r', f = .next r' ∧ I (d ++ [x]) l r' h') ∨ ∃ r', f = .cont r' ∧ I (d ++ [x]) l r' h')) →
    ∃ r' h', forL chk b xs r h = .ok (.next r') h' ∧ I (done ++ xs) [] r' h'
  | [], done, r, h, i0, hc, hs => ⟨r, h, by rw [forL, hc _ _ _ _ i0]; rfl, by simpa using i0⟩
  | x :: xs, done, r, h, i0, hc, hs => by
    obtain ⟨f, h', e, q⟩ := hs _ _ _ _ _ i0
    rcases q with ⟨r', rfl, q⟩ | ⟨r', rfl, q⟩
    · obtain ⟨r2, h2, e2, q2⟩ := forL_inv I xs (done ++ [x]) r' h' q hc hs
      exact ⟨r2, h2, by rw [forL, hc _ _ _ _ i0, gd_true, e]; exact e2, by simpa using q2⟩
    · obtain ⟨r2, h2, e2, q2⟩ := forL_inv I xs (done ++ [x]) r' h' q hc hs
      exact ⟨r2, h2, by rw [forL, hc _ _ _ _ i0, gd_true, e]; exact e2, by simpa using q2⟩
/-- a comprehension whose turns change nothing but the list -/
theorem compL_pure {chk : Hm → Bool} {b : U → Hm → R (Option U)} (h : Hm) (g : U → U) : ∀ (xs acc : List U), (∀ x ∈ xs, ∀ acc, b x (h ++ [.lst acc]) = .ok (some (g x)) (h ++ [.lst acc])) → (∀ acc, chk (h ++ [.lst acc]) = true) → acc.length + xs.length ≤ SZ →
    compL chk h.length b xs acc (h ++ [.lst acc]) = .ok (.ref h.length) (h ++ [.lst (acc ++ xs.map g)])
  | [], acc, hb, hc, hl => by simp [compL, hc]
  | x :: xs, acc, hb, hc, hl => by
    have hl' : acc.length < SZ := by simp at hl; omega
    rw [compL, hc]
    simp only [get_at0, List.getElem?_cons_zero, obeq_some, Bool.and_self, gd_true, hb x List.mem_cons_self acc, R.bind_ok, hl', decide_true, set_at0, List.set_cons_zero]
    rw [compL_pure h g xs (acc ++ [g x]) (fun y hy => hb y (List.mem_cons_of_mem _ hy)) hc (by simp at hl ⊢; omega)]
    simp
/-- .. with a test -/
theorem compL_filter {chk : Hm → Bool} {b : U → Hm → R (Option U)} (h : Hm) (g : U → Option U) : ∀ (xs acc : List U), (∀ x ∈ xs, ∀ acc, b x (h ++ [.lst acc]) = .ok (g x) (h ++ [.lst acc])) → (∀ acc, chk (h ++ [.lst acc]) = true) → acc.length + xs.length ≤ SZ →
    compL chk h.length b xs acc (h ++ [.lst acc]) = .ok (.ref h.length) (h ++ [.lst (acc ++ xs.filterMap g)])
  | [], acc, hb, hc, hl => by simp [compL, hc]
  | x :: xs, acc, hb, hc, hl => by
    have hl' : acc.length < SZ := by simp at hl; omega
    rw [compL, hc]
    simp only [get_at0, List.getElem?_cons_zero, obeq_some, Bool.and_self, gd_true, hb x List.mem_cons_self acc, R.bind_ok, hl', decide_true, set_at0, List.set_cons_zero]
    cases hg : g x with
    | none =>
      simp only
      rw [compL_filter h g xs acc (fun y hy => hb y (List.mem_cons_of_mem _ hy)) hc (by simp at hl ⊢; omega), List.filterMap_cons_none hg]
    | some u =>
      simp only
      rw [compL_filter h g xs (acc ++ [u]) (fun y hy => hb y (List.mem_cons_of_mem _ hy)) hc (by simp at hl ⊢; omega), List.filterMap_cons_some hg]
      simp
end Mp
namespace Mp
/-- a loop that goes through, then the rest -/
theorem loop_next {h : Hm} {r : En} {X : R Fl} {F : Fl → Hm → R Fl} {res : R U} {I : En → Hm → Prop} (w : ∃ r' h', X = .ok (.next r') h' ∧ I r' h') (k : ∀ r' h', I r' h' → ended h (F (.next r') h') = res) : ended h ((toS r X).bind F) = res := by
  obtain ⟨r', h', e, i⟩ := w
  rw [e]
  exact k r' h' i
/-- the same ahead of any wish -/
theorem loop_nextX {r : En} {X : R Fl} {β : Type} {F : Fl → Hm → R β} {res : R β} {I : En → Hm → Prop} (w : ∃ r' h', X = .ok (.next r') h' ∧ I r' h') (k : ∀ r' h', I r' h' → F (.next r') h' = res) : (toS r X).bind F = res := by
  obtain ⟨r', h', e, i⟩ := w
  rw [e]
  exact k r' h' i
/-- the invariant by how many turns are done -/
theorem forL_ix {chk : Hm → Bool} {b : U → En → Hm → R Fl} {xs : List U} {r : En} {h : Hm} (I : Nat → En → Hm → Prop) (i0 : I 0 r h) (hc : ∀ n r h, n ≤ xs.length → I n r h → chk h = true)
    (hs : ∀ n x r h, xs[n]? = some x → I n r h → ∃ r' h', b x r h = .ok (.next r') h' ∧ I (n + 1) r' h') : ∃ r' h', forL chk b xs r h = .ok (.next r') h' ∧ I xs.length r' h' := by
  have key : ∀ (ys : List U) (n : Nat) (r : En) (h : Hm), n + ys.length = xs.length → (∀ j, ys[j]? = xs[n + j]?) → I n r h → ∃ r' h', forL chk b ys r h = .ok (.next r') h' ∧ I xs.length r' h' := by
    intro ys
    induction ys with
    | nil =>
      intro n r h hl _ i
      have : n = xs.length := by simpa using hl
      subst this
      exact ⟨r, h, by rw [forL, hc _ _ _ (Nat.le_refl _) i]; rfl, i⟩
    | cons y ys ih =>
      intro n r h hl hx i
      have h0 := hx 0
      simp only [List.getElem?_cons_zero, Nat.add_zero] at h0
      obtain ⟨r1, h1, e1, i1⟩ := hs n y r h h0.symm i
      obtain ⟨r2, h2, e2, i2⟩ := ih (n + 1) r1 h1 (by simp at hl; omega) (fun j => by have := hx (j + 1); rw [List.getElem?_cons_succ] at this; rw [this]; congr 1; omega) i1
      exact ⟨r2, h2, by rw [forL, hc _ _ _ (by simp at hl; omega) i, gd_true, e1]; exact e2, i2⟩
  exact key xs 0 r h (by simp) (fun j => by simp) i0
theorem enum_at {n : Nat} {xs : List U} {x : U} (h : (enumU 0 xs)[n]? = some x) : ∃ y, xs[n]? = some y ∧ x = .tup [.int n, y] := by
  have key : ∀ (m n : Nat) (xs : List U), (enumU m xs)[n]? = xs[n]?.map fun x => U.tup [.int (m + n : Nat), x] := by
    intro m n xs
    induction xs generalizing m n with
    | nil => simp [enumU]
    | cons a r ih =>
      cases n with
      | zero => simp [enumU]
      | succ n => rw [enumU, List.getElem?_cons_succ, ih, List.getElem?_cons_succ]; congr 1; funext x; congr 3; omega
  rw [key] at h
  cases hx : xs[n]? with
  | none => rw [hx] at h; cases h
  | some y => rw [hx] at h; cases h; exact ⟨y, rfl, by rw [Nat.zero_add]⟩
@[simp] theorem enum_len (m : Nat) (xs : List U) : (enumU m xs).length = xs.length := by
  induction xs generalizing m with
  | nil => rfl
  | cons a r ih => simp [enumU, ih]
theorem signs_at {v : List Nat} {n : Nat} {y : U} (h : (v.map fun c => U.str [c])[n]? = some y) : ∃ c, v[n]? = some c ∧ y = .str [c] := by
  rw [List.getElem?_map] at h
  cases hx : v[n]? with
  | none => rw [hx] at h; cases h
  | some c => rw [hx] at h; cases h; exact ⟨c, rfl, rfl⟩
theorem memS {h : Hm} {t : List Nat} {c : Nat} {neg : Bool} : memU h (.str [c]) (.str t) neg = .ok (.bl (xor neg (decide (0 ≤ findL t [c] 0)))) h := by simp [memU]
end Mp
namespace Mp
theorem cix_nn {n d : Nat} {i : Int} (h : 0 ≤ i) : cix n d (some i) = min i.toNat n := if_neg (by omega)
theorem cut_from {α : Type} (xs : List α) {i : Int} (h : 0 ≤ i) : cutL xs (some i) none = xs.drop i.toNat := by
  unfold cutL
  rw [cix_nn h, show cix xs.length xs.length none = xs.length from rfl, List.take_of_length_le (by simp)]
  by_cases hl : i.toNat ≤ xs.length
  · rw [Nat.min_eq_left hl]
  · rw [Nat.min_eq_right (by omega), List.drop_length, List.drop_of_length_le (by omega)]
theorem cut_to {α : Type} (xs : List α) {i : Int} (h : 0 ≤ i) : cutL xs none (some i) = xs.take i.toNat := by
  unfold cutL
  rw [cix_nn h, show cix xs.length 0 none = 0 from rfl, List.drop_zero, Nat.sub_zero]
  by_cases hl : i.toNat ≤ xs.length
  · rw [Nat.min_eq_left hl]
  · rw [Nat.min_eq_right (by omega), List.take_length, List.take_of_length_le (by omega)]
theorem cut_both {α : Type} (xs : List α) {i j : Int} (h : 0 ≤ i) (h2 : 0 ≤ j) : cutL xs (some i) (some j) = (xs.drop i.toNat).take (j.toNat - i.toNat) := by
  unfold cutL
  rw [cix_nn h, cix_nn h2]
  by_cases hl : i.toNat ≤ xs.length
  · rw [Nat.min_eq_left hl]
    by_cases hj : j.toNat ≤ xs.length
    · rw [Nat.min_eq_left hj]
    · rw [Nat.min_eq_right (by omega), List.take_of_length_le (by simp), List.take_of_length_le (by simp; omega)]
  · have e1 : min i.toNat xs.length = xs.length := Nat.min_eq_right (by omega)
    rw [e1, List.drop_length, List.drop_of_length_le (show xs.length ≤ i.toNat by omega)]
    simp
@[simp] theorem cut_all {α : Type} (xs : List α) : cutL xs none none = xs := by
  unfold cutL
  rw [show cix xs.length xs.length none = xs.length from rfl, show cix xs.length 0 none = 0 from rfl]
  simp
@[simp] theorem cut_fromN {α : Type} (xs : List α) (i : Nat) : cutL xs (some (i : Int)) none = xs.drop i := by rw [cut_from xs (Int.natCast_nonneg i)]; simp
@[simp] theorem cut_toN {α : Type} (xs : List α) (i : Nat) : cutL xs none (some (i : Int)) = xs.take i := by rw [cut_to xs (Int.natCast_nonneg i)]; simp
@[simp] theorem cut_bothN {α : Type} (xs : List α) (i j : Nat) : cutL xs (some (i : Int)) (some (j : Int)) = (xs.drop i).take (j - i) := by rw [cut_both xs (Int.natCast_nonneg i) (Int.natCast_nonneg j)]; simp
@[simp] theorem cut_1 {α : Type} (xs : List α) : cutL xs (some 1) none = xs.drop 1 := cut_fromN xs 1
theorem nix_nat {n i : Nat} (h : i < n) : nix n (i : Int) = some i := by unfold nix; rw [if_pos (by omega), if_pos (by omega)]; simp
theorem nix_nn {n : Nat} {i : Int} (h : 0 ≤ i) (h2 : i < n) : nix n i = some i.toNat := by unfold nix; rw [if_pos h, if_pos h2]
theorem nix_last {n : Nat} (h : 0 < n) : nix n (-1) = some (n - 1) := by unfold nix; rw [if_neg (by decide), if_pos (by omega)]; congr 1; omega
end Mp
namespace Mp
theorem comp_use {chk : Hm → Bool} {b : U → Hm → R (Option U)} {xs : List U} {n : Nat} {h0 : Hm} (hh : Hm) (g : U → U) (hn : n = hh.length) (e0 : h0 = hh ++ [.lst []]) (hb : ∀ x ∈ xs, ∀ acc, b x (hh ++ [.lst acc]) = .ok (some (g x)) (hh ++ [.lst acc]))
    (hc : ∀ acc, chk (hh ++ [.lst acc]) = true) (hl : xs.length ≤ SZ) : compL chk n b xs [] h0 = .ok (.ref hh.length) (hh ++ [.lst (xs.map g)]) := by
  subst hn e0
  rw [compL_pure hh g xs [] hb hc (by simpa using hl)]
  rfl
theorem comp_useF {chk : Hm → Bool} {b : U → Hm → R (Option U)} {xs : List U} {n : Nat} {h0 : Hm} (hh : Hm) (g : U → Option U) (hn : n = hh.length) (e0 : h0 = hh ++ [.lst []]) (hb : ∀ x ∈ xs, ∀ acc, b x (hh ++ [.lst acc]) = .ok (g x) (hh ++ [.lst acc]))
    (hc : ∀ acc, chk (hh ++ [.lst acc]) = true) (hl : xs.length ≤ SZ) : compL chk n b xs [] h0 = .ok (.ref hh.length) (hh ++ [.lst (xs.filterMap g)]) := by
  subst hn e0
  rw [compL_filter hh g xs [] hb hc (by simpa using hl)]
  rfl
end Mp
namespace Mp
theorem swept_setFlat0 {h l : Hm} {i : Nat} {o p : O} (f : flatO o = true) (e : l[0]? = some p) (g : flatO p = true) : swept h (.ref h.length) (h.set i o ++ l) = .ok (.ref h.length) (h.set i o ++ [p]) := swept_setFlat (j := 0) f e g
theorem set_app {h l : Hm} {s : Nat} (hl : s < h.length) (o p : O) : (h.set s o ++ l).set s p = h.set s p ++ l := by
  rw [List.set_append_left _ _ (by simpa using hl), List.set_set]
theorem set_app0 {h l : Hm} {s : Nat} (hl : s < h.length) (p : O) : (h ++ l).set s p = h.set s p ++ l := List.set_append_left _ _ hl
theorem get_app {h l : Hm} {s : Nat} (hl : s < h.length) (o : O) : (h.set s o ++ l)[s]? = some o := by
  rw [List.getElem?_append_left (by simpa using hl), List.getElem?_set_self hl]
@[simp] theorem get_setL (h l : Hm) (s j : Nat) (o : O) : (h.set s o ++ l)[h.length + j]? = l[j]? := by
  have : h.length = (h.set s o).length := by simp
  rw [this, get_at]
@[simp] theorem get_setL0 (h l : Hm) (s : Nat) (o : O) : (h.set s o ++ l)[h.length]? = l[0]? := get_setL h l s 0 o
@[simp] theorem upTo_range (n : Nat) : upTo 0 1 n = (List.range n).map fun i : Nat => U.int (i : Int) := by
  have key : ∀ (n : Nat) (a : Int), upTo a 1 n = (List.range n).map fun i : Nat => U.int (a + (i : Int)) := by
    intro n
    induction n with
    | zero => intro a; rfl
    | succ n ih =>
      intro a
      rw [upTo, ih, List.range_succ_eq_map, List.map_cons, List.map_map]
      simp only [Function.comp_def, Int.natCast_zero, Int.add_zero, Int.natCast_succ]
      congr 1
      apply List.map_congr_left
      intro i _
      congr 1
      omega
  rw [key]
  simp
end Mp

set_option linter.all false
set_option maxRecDepth 100000
namespace Mp
/-- letters -/
def Lw (v : List Nat) : Prop := ∀ c ∈ v, 97 ≤ c ∧ c ≤ 122
theorem Lw.at_ {v : List Nat} (h : Lw v) {n c : Nat} (e : v[n]? = some c) : 97 ≤ c ∧ c ≤ 122 := h c (List.mem_of_getElem? e)
theorem Lw.take {v : List Nat} (h : Lw v) (n : Nat) : Lw (v.take n) := fun c hc => h c (List.mem_of_mem_take hc)
theorem Lw.drop {v : List Nat} (h : Lw v) (n : Nat) : Lw (v.drop n) := fun c hc => h c (List.mem_of_mem_drop hc)
theorem Lw.rev {v : List Nat} (h : Lw v) : Lw v.reverse := fun c hc => h c (by simpa using hc)
theorem Lw.app {v w : List Nat} (h : Lw v) (h' : Lw w) : Lw (v ++ w) := fun c hc => (List.mem_append.mp hc).elim (h c) (h' c)
def abc : List Nat := [97, 98, 99, 100, 101, 102, 103, 104, 105, 106, 107, 108, 109, 110, 111, 112, 113, 114, 115, 116, 117, 118, 119, 120, 121, 122]
theorem find_abc {c : Nat} (h : 97 ≤ c ∧ c ≤ 122) : findL [97, 98, 99, 100, 101, 102, 103, 104, 105, 106, 107, 108, 109, 110, 111, 112, 113, 114, 115, 116, 117, 118, 119, 120, 121, 122] [c] 0 = (c : Int) - 97 := by
  obtain ⟨h1, h2⟩ := h
  have : ∀ d : Fin 26, findL abc [97 + d.val] 0 = (d.val : Int) := by decide +kernel
  have := this ⟨c - 97, by omega⟩
  simp only at this
  rw [show 97 + (c - 97) = c by omega] at this
  exact this.trans (by omega)
variable {T : Nat → Option Fd}
theorem odd_place_ok (hT : T 2 = some f_odd_place) {v : List Nat} (hv : Lw v) (k : Nat) (h : Hm) : callF T (k + 1) 2 [.str v] h = .ok .non h := by
  rw [callF_run hT rfl]
  simp [f_odd_place, itR, enumR, walked]
  refine loop_next (I := fun r' h' => h' = h) ?_ (fun r' h' e => by subst e; simp)
  refine (forL_ix (fun n r' h' => h' = h ∧ ∃ a b, r' = [some (.str v), a, b]) ⟨rfl, _, _, rfl⟩ (fun n r h' _ i => rfl) fun n x r h' hx i => ?_).imp fun r ⟨h', e, i⟩ => ⟨h', e, i.1⟩
  obtain ⟨rfl, a, b, rfl⟩ := i
  obtain ⟨y, hy, rfl⟩ := enum_at hx
  obtain ⟨c, hc, rfl⟩ := signs_at hy
  have := find_abc (hv.at_ hc)
  have h0 : ¬ ((c : Int) < 97) := by have := hv.at_ hc; omega
  simp [prim, pNin, memS, this, truthy, h0]
  exact ⟨_, _, ⟨rfl, rfl⟩, rfl, _, _, rfl⟩
theorem need_presses_ok (hT2 : T 2 = some f_odd_place) (hT : T 3 = some f_need_presses) {v : List Nat} (hv : Lw v) (hl : v.length ≤ 200) (k : Nat) (h : Hm) : callF T (k + 2) 3 [.str v] h = .ok .non h := by
  have hs : v.length ≤ SZ := Nat.le_trans hl (by decide)
  have h2 : ¬ (200 : Int) < (v.length : Int) := by omega
  rw [callF_run hT rfl]
  simp [f_need_presses, prim, pIsi, tyN, isSub, truthy, pLen, pGt, hs, h2, odd_place_ok hT2 hv, pIsNN, isNon]
theorem need_text_ok (hT2 : T 2 = some f_odd_place) (hT : T 21 = some f_need_text) {v : List Nat} (hv : Lw v) (hl : v.length ≤ 20000) (k : Nat) (h : Hm) : callF T (k + 2) 21 [.str v] h = .ok .non h := by
  have hs : v.length ≤ SZ := Nat.le_trans hl (by decide)
  have h2 : ¬ (20000 : Int) < (v.length : Int) := by omega
  rw [callF_run hT rfl]
  simp [f_need_text, prim, pIsi, tyN, isSub, truthy, pLen, pGt, hs, h2, odd_place_ok hT2 hv, pIsNN, isNon]
theorem turned_text_ok (hT2 : T 2 = some f_odd_place) (hT21 : T 21 = some f_need_text) (hT : T 22 = some f_turned_text) {v : List Nat} (hv : Lw v) (hl : v.length ≤ 20000) (k : Nat) (h : Hm) : callF T (k + 3) 22 [.str v] h = .ok (.str v.reverse) h := by
  have hs : v.length ≤ SZ := Nat.le_trans hl (by decide)
  rw [callF_run hT rfl]
  simp [f_turned_text, prim, pRev, hs, need_text_ok hT2 hT21 hv hl]

def wt : List Nat → Nat → Int
  | [], _ => 1
  | x :: w, y => if y = x then wt w x else wt w y + wt w x
def Lr : List Nat → Int
  | [] => 0
  | x :: w => Lr w + wt w x
def lastR : List Nat → Nat → Option Nat
  | [], _ => none
  | d :: r, c => if d = c then some r.length else lastR r c
theorem wt_pos : ∀ (w : List Nat) (y : Nat), 1 ≤ wt w y
  | [], _ => Int.le_refl _
  | x :: w, y => by
    have h1 := wt_pos w x
    have h2 := wt_pos w y
    unfold wt; split <;> omega
theorem Lr_nonneg : ∀ w : List Nat, 0 ≤ Lr w
  | [] => Int.le_refl _
  | x :: w => by have := Lr_nonneg w; have := wt_pos w x; unfold Lr; omega
theorem wt_le : ∀ (w : List Nat) (y : Nat), wt w y ≤ Lr w + 1
  | [], _ => by simp [wt, Lr]
  | x :: w, y => by
    have h1 := wt_le w x
    have h2 := wt_le w y
    have h3 := wt_pos w x
    unfold wt Lr; split <;> omega
theorem Lr_lt : ∀ w : List Nat, Lr w + 1 ≤ 2 ^ w.length
  | [] => by simp [Lr]
  | x :: w => by
    have h1 := Lr_lt w
    have h2 := wt_le w x
    unfold Lr
    rw [List.length_cons, Int.pow_succ]
    omega
theorem wt_new : ∀ (w : List Nat) (x : Nat), lastR w x = none → wt w x = Lr w + 1
  | [], x, _ => by simp [wt, Lr]
  | y :: w, x, h => by
    unfold lastR at h
    split at h
    · cases h
    · rename_i hn
      have ih := wt_new w x h
      unfold wt Lr
      rw [if_neg (fun e => hn e.symm)]
      omega
theorem wt_old : ∀ (w : List Nat) (x n : Nat), lastR w x = some n → wt w x = Lr w - Lr (w.drop (w.length - n)) ∧ n < w.length
  | [], x, n, h => by cases h
  | y :: w, x, n, h => by
    have eL : Lr (y :: w) = Lr w + wt w y := rfl
    unfold lastR at h
    split at h
    · rename_i e
      cases h
      subst e
      have e1 : wt (y :: w) y = wt w y := by rw [wt, if_pos rfl]
      rw [e1, eL, List.length_cons, show w.length + 1 - w.length = 1 by omega, List.drop_succ_cons, List.drop_zero]
      omega
    · rename_i hn
      obtain ⟨ih, hl⟩ := wt_old w x n h
      have e1 : wt (y :: w) x = wt w x + wt w y := by rw [wt, if_neg (fun e => hn e.symm)]
      rw [e1, eL, List.length_cons, show w.length + 1 - n = (w.length - n) + 1 by omega, List.drop_succ_cons]
      omega
/-- the length of a mirror -/
def Lm (v : List Nat) : Int := Lr v.reverse
theorem Lm_nil : Lm [] = 0 := rfl
theorem rev_snoc (p : List Nat) (c : Nat) : (p ++ [c]).reverse = c :: p.reverse := by simp
theorem take_snoc {v : List Nat} {n c : Nat} (h : v[n]? = some c) : v.take (n + 1) = v.take n ++ [c] := by
  rw [List.take_succ, h]; rfl
theorem Lm_snoc (p : List Nat) (c : Nat) : Lm (p ++ [c]) = Lm p + wt p.reverse c := by unfold Lm; rw [rev_snoc]; rfl
theorem Lm_nonneg (v : List Nat) : 0 ≤ Lm v := Lr_nonneg _
theorem Lm_lt (v : List Nat) : Lm v < 2 ^ v.length := by
  have := Lr_lt v.reverse
  rw [List.length_reverse] at this
  show Lr v.reverse < _
  omega
/-- the last like press ahead of place n -/
def prevU (v : List Nat) (n : Nat) : U := match v[n]? with
  | some c => match lastR (v.take n).reverse c with
    | some j => .int j
    | none => .non
  | none => .non
def lastsL (v : List Nat) (n : Nat) : List U := (List.range n).map (prevU v)
def lensL (v : List Nat) (n : Nat) : List U := (List.range n).map fun i => .int (Lm (v.take i))
theorem lastsL_succ (v : List Nat) (n : Nat) : lastsL v (n + 1) = lastsL v n ++ [prevU v n] := by simp [lastsL, List.range_succ]
theorem lensL_succ (v : List Nat) (n : Nat) : lensL v (n + 1) = lensL v n ++ [.int (Lm (v.take n))] := by simp [lensL, List.range_succ]
theorem lastsL_len (v : List Nat) (n : Nat) : (lastsL v n).length = n := by simp [lastsL]
theorem lensL_len (v : List Nat) (n : Nat) : (lensL v n).length = n := by simp [lensL]
theorem lensL_at (v : List Nat) {n i : Nat} (h : i < n) : (lensL v n)[i]? = some (.int (Lm (v.take i))) := by simp [lensL, h]
@[simp] theorem lensL_get (v : List Nat) {n i : Nat} (h : i < (lensL v n).length) : (lensL v n)[i] = .int (Lm (v.take i)) := by simp [lensL]
theorem lastsL_at (v : List Nat) {n i : Nat} (h : i < n) : (lastsL v n)[i]? = some (prevU v i) := by simp [lastsL, h]
theorem cleans_map {α : Type} (l : List α) (f : α → U) (h : ∀ a ∈ l, clean (f a) = true) : cleans (l.map f) = true := by
  induction l with
  | nil => rfl
  | cons a r ih => simp [cleans, h a List.mem_cons_self, ih fun b hb => h b (List.mem_cons_of_mem _ hb)]
theorem prevU_clean (v : List Nat) (n : Nat) : clean (prevU v n) = true := by
  unfold prevU; split
  · split <;> rfl
  · rfl
theorem flat_lasts (v : List Nat) (n : Nat) : flatO (.lst (lastsL v n)) = true := cleans_map _ _ fun a _ => prevU_clean v a
theorem flat_lens (v : List Nat) (n : Nat) : flatO (.lst (lensL v n)) = true := cleans_map _ _ fun a _ => rfl
theorem keyEq_str (a : U) (c d : Nat) (h : keyEq a (.str [c]) = true) : keyEq a (.str [d]) = decide (d = c) := by
  cases a with
  | str s =>
    simp only [keyEq, beq_iff_eq] at h
    subst h
    by_cases e : d = c
    · subst e; simp [keyEq]
    · simp [keyEq, e, Ne.symm e]
  | _ => simp [keyEq] at h
theorem dget_map (c : Nat) (y : U) (d : Nat) : ∀ r : List (U × U), dget (r.map fun kv => if keyEq kv.1 (.str [c]) = true then (kv.1, y) else kv) (.str [d]) =
    if d = c then (if (r.any fun kv => keyEq kv.1 (.str [c])) = true then some y else none) else dget r (.str [d])
  | [] => by simp [dget]
  | (a, b) :: r => by
    have ih := dget_map c y d r
    rw [List.map_cons, List.any_cons]
    by_cases h1 : keyEq a (.str [c]) = true
    · simp only [h1, if_true, Bool.true_or]
      rw [dget, keyEq_str a c d h1]
      by_cases e : d = c
      · simp [e]
      · simp only [e, decide_false, Bool.false_eq_true, if_false]
        rw [ih, dget, keyEq_str a c d h1]
        simp [e]
    · simp only [h1, Bool.false_eq_true, if_false, Bool.false_or]
      rw [dget, ih]
      by_cases e : d = c
      · subst e
        simp [h1]
      · simp only [e, if_false]
        rw [dget]
theorem dget_snoc (c : Nat) (y : U) (d : Nat) : ∀ r : List (U × U), ¬ (r.any fun kv => keyEq kv.1 (.str [c])) = true → dget (r ++ [(.str [c], y)]) (.str [d]) = if d = c then some y else dget r (.str [d])
  | [], _ => by
    rw [List.nil_append]
    by_cases e : d = c
    · simp [dget, keyEq, e]
    · have : keyEq (.str [c]) (.str [d]) = false := by simp [keyEq, Ne.symm e]
      simp [dget, this, e]
  | (a, b) :: r, h => by
    have h1 : keyEq a (.str [c]) = false := by simp at h; simpa using h.1
    have h2 : ¬ (r.any fun kv => keyEq kv.1 (.str [c])) = true := by simp at h ⊢; exact h.2
    rw [List.cons_append, dget, dget_snoc c y d r h2]
    by_cases e : d = c
    · subst e
      simp [h1]
    · simp only [e, if_false]
      rw [dget]
theorem dget_put (kvs : List (U × U)) (c : Nat) (y : U) (d : Nat) : dget (dput kvs (.str [c]) y) (.str [d]) = if d = c then some y else dget kvs (.str [d]) := by
  unfold dput
  split
  · rename_i hany
    rw [dget_map, hany]
    simp
  · rename_i hany
    exact dget_snoc c y d kvs hany
theorem dput_len (kvs : List (U × U)) (x y : U) : (dput kvs x y).length ≤ kvs.length + 1 := by
  unfold dput; split <;> simp
theorem lasts_of_ok (hT : T 4 = some f_lasts_of) {v : List Nat} (hl : v.length ≤ 20000) (k : Nat) (h : Hm) : callF T (k + 1) 4 [.str v] h = .ok (.ref h.length) (h ++ [.lst (lastsL v v.length)]) := by
  have hs : v.length ≤ SZ := Nat.le_trans hl (by decide)
  rw [callF_run hT rfl]
  simp [f_lasts_of, prim, pDic, pLst, new, pTup, itR, enumR, walked, SZ]
  refine loop_next (I := fun r' h' => ∃ kvs a b, h' = h ++ [.dic kvs, .lst (lastsL v v.length)] ∧ r' = [some (.str v), some (.ref h.length), some (.ref (h.length + 1)), a, b]) ?_ (fun r' h' e => ?_)
  · refine (forL_ix (fun n r' h' => ∃ kvs a b, h' = h ++ [.dic kvs, .lst (lastsL v n)] ∧ r' = [some (.str v), some (.ref h.length), some (.ref (h.length + 1)), a, b] ∧ kvs.length ≤ n ∧
      ∀ c, dget kvs (.str [c]) = (lastR (v.take n).reverse c).map fun j : Nat => U.int (j : Int)) ⟨[], _, _, rfl, rfl, Nat.le_refl _, fun c => rfl⟩ (fun n r h' _ i => rfl) fun n x r h' hx i => ?_).imp fun r ⟨h', e, kvs, a, b, i1, i2, _⟩ => ⟨h', e, kvs, a, b, by simpa using i1, i2⟩
    obtain ⟨kvs, a, b, rfl, rfl, i3, i4⟩ := i
    obtain ⟨y, hy, rfl⟩ := enum_at hx
    obtain ⟨c, hc, rfl⟩ := signs_at hy
    have hn : n < v.length := (List.getElem?_eq_some_iff.mp hc).1
    have h1 : n < SZ := Nat.lt_of_lt_of_le hn hs
    have h2 : kvs.length < SZ := Nat.lt_of_le_of_lt i3 h1
    have hp : prevU v n = ((lastR (v.take n).reverse c).map fun j : Nat => U.int (j : Int)).getD .non := by
      unfold prevU
      rw [hc]
      simp only
      cases lastR (v.take n).reverse c <;> rfl
    have d0 : h.length + 1 - h.length = 1 := by omega
    simp [prim, pAppend, pGet1, tyN, isKey, store, i4, h1, h2, lastsL_len, get_at h _ 1]
    refine ⟨_, _, ⟨rfl, rfl⟩, dput kvs (.str [c]) (.int n), ?_, ⟨_, _, rfl⟩, Nat.le_trans (dput_len _ _ _) (by omega), fun d => ?_⟩
    · rw [lastsL_succ, hp]
    · rw [dget_put, take_snoc hc, rev_snoc, i4]
      rw [show lastR (c :: (v.take n).reverse) d = if c = d then some (v.take n).reverse.length else lastR (v.take n).reverse d from rfl]
      by_cases e : d = c
      · subst e; simp; omega
      · simp [e, Ne.symm e]
  · obtain ⟨kvs, a, b, rfl, rfl⟩ := e
    simp
    exact swept_flat (j := 1) rfl (flat_lasts _ _)

theorem log_lt {n : Nat} {i : Int} (h0 : 0 ≤ i) (h : i < 2 ^ n) (hn : n < 900000) : Nat.log2 2 + i.natAbs.log2 < 1000000 := by
  have h1 : i.natAbs < 2 ^ n := by
    have : ((i.natAbs : Nat) : Int) < ((2 ^ n : Nat) : Int) := by rw [Int.natAbs_of_nonneg h0, Int.natCast_pow]; exact h
    exact Int.ofNat_lt.mp this
  have h2 : i.natAbs.log2 ≤ n := by
    by_cases hz : i.natAbs = 0
    · rw [hz]; simp
    · exact Nat.le_of_lt ((Nat.log2_lt hz).mpr h1)
  have h3 : Nat.log2 2 = 1 := by decide
  omega
theorem lens_next {v : List Nat} {n c : Nat} (hc : v[n]? = some c) : Lm (v.take (n + 1)) = match lastR (v.take n).reverse c with
    | none => 2 * Lm (v.take n) + 1
    | some j => 2 * Lm (v.take n) - Lm (v.take j) := by
  have hn : n < v.length := (List.getElem?_eq_some_iff.mp hc).1
  rw [take_snoc hc, Lm_snoc]
  cases h : lastR (v.take n).reverse c with
  | none =>
    rw [wt_new _ _ h]
    show Lm (v.take n) + (Lm (v.take n) + 1) = 2 * Lm (v.take n) + 1
    omega
  | some j =>
    obtain ⟨e, hj⟩ := wt_old _ _ _ h
    rw [e]
    have hj' : j < n := by simp at hj; omega
    have : (v.take j).reverse = (v.take n).reverse.drop ((v.take n).reverse.length - j) := by
      rw [List.length_reverse, ← List.reverse_take, List.take_take, Nat.min_eq_left (Nat.le_of_lt hj')]
    rw [← this]
    show Lm (v.take n) + (Lm (v.take n) - Lm (v.take j)) = 2 * Lm (v.take n) - Lm (v.take j)
    omega
theorem lastR_lt {w : List Nat} {c j : Nat} (h : lastR w c = some j) : j < w.length := (wt_old w c j h).2
theorem lengths_of_ok (hT4 : T 4 = some f_lasts_of) (hT : T 5 = some f_lengths_of) {v : List Nat} (hl : v.length ≤ 20000) (k : Nat) (h : Hm) : callF T (k + 2) 5 [.str v] h = .ok (.ref h.length) (h ++ [.lst (lensL v (v.length + 1))]) := by
  have hs : v.length ≤ 20000 := hl
  rw [callF_run hT rfl]
  simp [f_lengths_of, prim, pLst, new, SZ, lasts_of_ok hT4 hl, walked]
  refine loop_next (I := fun r' h' => ∃ a, h' = h ++ [.lst (lensL v (v.length + 1)), .lst (lastsL v v.length)] ∧ r' = [some (.str v), some (.ref h.length), a]) ?_ (fun r' h' e => ?_)
  · refine (forL_ix (fun n r' h' => ∃ a, h' = h ++ [.lst (lensL v (n + 1)), .lst (lastsL v v.length)] ∧ r' = [some (.str v), some (.ref h.length), a]) ⟨_, rfl, rfl⟩ (fun n r h' _ ⟨a, i, _⟩ => by subst i; simp [get_at h _ 1]) fun n x r h' hx i => ?_).imp fun r ⟨h', e, i⟩ => ⟨h', e, by simpa [lastsL_len] using i⟩
    obtain ⟨a, rfl, rfl⟩ := i
    have hn : n < v.length := by have := (List.getElem?_eq_some_iff.mp hx).1; rwa [lastsL_len] at this
    rw [lastsL_at v hn] at hx
    cases hx
    have hc : v[n]? = some v[n] := List.getElem?_eq_getElem hn
    have last : pIx [.ref h.length, .int (-1)] (h ++ [.lst (lensL v (n + 1)), .lst (lastsL v v.length)]) = .ok (.int (Lm (v.take n))) (h ++ [.lst (lensL v (n + 1)), .lst (lastsL v v.length)]) := by
      have : nix (n + 1) (-1) = some n := by unfold nix; rw [if_neg (by decide), if_pos (by omega)]; congr 1; omega
      simp [pIx, items, lensL_len, this, lensL_at v (Nat.lt_succ_self n)]
    have hlog := log_lt (Lm_nonneg (v.take n)) (Lm_lt (v.take n)) (by simp; omega)
    have nx := lens_next hc
    have h3 : n + 1 < SZ := Nat.lt_of_le_of_lt (by omega : n + 1 ≤ 20000) (by decide)
    have pu : prevU v n = match lastR (v.take n).reverse v[n] with | some j => .int j | none => .non := by unfold prevU; rw [hc]
    cases hq : lastR (v.take n).reverse v[n] with
    | none =>
      rw [hq] at pu nx
      simp [prim, tyN, pIsN, pu, isNon, truthy, pNeg, last, pMul, hlog, pAdd, pAppend, lensL_len, h3]
      refine ⟨_, _, ⟨rfl, rfl⟩, ?_⟩
      simp [lensL_succ v (n + 1), nx]
    | some j =>
      have hj : j < n := by have := lastR_lt hq; simp at this; omega
      rw [hq] at pu nx
      have hix : pIx [.ref h.length, .int j] (h ++ [.lst (lensL v (n + 1)), .lst (lastsL v v.length)]) = .ok (.int (Lm (v.take j))) (h ++ [.lst (lensL v (n + 1)), .lst (lastsL v v.length)]) := by
        have : nix (n + 1) (j : Int) = some j := by unfold nix; rw [if_pos (by omega), if_pos (by omega)]; simp
        simp [pIx, items, lensL_len, this, lensL_at v (show j < n + 1 by omega)]
      simp [prim, tyN, pIsN, pu, isNon, truthy, pNeg, last, pMul, hlog, pSub, hix, pAppend, lensL_len, h3]
      refine ⟨_, _, ⟨rfl, rfl⟩, ?_⟩
      simp [lensL_succ v (n + 1), nx]
  · obtain ⟨a, rfl, rfl⟩ := e
    simp
    exact swept_flat0 rfl (flat_lens _ _)
theorem length_ok (hT2 : T 2 = some f_odd_place) (hT3 : T 3 = some f_need_presses) (hT4 : T 4 = some f_lasts_of) (hT5 : T 5 = some f_lengths_of) (hT : T 6 = some f_length) {v : List Nat} (hv : Lw v) (hl : v.length ≤ 200) (k : Nat) (h : Hm) :
    callF T (k + 3) 6 [.str v] h = .ok (.int (Lm v)) h := by
  have : nix (v.length + 1) (-1) = some v.length := by unfold nix; rw [if_neg (by decide), if_pos (by omega)]; congr 1; omega
  have hz : v.take v.length = v := by simp
  rw [callF_run hT rfl]
  simp [f_length, prim, need_presses_ok hT2 hT3 hv hl, lengths_of_ok hT4 hT5 (Nat.le_trans hl (by decide)), pNeg, pIx, items, lensL_len, this, hz]

/-- what the presses add -/
def grL (v : List Nat) : List Int := (List.range v.length).map fun i => Lm (v.take (i + 1)) - Lm (v.take i)
theorem grL_len (v : List Nat) : (grL v).length = v.length := by simp [grL]
theorem zip_lens (v : List Nat) : zipU (lensL v (v.length + 1)) (lensL v (v.length + 1)).tail = (List.range v.length).map fun i => .tup [.int (Lm (v.take i)), .int (Lm (v.take (i + 1)))] := by
  have key : ∀ (m n : Nat), zipU (((List.range (n + 1)).map (· + m)).map fun i => U.int (Lm (v.take i))) ((((List.range (n + 1)).map (· + m)).map fun i => U.int (Lm (v.take i))).drop 1) = (List.range n).map fun i => .tup [.int (Lm (v.take (i + m))), .int (Lm (v.take (i + m + 1)))] := by
    intro m n
    induction n generalizing m with
    | zero => simp [zipU]
    | succ n ih =>
      have h1 : (List.range (n + 2)).map (· + m) = m :: (List.range (n + 1)).map (· + (m + 1)) := by
        rw [List.range_succ_eq_map, List.map_cons, List.map_map]
        simp [Function.comp_def, Nat.add_assoc, Nat.add_comm 1 m]
      have h2 := ih (m + 1)
      rw [h1, List.map_cons, List.drop_one, List.tail_cons]
      have h3 : (List.range (n + 1)).map (· + (m + 1)) = (m + 1) :: (List.range n).map (· + (m + 2)) := by
        rw [List.range_succ_eq_map, List.map_cons, List.map_map]
        simp [Function.comp_def, Nat.add_assoc, Nat.add_comm 1 (m + 1)]
      rw [h3, List.map_cons, List.drop_one, List.tail_cons] at h2
      rw [h3, List.map_cons, zipU]
      rw [h2]
      rw [List.range_succ_eq_map, List.map_cons, List.map_map]
      simp [Function.comp_def, Nat.add_assoc, Nat.add_comm 1 m]
      intro a _
      rw [show a + (m + 2) = a + (1 + (m + 1)) by omega]
  have := key 0 v.length
  simpa [lensL] using this
theorem growths_ok (hT2 : T 2 = some f_odd_place) (hT3 : T 3 = some f_need_presses) (hT4 : T 4 = some f_lasts_of) (hT5 : T 5 = some f_lengths_of) (hT : T 7 = some f_growths) {v : List Nat} (hv : Lw v) (hl : v.length ≤ 200) (k : Nat) (h : Hm) :
    callF T (k + 3) 7 [.str v] h = .ok (.tup ((grL v).map .int)) h := by
  have hz : v.length ≤ 20000 := Nat.le_trans hl (by decide)
  rw [callF_run hT rfl]
  simp [f_growths, prim, need_presses_ok hT2 hT3 hv hl, lengths_of_ok hT4 hT5 hz, itR, zipR, walked, pCut, cutU, items, new, zip_lens]
  rw [comp_use (h ++ [.lst (lensL v (v.length + 1)), .lst (lensL v (v.length + 1)).tail]) (fun x => match x with | .tup [.int a, .int b] => .int (b - a) | _ => .non) (by simp) (by simp) (fun x hx acc => ?_) (fun acc => by simp [get_at h _ 1]) (by rw [List.length_map, List.length_range]; exact Nat.le_trans hl (by decide))]
  · simp [get_at h _ 2, pToTuple, items, grL]
    exact swept_clean (show cleans _ = true from cleans_map _ _ fun a _ => rfl)
  · obtain ⟨i, _, rfl⟩ := List.mem_map.mp hx
    simp [wipe, pSub]

def sm : Nat → (Nat → Int) → Int
  | 0, _ => 0
  | n + 1, f => sm n f + f n
def Pr (x : Nat) (a : Nat → Int) : Nat → Int := fun y => if y = x then a x else a y + a x
def Pw (w : List Nat) (a : Nat → Int) : Nat → Int := w.foldr Pr a
theorem sm_P : ∀ (N x : Nat) (a : Nat → Int), sm N (Pr x a) = sm N a + (N : Int) * a x - (if x < N then a x else 0)
  | 0, x, a => by simp [sm]
  | n + 1, x, a => by
    rw [sm, sm_P n x a, sm]
    unfold Pr
    rw [Int.natCast_add, Int.add_mul]
    by_cases h : n = x
    · subst h
      simp
      omega
    · rw [if_neg h]
      by_cases h2 : x < n
      · rw [if_pos h2, if_pos (by omega)]
        simp
        omega
      · rw [if_neg h2, if_neg (by omega)]
        simp
        omega
theorem sm_Pb : ∀ (N x : Nat) (a b : Nat → Int), sm N (fun y => Pr x a y * b y) = sm N (fun y => a y * b y) + a x * sm N b - (if x < N then a x * b x else 0)
  | 0, x, a, b => by simp [sm]
  | n + 1, x, a, b => by
    rw [sm, sm_Pb n x a b, sm, sm]
    unfold Pr
    rw [Int.mul_add]
    by_cases h : n = x
    · subst h
      simp
      omega
    · rw [if_neg h, Int.add_mul]
      by_cases h2 : x < n
      · rw [if_pos h2, if_pos (by omega)]
        omega
      · rw [if_neg h2, if_neg (by omega)]
        omega
def bil (N : Nat) (a b : Nat → Int) : Int := sm N a * sm N b - ((N : Int) - 1) * sm N (fun y => a y * b y)
theorem bil_P {N x : Nat} (h : x < N) (a b : Nat → Int) : bil N (Pr x a) b = bil N a b + ((N : Int) - 1) * (a x * b x) := by
  unfold bil
  rw [sm_P, sm_Pb, if_pos h, if_pos h]
  generalize sm N a = A
  generalize sm N b = B
  generalize sm N (fun y => a y * b y) = C
  generalize a x = p
  generalize b x = q
  generalize (N : Int) = M
  simp only [Int.add_mul, Int.sub_mul, Int.mul_add, Int.mul_sub, Int.mul_assoc, Int.one_mul, Int.mul_one]
  have e1 : M * (p * B) = M * (p * B) := rfl
  omega
theorem bil_comm (N : Nat) (a b : Nat → Int) : bil N a b = bil N b a := by
  unfold bil
  rw [Int.mul_comm (sm N a)]
  congr 2
  congr 1
  funext y
  exact Int.mul_comm _ _
theorem bil_adj {N x : Nat} (h : x < N) (a b : Nat → Int) : bil N (Pr x a) b = bil N a (Pr x b) := by
  rw [bil_P h, bil_comm N a (Pr x b), bil_P h, bil_comm N b a, Int.mul_comm (b x)]
theorem bil_w {N : Nat} : ∀ (w : List Nat) (a b : Nat → Int), (∀ x ∈ w, x < N) → bil N (Pw w a) b = bil N a (Pw w.reverse b)
  | [], a, b, _ => rfl
  | x :: w, a, b, h => by
    show bil N (Pr x (Pw w a)) b = _
    rw [bil_adj (h x List.mem_cons_self), bil_w w a (Pr x b) fun y hy => h y (List.mem_cons_of_mem _ hy)]
    congr 1
    unfold Pw
    rw [List.reverse_cons, List.foldr_append]
    rfl
theorem wt_Pw : ∀ w : List Nat, wt w = Pw w fun _ => 1
  | [] => rfl
  | x :: w => by
    funext y
    show wt (x :: w) y = Pr x (Pw w fun _ => 1) y
    rw [← wt_Pw w]
    unfold wt Pr
    rfl
theorem sm_one : ∀ N : Nat, sm N (fun _ => 1) = N
  | 0 => rfl
  | n + 1 => by rw [sm, sm_one n]; omega
theorem sm_wt {N : Nat} : ∀ w : List Nat, (∀ x ∈ w, x < N) → sm N (wt w) = N + ((N : Int) - 1) * Lr w
  | [], _ => by
    show sm N (fun _ => 1) = _
    rw [sm_one]; simp [Lr]
  | x :: w, h => by
    have e : wt (x :: w) = Pr x (wt w) := by funext y; rfl
    rw [e, sm_P, if_pos (h x List.mem_cons_self), sm_wt w fun y hy => h y (List.mem_cons_of_mem _ hy)]
    show _ = (N : Int) + ((N : Int) - 1) * (Lr w + wt w x)
    rw [Int.mul_add, Int.sub_mul _ _ (wt w x), Int.one_mul]
    omega
theorem bil_one (N : Nat) (a : Nat → Int) : bil N a (fun _ => 1) = sm N a := by
  unfold bil
  rw [sm_one]
  simp only [Int.mul_one]
  have e : sm N (fun y => a y) = sm N a := rfl
  rw [e, Int.sub_mul, Int.one_mul, Int.mul_comm]
  omega
theorem Lr_rev {w : List Nat} {N : Nat} (hN : 2 ≤ N) (h : ∀ x ∈ w, x < N) : Lr w.reverse = Lr w := by
  have h' : ∀ x ∈ w.reverse, x < N := fun x hx => h x (by simpa using hx)
  have e1 : sm N (wt w) = sm N (wt w.reverse) := by
    rw [wt_Pw, wt_Pw, ← bil_one, bil_w w _ _ h, bil_comm, bil_one]
  rw [sm_wt w h, sm_wt _ h'] at e1
  have e2 : ((N : Int) - 1) * Lr w = ((N : Int) - 1) * Lr w.reverse := by omega
  exact (Int.eq_of_mul_eq_mul_left (by omega) e2).symm
theorem Lm_rev {v : List Nat} (h : Lw v) : Lm v.reverse = Lm v := by
  unfold Lm
  exact Lr_rev (N := 123) (by decide) fun x hx => by have := h x (by simpa using hx); omega
end Mp

set_option linter.all false
set_option maxRecDepth 100000
namespace Mp
@[simp] theorem gd_pos {α : Type} {P : Prop} [Decidable P] {x : R α} (h : P) : gd (decide P) x = x := by rw [decide_eq_true h]; rfl
theorem gd_b {α : Type} {b : Bool} {x : R α} (h : b = true) : gd b x = x := by rw [h]; rfl
@[simp] theorem prim_add : prim .add = pAdd := nr rfl
@[simp] theorem prim_sub : prim .sub = pSub := nr rfl
@[simp] theorem prim_mul : prim .mul = pMul := nr rfl
@[simp] theorem prim_fdiv : prim .fdiv = pFdiv := nr rfl
@[simp] theorem prim_mod : prim .mod = pMod := nr rfl
@[simp] theorem prim_pow : prim .pow = pPow := nr rfl
@[simp] theorem prim_neg : prim .neg = pNeg := nr rfl
@[simp] theorem prim_eq : prim .eq = pEq := nr rfl
@[simp] theorem prim_ne : prim .ne = pNe := nr rfl
@[simp] theorem prim_lt : prim .lt = pLt := nr rfl
@[simp] theorem prim_le : prim .le = pLe := nr rfl
@[simp] theorem prim_gt : prim .gt = pGt := nr rfl
@[simp] theorem prim_ge : prim .ge = pGe := nr rfl
@[simp] theorem prim_inn : prim .inn = pInn := nr rfl
@[simp] theorem prim_nin : prim .nin = pNin := nr rfl
@[simp] theorem prim_isN : prim .isN = pIsN := nr rfl
@[simp] theorem prim_isNN : prim .isNN = pIsNN := nr rfl
@[simp] theorem prim_isT : prim .isT = pIsT := nr rfl
@[simp] theorem prim_isNT : prim .isNT = pIsNT := nr rfl
@[simp] theorem prim_isF : prim .isF = pIsF := nr rfl
@[simp] theorem prim_isNF : prim .isNF = pIsNF := nr rfl
@[simp] theorem prim_len : prim .len = pLen := nr rfl
@[simp] theorem prim_ix : prim .ix = pIx := nr rfl
@[simp] theorem prim_cut (a b : Bool) : prim (.cut a b) = pCut a b := nr rfl
@[simp] theorem prim_rev : prim .rev = pRev := nr rfl
@[simp] theorem prim_tup : prim .tup = pTup := nr rfl
@[simp] theorem prim_lst : prim .lst = pLst := nr rfl
@[simp] theorem prim_dic : prim .dic = pDic := nr rfl
@[simp] theorem prim_append : prim .append = pAppend := nr rfl
@[simp] theorem prim_find : prim .find = pFind := nr rfl
@[simp] theorem prim_rfind : prim .rfind = pRfind := nr rfl
@[simp] theorem prim_rfind4 : prim .rfind4 = pRfind4 := nr rfl
@[simp] theorem prim_index : prim .index = pIndex := nr rfl
@[simp] theorem prim_count : prim .count = pCount := nr rfl
@[simp] theorem prim_join : prim .join = pJoin := nr rfl
@[simp] theorem prim_get1 : prim .get1 = pGet1 := nr rfl
@[simp] theorem prim_get2 : prim .get2 = pGet2 := nr rfl
@[simp] theorem prim_toInt : prim .toInt = pToInt := nr rfl
@[simp] theorem prim_abs : prim .abs = pAbs := nr rfl
@[simp] theorem prim_isi (T : Tn) : prim (.isi T) = pIsi T := nr rfl
@[simp] theorem prim_sorted : prim .sorted = pSorted := nr rfl
@[simp] theorem prim_repr : prim .repr = pRepr := nr rfl
@[simp] theorem prim_min2 : prim .min2 = pMin2 := nr rfl
@[simp] theorem prim_max2 : prim .max2 = pMax2 := nr rfl
@[simp] theorem prim_min1 : prim .min1 = pMin1 := nr rfl
@[simp] theorem prim_max1 : prim .max1 = pMax1 := nr rfl
@[simp] theorem prim_sum1 : prim .sum1 = pSum1 := nr rfl
@[simp] theorem prim_toTuple : prim .toTuple = pToTuple := nr rfl
@[simp] theorem prim_toList : prim .toList = pToList := nr rfl
@[simp] theorem prim_divmod : prim .divmod = pDivmod := nr rfl
@[simp] theorem prim_all1 : prim .all1 = pAll1 := nr rfl
theorem items_inv {h : Hm} {p : Nat} {xs : List U} (e : items h (.ref p) = some xs) : h[p]? = some (.lst xs) ∨ h[p]? = some (.frz xs) := by
  simp only [items] at e
  cases hp : h[p]? with
  | none => rw [hp] at e; cases e
  | some o => rw [hp] at e; cases o <;> cases e <;> simp
variable (i j : Int) (s t : List Nat) (xs ys : List U) (h : Hm) (a b : Bool) (u w : U) (n : Nat)
@[simp] theorem pAdd_i : pAdd [.int i, .int j] h = .ok (.int (i + j)) h := nr rfl
@[simp] theorem pAdd_s : pAdd [.str s, .str t] h = gd (decide (s.length + t.length ≤ SZ)) (.ok (.str (s ++ t)) h) := nr rfl
@[simp] theorem pAdd_t : pAdd [.tup xs, .tup ys] h = gd (decide (xs.length + ys.length ≤ SZ)) (.ok (.tup (xs ++ ys)) h) := nr rfl
theorem pAdd_r {p q : Nat} (h1 : items h (.ref p) = some xs) (h2 : items h (.ref q) = some ys) (hl : xs.length + ys.length ≤ SZ) : pAdd [.ref p, .ref q] h = .ok (.ref h.length) (h ++ [.lst (xs ++ ys)]) := by simp [pAdd, h1, h2, hl, new]
@[simp] theorem pSub_i : pSub [.int i, .int j] h = .ok (.int (i - j)) h := nr rfl
@[simp] theorem pMul_i : pMul [.int i, .int j] h = gd (decide (i.natAbs.log2 + j.natAbs.log2 < 1000000)) (.ok (.int (i * j)) h) := nr rfl
theorem pMul_s (hl : s.length * n ≤ SZ) (hn : n < 4611686018427387904) : pMul [.str s, .int n] h = .ok (.str (List.replicate n s).flatten) h := by
  have : (2 : Int) ^ 62 = 4611686018427387904 := by decide
  simp only [pMul, Int.toNat_natCast, this]
  rw [gd_b]
  simp only [Bool.and_eq_true, decide_eq_true_eq]
  exact ⟨⟨hl, by omega⟩, by omega⟩
theorem pFdiv_i (h0 : 0 < j) (h1 : j.natAbs.log2 < 9000) : pFdiv [.int i, .int j] h = .ok (.int (i / j)) h := by simp [pFdiv, h0, h1]
theorem pMod_i (h0 : 0 < j) : pMod [.int i, .int j] h = .ok (.int (i % j)) h := by simp [pMod, h0]
@[simp] theorem pNeg_i : pNeg [.int i] h = .ok (.int (-i)) h := nr rfl
@[simp] theorem pEq_i : pEq [.int i, .int j] h = .ok (.bl (i == j)) h := nr rfl
@[simp] theorem pEq_s : pEq [.str s, .str t] h = .ok (.bl (s == t)) h := nr rfl
@[simp] theorem pNe_i : pNe [.int i, .int j] h = .ok (.bl (!(i == j))) h := nr rfl
@[simp] theorem pNe_s : pNe [.str s, .str t] h = .ok (.bl (!(s == t))) h := nr rfl
@[simp] theorem pLt_i : pLt [.int i, .int j] h = .ok (.bl (decide (i < j))) h := nr rfl
@[simp] theorem pLe_i : pLe [.int i, .int j] h = .ok (.bl (decide (i ≤ j))) h := nr rfl
@[simp] theorem pGt_i : pGt [.int i, .int j] h = .ok (.bl (decide (j < i))) h := nr rfl
@[simp] theorem pGe_i : pGe [.int i, .int j] h = .ok (.bl (decide (j ≤ i))) h := nr rfl
@[simp] theorem pInn_s : pInn [.str t, .str s] h = gd (!t.isEmpty) (.ok (.bl (decide (0 ≤ findL s t 0))) h) := by simp [pInn, memU]
@[simp] theorem pNin_s : pNin [.str t, .str s] h = gd (!t.isEmpty) (.ok (.bl (!decide (0 ≤ findL s t 0))) h) := by simp [pNin, memU]
@[simp] theorem pIsN_u : pIsN [u] h = .ok (.bl (isNon u)) h := nr rfl
@[simp] theorem pIsNN_u : pIsNN [u] h = .ok (.bl (!isNon u)) h := nr rfl
@[simp] theorem isNon_non : isNon .non = true := nr rfl
@[simp] theorem isNon_int : isNon (.int i) = false := nr rfl
@[simp] theorem isNon_str : isNon (.str s) = false := nr rfl
@[simp] theorem isNon_tup : isNon (.tup xs) = false := nr rfl
@[simp] theorem isNon_ref : isNon (.ref n) = false := nr rfl
@[simp] theorem isNon_bl : isNon (.bl a) = false := nr rfl
@[simp] theorem pIsT_b : pIsT [.bl a] h = .ok (.bl a) h := nr rfl
@[simp] theorem pIsNT_b : pIsNT [.bl a] h = .ok (.bl (!a)) h := nr rfl
@[simp] theorem pIsF_b : pIsF [.bl a] h = .ok (.bl (!a)) h := nr rfl
@[simp] theorem pIsNF_b : pIsNF [.bl a] h = .ok (.bl a) h := nr rfl
@[simp] theorem pLen_s : pLen [.str s] h = gd (decide (s.length ≤ SZ)) (.ok (.int s.length) h) := nr rfl
@[simp] theorem pLen_t : pLen [.tup xs] h = .ok (.int xs.length) h := nr rfl
theorem pLen_r {p : Nat} (h1 : items h (.ref p) = some xs) : pLen [.ref p] h = .ok (.int xs.length) h := by
  rcases items_inv h1 with e | e <;> simp [pLen, e]
/-- items of a list at hand -/
@[simp] theorem items_t : items h (.tup xs) = some xs := nr rfl
theorem items_l {p : Nat} (e : h[p]? = some (.lst xs)) : items h (.ref p) = some xs := by simp [items, e]
theorem items_f {p : Nat} (e : h[p]? = some (.frz xs)) : items h (.ref p) = some xs := by simp [items, e]
theorem pIx_s {c : Nat} (hl : s.length ≤ SZ) (e : s[n]? = some c) : pIx [.str s, .int n] h = .ok (.str [c]) h := by
  have hn : n < s.length := (List.getElem?_eq_some_iff.mp e).1
  simp only [pIx, nix_nat hn, Option.bind_some, e, gd_pos hl]
theorem pIx_t (e : xs[n]? = some u) : pIx [.tup xs, .int n] h = .ok u h := by
  have hn : n < xs.length := (List.getElem?_eq_some_iff.mp e).1
  simp only [pIx, nix_nat hn, Option.bind_some, e]
theorem pIx_l {p : Nat} (e1 : items h (.ref p) = some xs) (e : xs[n]? = some u) : pIx [.ref p, .int n] h = .ok u h := by
  have hn : n < xs.length := (List.getElem?_eq_some_iff.mp e).1
  rcases items_inv e1 with e2 | e2 <;> simp only [pIx, e2, e1, nix_nat hn, Option.bind_some, e]
theorem pIx_last {p : Nat} (e1 : items h (.ref p) = some (xs ++ [u])) : pIx [.ref p, .int (-1)] h = .ok u h := by
  have hn : nix (xs ++ [u]).length (-1) = some xs.length := by rw [nix_last (by simp)]; simp
  have e : (xs ++ [u])[xs.length]? = some u := by simp
  rcases items_inv e1 with e2 | e2 <;> simp only [pIx, e2, e1, hn, Option.bind_some, e]
@[simp] theorem pCut_11 : pCut true true [u, .int i, .int j] h = cutU h u (some i) (some j) := nr rfl
@[simp] theorem pCut_10 : pCut true false [u, .int i] h = cutU h u (some i) none := nr rfl
@[simp] theorem pCut_01 : pCut false true [u, .int j] h = cutU h u none (some j) := nr rfl
@[simp] theorem pCut_00 : pCut false false [u] h = cutU h u none none := nr rfl
@[simp] theorem cutU_s (x y : Option Int) : cutU h (.str s) x y = gd (decide (s.length ≤ SZ)) (.ok (.str (cutL s x y)) h) := nr rfl
@[simp] theorem cutU_t (x y : Option Int) : cutU h (.tup xs) x y = .ok (.tup (cutL xs x y)) h := nr rfl
theorem cutU_r {p : Nat} (e : items h (.ref p) = some xs) (x y : Option Int) : cutU h (.ref p) x y = .ok (.ref h.length) (h ++ [.lst (cutL xs x y)]) := by simp [cutU, e, new]
@[simp] theorem pRev_s : pRev [.str s] h = gd (decide (s.length ≤ SZ)) (.ok (.str s.reverse) h) := nr rfl
theorem pRev_r {p : Nat} (e : items h (.ref p) = some xs) : pRev [.ref p] h = .ok (.ref h.length) (h ++ [.lst xs.reverse]) := by simp [pRev, e, new]
@[simp] theorem pTup_u : pTup xs h = gd (decide (xs.length ≤ SZ)) (.ok (.tup xs) h) := nr rfl
@[simp] theorem pLst_u : pLst xs h = gd (decide (xs.length ≤ SZ)) (.ok (.ref h.length) (h ++ [.lst xs])) := nr rfl
@[simp] theorem pDic_0 : pDic [] h = .ok (.ref h.length) (h ++ [.dic []]) := nr rfl
theorem pAppend_r {p : Nat} (e : h[p]? = some (.lst xs)) (hl : xs.length < SZ) : pAppend [.ref p, u] h = .ok .non (h.set p (.lst (xs ++ [u]))) := by simp [pAppend, e, hl]
@[simp] theorem pToTuple_t : pToTuple [.tup xs] h = .ok (.tup xs) h := nr rfl
theorem pToTuple_r {p : Nat} (e : items h (.ref p) = some xs) : pToTuple [.ref p] h = .ok (.tup xs) h := by simp [pToTuple, e]
theorem pToList_u (e : items h u = some xs) : pToList [u] h = .ok (.ref h.length) (h ++ [.lst xs]) := by simp [pToList, e, new]
theorem pSum1_u {l : List Int} (e : items h u = some (l.map .int)) : pSum1 [u] h = .ok (.int l.sum) h := by
  have : allInt (l.map .int) = some l := by
    clear e
    induction l with
    | nil => rfl
    | cons a r ih => simp [allInt, ih]
  simp [pSum1, e, this]
@[simp] theorem truthy_bl : truthy h (.bl a) = some a := nr rfl
@[simp] theorem truthy_int : truthy h (.int i) = some (i != 0) := nr rfl
@[simp] theorem truthy_non : truthy h .non = some false := nr rfl
theorem allInt_map (l : List Int) : allInt (l.map .int) = some l := by
  induction l with
  | nil => rfl
  | cons a r ih => simp [allInt, ih]
@[simp] theorem isi_str (T : Tn) : pIsi T [.str s] h = .ok (.bl (isSub .str T)) h := nr rfl
@[simp] theorem isi_int (T : Tn) : pIsi T [.int i] h = .ok (.bl (isSub .int T)) h := nr rfl
@[simp] theorem isi_bl (T : Tn) : pIsi T [.bl a] h = .ok (.bl (isSub .bool T)) h := nr rfl
@[simp] theorem isi_non (T : Tn) : pIsi T [.non] h = .ok (.bl (isSub .non T)) h := nr rfl
@[simp] theorem isi_tup (T : Tn) : pIsi T [.tup xs] h = .ok (.bl (isSub .tuple T)) h := nr rfl
@[simp] theorem tyN_str : tyN h (.str s) = some .str := nr rfl
theorem tyN_lst {p : Nat} (e : h[p]? = some (.lst xs)) : tyN h (.ref p) = some .list := by simp [tyN, e]
theorem tyN_frz {p : Nat} (e : h[p]? = some (.frz xs)) : tyN h (.ref p) = some .list := by simp [tyN, e]
theorem tyN_dic {p : Nat} {kvs : List (U × U)} (e : h[p]? = some (.dic kvs)) : tyN h (.ref p) = some .dict := by simp [tyN, e]
@[simp] theorem walked_s : walked h (.str s) = some (s.map fun c => .str [c], []) := nr rfl
@[simp] theorem walked_t : walked h (.tup xs) = some (xs, []) := nr rfl
theorem walked_l {p : Nat} (e : h[p]? = some (.lst xs)) : walked h (.ref p) = some (xs, [p]) := by simp [walked, e]
theorem walked_f {p : Nat} (e : h[p]? = some (.frz xs)) : walked h (.ref p) = some (xs, [p]) := by simp [walked, e]
@[simp] theorem itR_r1 : itR .range1 [.int i] h = gd (small62 i) (.ok (upTo 0 1 i.toNat, []) h) := nr rfl
@[simp] theorem itR_r2 : itR .range2 [.int i, .int j] h = gd (small62 i && small62 j) (.ok (upTo i 1 (j - i).toNat, []) h) := nr rfl
@[simp] theorem itR_enum : itR .enum [u] h = match walked h u with | some p => .ok (enumU 0 p.1, p.2) h | none => .bad := nr rfl
@[simp] theorem itR_zip : itR .zip [u, w] h = match walked h u, walked h w with | some p, some q => .ok (zipU p.1 q.1, p.2 ++ q.2) h | _, _ => .bad := nr rfl
theorem small_nat {n : Nat} (h : n < 4611686018427387904) : small62 (n : Int) = true := by
  unfold small62
  have : (2 : Int) ^ 62 = 4611686018427387904 := by decide
  simp only [this, Bool.and_eq_true, decide_eq_true_eq]
  omega
end Mp
namespace Mp
/-- a whole loop, then the rest -/
theorem whl_next {r : En} {X : R Fl} {β : Type} {F : Fl → Hm → R β} {res : R β} {I : En → Hm → Prop} (w : ∃ r' h', X = .ok (.next r') h' ∧ I r' h') (k : ∀ r' h', I r' h' → F (.next r') h' = res) : (toS r X).bind F = res := loop_nextX w k
end Mp

set_option linter.all false
set_option maxRecDepth 100000
namespace Mp
theorem lg {a b : Int} {m n : Nat} (ha : a.natAbs < 2 ^ m) (hb : b.natAbs < 2 ^ n) (h : m + n < 1000000) : a.natAbs.log2 + b.natAbs.log2 < 1000000 := by
  have key : ∀ {x k : Nat}, x < 2 ^ k → x.log2 ≤ k := fun {x k} hx => by
    by_cases hz : x = 0
    · rw [hz]; simp
    · exact Nat.le_of_lt ((Nat.log2_lt hz).mpr hx)
  have := key ha
  have := key hb
  omega
theorem na_lt {a : Int} {n : Nat} (h : -(n : Int) < a) (h2 : a < n) : a.natAbs < n := by omega
/-- a mixed number -/
def mx (n j : Int) : Int := ((n % 2147483647 + 7919 * j * j + 31 * j) * 48271 % 2147483647) * (69621 + 2 * j) % 2147483629
theorem mx_nn (n j : Int) : 0 ≤ mx n j := Int.emod_nonneg _ (by decide)
theorem whileL_use {t : En → Hm → R Bool} {b : En → Hm → R Fl} (I : Nat → En → Hm → Prop) (Q : En → Hm → Prop)
    (step : ∀ n r h, I n r h → (t r h = .ok false h ∧ Q r h) ∨ (t r h = .ok true h ∧ ∃ r' h' m, b r h = .ok (.next r') h' ∧ m < n ∧ I m r' h')) :
    ∀ (fuel n : Nat) (r : En) (h : Hm), n < fuel → I n r h → ∃ r' h', whileL t b fuel r h = .ok (.next r') h' ∧ Q r' h'
  | 0, n, r, h, hn, _ => by omega
  | fuel + 1, n, r, h, hn, i => by
    rw [whileL]
    rcases step n r h i with ⟨e, q⟩ | ⟨e, r', h', m, e2, hm, i'⟩
    · rw [e]
      exact ⟨r, h, rfl, q⟩
    · rw [e]
      simp only [R.bind_ok, if_true, e2]
      exact whileL_use I Q step fuel m r' h' (by omega) i'
variable {T : Nat → Option Fd}
theorem mixed_ok (hT : T 1000 = some h_mixed) {j : Int} (h0 : 0 ≤ j) (h1 : j < 1000000) (n : Int) (k : Nat) (h : Hm) : callF T (k + 1) 1000 [.int n, .int j] h = .ok (.int (mx n j)) h := by
  have hj : j.natAbs < 2 ^ 20 := by have : (2 : Nat) ^ 20 = 1048576 := by decide
                                    omega
  have hn : 0 ≤ n % 2147483647 := Int.emod_nonneg _ (by decide)
  have hn2 : n % 2147483647 < 2147483647 := Int.emod_lt_of_pos _ (by decide)
  have q1 : (7919 * j).natAbs < 2 ^ 33 := by have : (2 : Nat) ^ 33 = 8589934592 := by decide
                                             omega
  have q1' : 7919 * j * j ≤ 7919000000 * j := Int.mul_le_mul_of_nonneg_right (by omega) h0
  have q1'' : 0 ≤ 7919 * j * j := Int.mul_nonneg (by omega) h0
  have q2 : (n % 2147483647 + 7919 * j * j + 31 * j).natAbs < 2 ^ 60 := by
    have : (2 : Nat) ^ 60 = 1152921504606846976 := by decide
    omega
  have hm : 0 ≤ (n % 2147483647 + 7919 * j * j + 31 * j) * 48271 % 2147483647 := Int.emod_nonneg _ (by decide)
  have hm2 : (n % 2147483647 + 7919 * j * j + 31 * j) * 48271 % 2147483647 < 2147483647 := Int.emod_lt_of_pos _ (by decide)
  have q3 : ((n % 2147483647 + 7919 * j * j + 31 * j) * 48271 % 2147483647).natAbs < 2 ^ 31 := by
    have : (2 : Nat) ^ 31 = 2147483648 := by decide
    omega
  have q4 : (69621 + 2 * j).natAbs < 2 ^ 22 := by have : (2 : Nat) ^ 22 = 4194304 := by decide
                                                  omega
  have g1 : Nat.log2 7919 + j.natAbs.log2 < 1000000 := lg (a := 7919) (b := j) (m := 13) (n := 20) (by decide) hj (by decide)
  have g2 := lg q1 hj (by decide)
  have g3 : Nat.log2 31 + j.natAbs.log2 < 1000000 := lg (a := 31) (b := j) (m := 5) (n := 20) (by decide) hj (by decide)
  have g4 : (n % 2147483647 + 7919 * j * j + 31 * j).natAbs.log2 + Nat.log2 48271 < 1000000 := lg (b := 48271) (n := 16) q2 (by decide) (by decide)
  have g5 : Nat.log2 2 + j.natAbs.log2 < 1000000 := lg (a := 2) (b := j) (m := 2) (n := 20) (by decide) hj (by decide)
  have g6 := lg q3 q4 (by decide)
  rw [callF_run hT rfl]
  simp [h_mixed, prim, pMod, pMul, pAdd, g1, g2, g3, g4, g5, g6, mx]

/-- the stream's object at s, c drawn so far -/
def Sob (a c m : Int) : O := .lst [.int a, .int c, .int m]
theorem Sob_flat (a c m : Int) : flatO (Sob a c m) = true := rfl
theorem stream_ok (hT0 : T 1000 = some h_mixed) (hT : T 1001 = some h_stream) {j : Int} (h0 : 0 ≤ j) (h1 : j < 1000000) (n : Int) (k : Nat) (h : Hm) :
    ∃ a m, 0 ≤ a ∧ callF T (k + 2) 1001 [.int n, .int j] h = .ok (.ref h.length) (h ++ [Sob a 0 m]) := by
  have h10 : (10 : Int) ^ (18 : Int).toNat = 1000000000000000000 := by decide
  by_cases hc : (1000000000000000000 : Int) ≤ n
  · refine ⟨n, mx n j, by omega, ?_⟩
    rw [callF_run hT rfl]
    simp [h_stream, prim, pGe, pPow, h10, truthy, hc, mixed_ok hT0 h0 h1, pLst, SZ, new]
    exact swept_flat0 rfl rfl
  · refine ⟨0, mx n j, Int.le_refl _, ?_⟩
    rw [callF_run hT rfl]
    simp [h_stream, prim, pGe, pPow, h10, truthy, hc, mixed_ok hT0 h0 h1, pLst, SZ, new]
    exact swept_flat0 rfl rfl
theorem take_ok (hT0 : T 1000 = some h_mixed) (hT : T 1002 = some h_take) {s : Nat} {a c m t : Int} {h : Hm} (hs : h[s]? = some (Sob a c m)) (ha : 0 ≤ a) (c0 : 0 ≤ c) (c1 : c < 900000) (t0 : 0 < t) (t1 : t < 1000000) (k : Nat) :
    ∃ r a', 0 ≤ a' ∧ 0 ≤ r ∧ r < t ∧ callF T (k + 2) 1002 [.ref s, .int t] h = .ok (.int r) (h.set s (Sob a' (c + 1) m)) := by
  have hl : s < h.length := (List.getElem?_eq_some_iff.mp hs).1
  have n0 : ∀ x y z : U, nix [x, y, z].length 0 = some 0 := fun _ _ _ => rfl
  have n1 : ∀ x y z : U, nix [x, y, z].length 1 = some 1 := fun _ _ _ => rfl
  have n2 : ∀ x y z : U, nix [x, y, z].length 2 = some 2 := fun _ _ _ => rfl
  have hs' : h[s]? = some (.lst [.int a, .int c, .int m]) := hs
  have get1 : ∀ o : O, (h.set s o)[s]? = some o := fun o => List.getElem?_set_self hl
  have hlog : t.natAbs.log2 < 9000 := by
    by_cases hz : t.natAbs = 0
    · rw [hz]; decide
    · have : t.natAbs < 2 ^ 20 := by have : (2 : Nat) ^ 20 = 1048576 := by decide
                                     omega
      have := (Nat.log2_lt hz).mpr this
      omega
  by_cases hz : a = 0
  · subst hz
    refine ⟨mx (mx m (c + 1)) 7 % t, 0, Int.le_refl _, Int.emod_nonneg _ (by omega), Int.emod_lt_of_pos _ t0, ?_⟩
    rw [callF_run hT rfl]
    simp [h_take, prim, pIx, hs', items, nix, pAdd, store, get1, eqU, pEq, truthy, mixed_ok hT0 (show 0 ≤ c + 1 by omega) (show c + 1 < 1000000 by omega), mixed_ok hT0 (show (0 : Int) ≤ 7 by decide) (by decide), pMod, t0]
    exact swept_set0 rfl rfl
  · refine ⟨a % t, a / t, Int.ediv_nonneg ha (by omega), Int.emod_nonneg _ (by omega), Int.emod_lt_of_pos _ t0, ?_⟩
    rw [callF_run hT rfl]
    simp [h_take, prim, pIx, hs', items, nix, pAdd, store, get1, eqU, pEq, truthy, hz, pMod, pFdiv, t0, hlog]
    exact swept_set0 rfl rfl
/-- a letter by its number -/
theorem abc_at {i : Int} (h0 : 0 ≤ i) (h1 : i < 26) : ∃ c, (97 ≤ c ∧ c ≤ 122) ∧ ∀ h, pIx [.str abc, .int i] h = .ok (.str [c]) h := by
  refine ⟨97 + i.toNat, by omega, fun h => ?_⟩
  have hn : nix 26 i = some i.toNat := nix_nn h0 h1
  have ha : ∀ d : Fin 26, abc[d.val]? = some (97 + d.val) := by decide
  have ha' := ha ⟨i.toNat, by omega⟩
  simp only at ha'
  have e := pIx_s abc h i.toNat (c := 97 + i.toNat) (by decide) ha'
  rwa [Int.toNat_of_nonneg h0] at e
theorem log_small {i : Int} (h0 : 0 ≤ i) (h1 : i < 1048576) : i.natAbs < 2 ^ 20 := Nat.lt_of_lt_of_le (show i.natAbs < 1048576 by omega) (by decide)
theorem pMul_small {i j : Int} {h : Hm} (h0 : 0 ≤ i) (h1 : i < 1048576) (h2 : 0 ≤ j) (h3 : j < 1048576) : pMul [.int i, .int j] h = .ok (.int (i * j)) h := by
  rw [pMul_i, gd_pos (lg (log_small h0 h1) (log_small h2 h3) (by decide))]
theorem signs_ok (hT0 : T 1000 = some h_mixed) (hT2 : T 1002 = some h_take) (hT : T 1003 = some h_signs) {s : Nat} {a c m : Int} {h : Hm} (hs : h[s]? = some (Sob a c m)) (ha : 0 ≤ a) (c0 : 0 ≤ c) (c1 : c < 800000) (n : Nat) (hn : n ≤ 1000) (k : Nat) :
    ∃ (cs : List Nat) (a' : Int), cs.length = n ∧ Lw cs ∧ 0 ≤ a' ∧ callF T (k + 3) 1003 [.ref s, .int n] h = .ok (.ref h.length) (h.set s (Sob a' (c + 2) m) ++ [.lst (cs.map fun c => .str [c])]) := by
  have hl : s < h.length := (List.getElem?_eq_some_iff.mp hs).1
  obtain ⟨r1, a1, q1, q2, q3, e1⟩ := take_ok hT0 hT2 hs ha c0 (by omega) (show (0 : Int) < 26 by decide) (by decide) k
  have hs1 : (h.set s (Sob a1 (c + 1) m))[s]? = some (Sob a1 (c + 1) m) := List.getElem?_set_self hl
  obtain ⟨r2, a2, p1, p2, p3, e2⟩ := take_ok hT0 hT2 hs1 q1 (by omega) (by omega) (show (0 : Int) < 6 by decide) (by decide) k
  rw [List.set_set, show c + 1 + 1 = c + 2 by omega] at e2
  have m1 : ∀ h, pMul [.int 2, .int r2] h = .ok (.int (2 * r2)) h := fun h => pMul_small (by decide) (by decide) p2 (by omega)
  have sm62 : small62 (n : Int) = true := small_nat (by omega)
  have at_ : ∀ i : Nat, ∃ ch, (97 ≤ ch ∧ ch ≤ 122) ∧ ∀ h0, pIx [.str abc, .int ((r1 + (1 + 2 * r2) * (i : Int)) % 26)] h0 = .ok (.str [ch]) h0 := fun i => abc_at (Int.emod_nonneg _ (by decide)) (Int.emod_lt_of_pos _ (by decide))
  have main : ∀ f : Nat → Nat, (∀ (i : Nat) (h0 : Hm), pIx [.str abc, .int ((r1 + (1 + 2 * r2) * (i : Int)) % 26)] h0 = .ok (.str [f i]) h0) →
      callF T (k + 3) 1003 [.ref s, .int n] h = .ok (.ref h.length) (h.set s (Sob a2 (c + 2) m) ++ [.lst ((List.range n).map fun i => .str [f i])]) := by
    intro f hf
    unfold abc at hf
    rw [callF_run hT rfl]
    simp [h_signs, e1, e2, m1, SZ, sm62]
    rw [comp_use (h.set s (Sob a2 (c + 2) m)) (fun u => match u with | .int i => .str [f i.toNat] | _ => .non) (by simp) (by simp) (fun x hx acc => ?_) (fun acc => rfl) (by simp; exact Nat.le_trans hn (by decide))]
    · simp
      refine (swept_setFlat0 (p := O.lst _) (Sob_flat _ _ _) rfl (show cleans _ = true from cleans_map _ _ fun a _ => rfl)).trans ?_
      simp [Function.comp_def]
    · obtain ⟨i, hi, rfl⟩ := List.mem_map.mp hx
      have hi' : i < 1000 := by have := List.mem_range.mp hi; omega
      have m2 : ∀ h, pMul [.int (1 + 2 * r2), .int (i : Int)] h = .ok (.int ((1 + 2 * r2) * (i : Int))) h := fun h => pMul_small (by omega) (by omega) (by omega) (by omega)
      simp [wipe, m2, pMod_i, hf]
  refine ⟨(List.range n).map fun i => (at_ i).choose, a2, by simp, fun ch hch => ?_, p1, ?_⟩
  · obtain ⟨i, _, rfl⟩ := List.mem_map.mp hch
    exact (at_ i).choose_spec.1
  · have := main (fun i => (at_ i).choose) fun i h0 => (at_ i).choose_spec.2 h0
    rw [this, List.map_map]
    rfl

theorem presses_ok (hT0 : T 1000 = some h_mixed) (hT2 : T 1002 = some h_take) (hT3 : T 1003 = some h_signs) (hT : T 1004 = some h_presses) {s : Nat} {a c m : Int} {h : Hm} (hs : h[s]? = some (Sob a c m)) (ha : 0 ≤ a) (c0 : 0 ≤ c) (c1 : c < 500000) (n : Nat) (hn : n ≤ 1000) (k : Nat) :
    ∃ (v : List Nat) (a' c' : Int), v.length ≤ n ∧ Lw v ∧ 0 ≤ a' ∧ c ≤ c' ∧ c' ≤ c + 5000 ∧ callF T (k + 4) 1004 [.ref s, .int n] h = .ok (.str v) (h.set s (Sob a' c' m)) := by
  have hl : s < h.length := (List.getElem?_eq_some_iff.mp hs).1
  -- how many letters
  obtain ⟨five, hfive⟩ : ∃ o : O, o = .lst [.int 1, .int 2, .int 3, .int 5, .int 26] := ⟨_, rfl⟩
  have hsA : (h ++ [five])[s]? = some (Sob a c m) := get_old hs
  obtain ⟨r1, a1, q1, q2, q3, e1⟩ := take_ok hT0 hT2 hsA ha c0 (by omega) (show (0 : Int) < 5 by decide) (by decide) (k + 1)
  rw [set_app0 hl] at e1
  have pick : ∃ z : Nat, 0 < z ∧ z ≤ 1000 ∧ ∀ S : O, pIx [.ref h.length, .int r1] (h.set s S ++ [five]) = .ok (.int z) (h.set s S ++ [five]) := by
    have : r1 = 0 ∨ r1 = 1 ∨ r1 = 2 ∨ r1 = 3 ∨ r1 = 4 := by omega
    have it : ∀ S : O, items (h.set s S ++ [five]) (.ref h.length) = some [.int 1, .int 2, .int 3, .int 5, .int 26] := fun S => items_l _ _ (by simp [hfive])
    rcases this with rfl | rfl | rfl | rfl | rfl
    · exact ⟨1, by decide, by decide, fun S => pIx_l _ _ _ 0 (it S) rfl⟩
    · exact ⟨2, by decide, by decide, fun S => pIx_l _ _ _ 1 (it S) rfl⟩
    · exact ⟨3, by decide, by decide, fun S => pIx_l _ _ _ 2 (it S) rfl⟩
    · exact ⟨5, by decide, by decide, fun S => pIx_l _ _ _ 3 (it S) rfl⟩
    · exact ⟨26, by decide, by decide, fun S => pIx_l _ _ _ 4 (it S) rfl⟩
  obtain ⟨z, z0, z1, ez⟩ := pick
  have hsB : (h.set s (Sob a1 (c + 1) m) ++ [five])[s]? = some (Sob a1 (c + 1) m) := get_app hl _
  obtain ⟨cs, a2, w1, w2, w3, e2⟩ := signs_ok hT0 hT2 hT3 hsB q1 (by omega) (by omega) z z1 k
  rw [set_app hl, show c + 1 + 2 = c + 3 by omega] at e2
  obtain ⟨sg, hsg⟩ : ∃ o : O, o = .lst (cs.map fun c => .str [c]) := ⟨_, rfl⟩
  rw [← hsg, List.append_assoc, List.length_append, List.length_set] at e2
  simp only [List.length_cons, List.length_nil, Nat.zero_add, List.cons_append, List.nil_append] at e2
  have hsC : (h.set s (Sob a2 (c + 3) m) ++ [five, sg])[s]? = some (Sob a2 (c + 3) m) := get_app hl _
  obtain ⟨r3, a3, x1, x2, x3, e3⟩ := take_ok hT0 hT2 hsC w3 (by omega) (by omega) (show (0 : Int) < n + 1 by omega) (by omega) (k + 1)
  rw [set_app hl, show c + 3 + 1 = c + 4 by omega] at e3
  have hsD : (h.set s (Sob a3 (c + 4) m) ++ [five, sg])[s]? = some (Sob a3 (c + 4) m) := get_app hl _
  obtain ⟨r4, a4, y1, y2, y3, e4⟩ := take_ok hT0 hT2 hsD x1 (by omega) (by omega) (show (0 : Int) < 4 by decide) (by decide) (k + 1)
  rw [set_app hl, show c + 4 + 1 = c + 5 by omega] at e4
  obtain ⟨size, rfl⟩ := Int.eq_ofNat_of_zero_le x2
  have z5 : 0 + 1 + 1 + 1 + 1 + 1 ≤ SZ := by decide
  have z2 : 0 + 1 + 1 ≤ SZ := by decide
  -- the loop
  have loop : ∃ (r' : En) (h' : Hm), whileL (tst (callF T (k + 3)) (.val (.prim .lt (.cons (.prim .len (.cons (.var 3) .nil)) (.cons (.var 4) .nil)))))
      (exss (callF T (k + 3)) (.cons (.asg (.nm 3) (.prim .add (.cons (.var 3) (.cons (.prim .mul (.cons (.prim .ix (.cons (.var 2) (.cons (.call 1002 (.cons (.var 0) (.cons (.prim .len (.cons (.var 2) .nil)) .nil))) .nil))) (.cons (.prim .add (.cons (.cst (.int 1)) (.cons (.call 1002 (.cons (.var 0) (.cons (.var 5) .nil))) .nil))) .nil))) .nil)))) .nil)) turns
      [some (.ref s), some (.int n), some (.ref (h.length + 1)), some (.str []), some (.int size), some (.int (1 + r4))] (h.set s (Sob a4 (c + 5) m) ++ [five, sg]) = .ok (.next r') h' ∧
      ∃ v a' c', size ≤ v.length ∧ Lw v ∧ v.length ≤ size + 4 ∧ 0 ≤ a' ∧ c ≤ c' ∧ c' ≤ c + 5 + 2 * v.length ∧ h' = h.set s (Sob a' c' m) ++ [five, sg] ∧ r' = [some (.ref s), some (.int n), some (.ref (h.length + 1)), some (.str v), some (.int size), some (.int (1 + r4))] := by
    refine whileL_use (fun d r' h' => ∃ v a' c', Lw v ∧ v.length ≤ size + 4 ∧ d = size - v.length ∧ 0 ≤ a' ∧ c ≤ c' ∧ c' ≤ c + 5 + 2 * v.length ∧ h' = h.set s (Sob a' c' m) ++ [five, sg] ∧ r' = [some (.ref s), some (.int n), some (.ref (h.length + 1)), some (.str v), some (.int size), some (.int (1 + r4))])
      (fun r' h' => ∃ v a' c', size ≤ v.length ∧ Lw v ∧ v.length ≤ size + 4 ∧ 0 ≤ a' ∧ c ≤ c' ∧ c' ≤ c + 5 + 2 * v.length ∧ h' = h.set s (Sob a' c' m) ++ [five, sg] ∧ r' = [some (.ref s), some (.int n), some (.ref (h.length + 1)), some (.str v), some (.int size), some (.int (1 + r4))]) ?_ turns (size - 0) _ _ (by unfold turns; omega)
      ⟨[], a4, c + 5, fun _ h => (List.not_mem_nil h).elim, by simp, rfl, y1, by omega, by simp, rfl, rfl⟩
    rintro d r' h' ⟨v, a', c', lw, lv, rfl, b1, b2, b3, rfl, rfl⟩
    have hv : v.length ≤ SZ := Nat.le_trans lv (Nat.le_trans (show size + 4 ≤ 1004 by omega) (by decide))
    by_cases hlt : v.length < size
    · have hlt' : (v.length : Int) < (size : Int) := by omega
      have hsE : (h.set s (Sob a' c' m) ++ [five, sg])[s]? = some (Sob a' c' m) := get_app hl _
      obtain ⟨r5, a5, f1, f2, f3, e5⟩ := take_ok hT0 hT2 hsE b1 (by omega) (by omega) (show (0 : Int) < (cs.length : Int) by omega) (by omega) (k + 1)
      rw [set_app hl] at e5
      have hsF : (h.set s (Sob a5 (c' + 1) m) ++ [five, sg])[s]? = some (Sob a5 (c' + 1) m) := get_app hl _
      obtain ⟨r6, a6, g1, g2, g3, e6⟩ := take_ok hT0 hT2 hsF f1 (by omega) (by omega) (show (0 : Int) < 1 + r4 by omega) (by omega) (k + 1)
      rw [set_app hl, show c' + 1 + 1 = c' + 2 by omega] at e6
      obtain ⟨i5, rfl⟩ := Int.eq_ofNat_of_zero_le f2
      obtain ⟨i6, rfl⟩ := Int.eq_ofNat_of_zero_le g2
      have hi5 : i5 < cs.length := by omega
      have its : ∀ S : O, items (h.set s S ++ [five, sg]) (.ref (h.length + 1)) = some (cs.map fun c => .str [c]) := fun S => items_l _ _ (by simp [hsg])
      have ln : ∀ S : O, pLen [.ref (h.length + 1)] (h.set s S ++ [five, sg]) = .ok (.int cs.length) (h.set s S ++ [five, sg]) := fun S => by rw [pLen_r _ _ (its S)]; simp
      have ix : ∀ S : O, pIx [.ref (h.length + 1), .int i5] (h.set s S ++ [five, sg]) = .ok (.str [cs[i5]]) (h.set s S ++ [five, sg]) := fun S => pIx_l _ _ _ i5 (its S) (by simp [hi5])
      have ml : ∀ h0 : Hm, pMul [.str [cs[i5]], .int (1 + (i6 : Int))] h0 = .ok (.str (List.replicate (1 + i6) [cs[i5]]).flatten) h0 := fun h0 => by
        rw [show (1 : Int) + (i6 : Int) = ((1 + i6 : Nat) : Int) by omega]
        exact pMul_s _ _ _ (by simp; exact Nat.le_trans (show 1 + i6 ≤ 5 by omega) (by decide)) (by omega)
      have fl : (List.replicate (1 + i6) [cs[i5]]).flatten.length = 1 + i6 := by simp
      have lwf : Lw (List.replicate (1 + i6) [cs[i5]]).flatten := fun ch hch => by
        simp at hch
        rw [hch]
        exact w2 _ (List.getElem_mem _)
      have hz : v.length + (List.replicate (1 + i6) [cs[i5]]).flatten.length ≤ SZ := by rw [fl]; exact Nat.le_trans (show v.length + (1 + i6) ≤ 1010 by omega) (by decide)
      refine .inr ⟨by simp [hv, hlt'], _, _, size - (v ++ (List.replicate (1 + i6) [cs[i5]]).flatten).length, ?_, ?_, v ++ (List.replicate (1 + i6) [cs[i5]]).flatten, a6, c' + 2, lw.app lwf, ?_, rfl, g1, by omega, ?_, rfl, rfl⟩
      · simp only [exss_cons, exss_nil, exs_asg, ev_prim, evs_cons, evs_nil, ev_call, ev_var0, ev_varS, ev_cst, R.bind_ok, prim_len, prim_ix, prim_mul, prim_add, ln, e5, ix, e6, pAdd_i, ml, pAdd_s, gd_pos hz, bindP_nm, toS_ok, List.set_cons_succ, List.set_cons_zero]
      · rw [List.length_append, fl]; omega
      · rw [List.length_append, fl]; omega
      · rw [List.length_append, fl]; omega
    · have hlt' : ¬ (v.length : Int) < (size : Int) := by omega
      exact .inl ⟨by simp [hv, hlt'], v, a', c', by omega, lw, lv, b1, b2, b3, rfl, rfl⟩
  obtain ⟨r', h', el, v, a', c', u0, u1, u2, u3, u4, u5, rfl, rfl⟩ := loop
  have hv : v.length ≤ SZ := Nat.le_trans u2 (Nat.le_trans (show size + 4 ≤ 1004 by omega) (by decide))
  refine ⟨v.take size, a', c', by simp; omega, u1.take _, u3, u4, by omega, ?_⟩
  rw [callF_run hT rfl]
  simp only [h_presses, List.map_cons, List.map_nil, List.replicate, List.cons_append, List.nil_append, exss_cons, exss_nil, exs_asg, exs_whl, exs_ret, ev_prim, evs_cons, evs_nil, ev_call, ev_var0, ev_varS, ev_cst, R.bind_ok, prim_tup, prim_lst, prim_ix, prim_add, pLst_u, pTup_u, pAdd_i, List.length_cons, List.length_nil, gd_pos z5, gd_pos z2]
  rw [← hfive]
  simp only [e1, ez, e2, R.bind_ok, gd_pos z2, bindP_two, toS_ok, List.set_cons_succ, List.set_cons_zero, List.length_cons, List.length_nil, ev_var0, ev_varS, pAdd_i, e3, e4]
  refine loop_next (I := fun r' h' => r' = [some (.ref s), some (.int n), some (.ref (h.length + 1)), some (.str v), some (.int size), some (.int (1 + r4))] ∧ h' = h.set s (Sob a' c' m) ++ [five, sg]) ⟨_, _, el, rfl, rfl⟩ ?_
  rintro _ _ ⟨rfl, rfl⟩
  simp only [prim_cut, pCut_01, cutU_s, gd_pos hv, cut_toN, ev_var0, ev_varS, R.bind_ok, toS_ok, ended_ret]
  exact swept_set (Sob_flat _ _ _) rfl
end Mp

set_option linter.all false
set_option maxRecDepth 100000
namespace Mp
theorem grL_at (v : List Nat) {i : Nat} (h : i < v.length) : (grL v)[i]? = some (Lm (v.take (i + 1)) - Lm (v.take i)) := by simp [grL, h]
theorem grL_pos {v : List Nat} {z : Int} (h : z ∈ grL v) : 1 ≤ z := by
  obtain ⟨i, hi, rfl⟩ := List.mem_map.mp h
  have hi' : i < v.length := List.mem_range.mp hi
  rw [take_snoc (List.getElem?_eq_getElem hi'), Lm_snoc]
  have := wt_pos (v.take i).reverse v[i]
  omega
theorem sum_app (a b : List Int) : (a ++ b).sum = a.sum + b.sum := by simp
theorem grL_take (v : List Nat) (n : Nat) : (grL v).take n = (List.range (min n v.length)).map fun i => Lm (v.take (i + 1)) - Lm (v.take i) := by
  unfold grL
  rw [← List.map_take, List.take_range]
theorem sum_tele (f : Nat → Int) : ∀ n : Nat, ((List.range n).map fun i => f (i + 1) - f i).sum = f n - f 0
  | 0 => by simp
  | n + 1 => by
    rw [List.range_succ, List.map_append, sum_app, sum_tele f n]
    simp
    omega
theorem sum_take (v : List Nat) {n : Nat} (h : n ≤ v.length) : ((grL v).take n).sum = Lm (v.take n) := by
  rw [grL_take, Nat.min_eq_left h, sum_tele fun i => Lm (v.take i)]
  simp [Lm_nil]
theorem sum_grL (v : List Nat) : (grL v).sum = Lm v := by
  have := sum_take v (Nat.le_refl _)
  rwa [List.take_of_length_le (by rw [grL_len]; exact Nat.le_refl _), List.take_length] at this
theorem sum_part (v : List Nat) {j n : Nat} (hj : j ≤ n) (h : n ≤ v.length) : (((grL v).drop j).take (n - j)).sum = Lm (v.take n) - Lm (v.take j) := by
  have e : (grL v).take n = (grL v).take j ++ ((grL v).drop j).take (n - j) := by
    rw [← List.take_add]
    congr 1
    omega
  have := congrArg List.sum e
  rw [sum_app, sum_take v h, sum_take v (Nat.le_trans hj h)] at this
  omega
theorem grL_cut (v : List Nat) (n : Nat) : grL (v.take n) = (grL v).take n := by
  rw [grL_take]
  unfold grL
  rw [List.length_take]
  apply List.map_congr_left
  intro i hi
  have := List.mem_range.mp hi
  rw [List.take_take, List.take_take, Nat.min_eq_left (by omega), Nat.min_eq_left (by omega)]
theorem lastR_snoc : ∀ (w : List Nat) (c x : Nat), lastR (w ++ [c]) x = match lastR w x with | some j => some (j + 1) | none => if c = x then some 0 else none
  | [], c, x => by simp [lastR]
  | d :: w, c, x => by
    rw [List.cons_append]
    show (if d = x then some (w ++ [c]).length else lastR (w ++ [c]) x) = _
    rw [lastR_snoc w c x]
    show _ = match (if d = x then some w.length else lastR w x) with | some j => some (j + 1) | none => if c = x then some 0 else none
    by_cases h : d = x
    · simp [h]
    · simp [h]
theorem rfind1 : ∀ (s : List Nat) (x k : Nat), rfindL s [x] k = match lastR s.reverse x with | some j => (k : Int) + (j : Int) | none => -1
  | [], x, k => rfl
  | c :: r, x, k => by
    have ih := rfind1 r x (k + 1)
    rw [rfindL, List.reverse_cons, lastR_snoc]
    cases h : lastR r.reverse x with
    | some j =>
      rw [h] at ih
      simp only at ih ⊢
      rw [ih, if_pos (by omega)]
      omega
    | none =>
      rw [h] at ih
      simp only at ih ⊢
      rw [ih, if_neg (by decide)]
      by_cases hc : c = x
      · subst hc
        simp [List.isPrefixOf]
      · have : List.isPrefixOf [x] (c :: r) = false := by simp [List.isPrefixOf, Ne.symm hc]
        simp [this, hc]
theorem lastR_map {f : Nat → Nat} {P : Nat → Prop} (hf : ∀ x y, P x → P y → f x = f y → x = y) : ∀ (w : List Nat) (x : Nat), (∀ c ∈ w, P c) → P x → lastR (w.map f) (f x) = lastR w x
  | [], x, _, _ => rfl
  | d :: w, x, hw, hx => by
    have ih := lastR_map hf w x (fun c hc => hw c (List.mem_cons_of_mem _ hc)) hx
    show (if f d = f x then some (w.map f).length else lastR (w.map f) (f x)) = if d = x then some w.length else lastR w x
    rw [ih, List.length_map]
    by_cases h : d = x
    · subst h; simp
    · rw [if_neg (fun e => h (hf d x (hw d List.mem_cons_self) hx e)), if_neg h]
theorem wt_map {f : Nat → Nat} {P : Nat → Prop} (hf : ∀ x y, P x → P y → f x = f y → x = y) : ∀ (w : List Nat) (y : Nat), (∀ c ∈ w, P c) → P y → wt (w.map f) (f y) = wt w y
  | [], y, _, _ => rfl
  | x :: w, y, hw, hy => by
    have hx := hw x List.mem_cons_self
    have hw' : ∀ c ∈ w, P c := fun c hc => hw c (List.mem_cons_of_mem _ hc)
    have i1 := wt_map hf w x hw' hx
    have i2 := wt_map hf w y hw' hy
    show (if f y = f x then wt (w.map f) (f x) else wt (w.map f) (f y) + wt (w.map f) (f x)) = if y = x then wt w x else wt w y + wt w x
    rw [i1, i2]
    by_cases h : y = x
    · subst h; simp
    · rw [if_neg (fun e => h (hf y x hy hx e)), if_neg h]
theorem Lr_map {f : Nat → Nat} {P : Nat → Prop} (hf : ∀ x y, P x → P y → f x = f y → x = y) : ∀ (w : List Nat), (∀ c ∈ w, P c) → Lr (w.map f) = Lr w
  | [], _ => rfl
  | x :: w, hw => by
    have hw' : ∀ c ∈ w, P c := fun c hc => hw c (List.mem_cons_of_mem _ hc)
    show Lr (w.map f) + wt (w.map f) (f x) = Lr w + wt w x
    rw [Lr_map hf w hw', wt_map hf w x hw' (hw x List.mem_cons_self)]
theorem Lm_map {f : Nat → Nat} {P : Nat → Prop} (hf : ∀ x y, P x → P y → f x = f y → x = y) {v : List Nat} (hv : ∀ c ∈ v, P c) : Lm (v.map f) = Lm v := by
  unfold Lm
  rw [← List.map_reverse]
  exact Lr_map hf _ fun c hc => hv c (by simpa using hc)
theorem grL_map {f : Nat → Nat} {P : Nat → Prop} (hf : ∀ x y, P x → P y → f x = f y → x = y) {v : List Nat} (hv : ∀ c ∈ v, P c) : grL (v.map f) = grL v := by
  unfold grL
  rw [List.length_map]
  apply List.map_congr_left
  intro i _
  rw [← List.map_take, ← List.map_take, Lm_map hf fun c hc => hv c (List.mem_of_mem_take hc), Lm_map hf fun c hc => hv c (List.mem_of_mem_take hc)]
theorem toDs_int (h : Hm) (n : Nat) : ∀ l : List Int, toDs h (n + 1) (l.map .int) = some (l.map .int)
  | [] => by simp [toDs]
  | a :: r => by simp [toDs, toD, toDs_int h n r]
theorem oks_int : ∀ l : List Int, D.oks (l.map .int) = true
  | [] => rfl
  | a :: r => by simp [D.oks, D.ok, oks_int r]
theorem eqvs_int : ∀ l l' : List Int, D.eqvs (l.map .int) (l'.map .int) = (l == l')
  | [], [] => rfl
  | [], _ :: _ => rfl
  | _ :: _, [] => rfl
  | a :: r, b :: s => by
    rw [List.map_cons, List.map_cons, D.eqvs, eqvs_int r s]
    rfl
theorem eqU_ints (h : Hm) (l l' : List Int) : eqU h (.tup (l.map .int)) (.tup (l'.map .int)) = some (l == l') := by
  have e : ∀ l : List Int, toD h 12 (.tup (l.map .int)) = some (.tup (l.map .int)) := fun l => by
    rw [toD, toDs_int h 10]; rfl
  unfold eqU
  simp only [e, D.ok, oks_int, and_self, if_true, D.eqv, eqvs_int]
end Mp

set_option linter.all false
set_option maxRecDepth 100000
namespace Mp
theorem digits_core : ∀ (fuel n k : Nat) (ds : List Char), n < 10 ^ (k + 1) → (Nat.toDigitsCore 10 fuel n ds).length ≤ k + 1 + ds.length
  | 0, n, k, ds, _ => by simp [Nat.toDigitsCore]
  | fuel + 1, n, k, ds, h => by
    rw [Nat.toDigitsCore]
    split
    · simp; omega
    · rename_i hn
      cases k with
      | zero =>
        exfalso
        apply hn
        simp at h
        omega
      | succ k =>
        have h2 : n / 10 < 10 ^ (k + 1) := by
          apply Nat.div_lt_of_lt_mul
          rw [Nat.pow_succ] at h
          omega
        have := digits_core fuel (n / 10) k (Nat.digitChar (n % 10) :: ds) h2
        simp at this ⊢
        omega
theorem numT_len {i : Int} {k : Nat} (h : i.natAbs < 10 ^ (k + 1)) : (numT i).length ≤ k + 2 := by
  have := digits_core (i.natAbs + 1) i.natAbs k [] h
  unfold numT
  have e : (Nat.toDigits 10 i.natAbs).length ≤ k + 1 := by
    unfold Nat.toDigits
    simpa using this
  split <;> simp <;> omega
theorem pRepr_two {h : Hm} {p : Nat} {a b : Int} (e : h[p]? = some (.lst [.int a, .int b])) (ha : a.natAbs < 2 ^ 250) (hb : b.natAbs < 2 ^ 250) : ∃ t, (∀ h' : Hm, ∀ q : Nat, h'[q]? = some (.lst [.int a, .int b]) → pRepr [.ref q] h' = .ok (.str t) h') := by
  have lg : ∀ {x : Int}, x.natAbs < 2 ^ 250 → x.natAbs.log2 < 1920 := fun {x} hx => by
    by_cases hz : x.natAbs = 0
    · rw [hz]; decide
    · have := (Nat.log2_lt hz).mpr hx; omega
  have ln : ∀ {x : Int}, x.natAbs < 2 ^ 250 → (numT x).length ≤ 251 := fun {x} hx => numT_len (k := 249) (Nat.lt_of_lt_of_le hx (Nat.pow_le_pow_left (by decide) 250))
  refine ⟨(D.lst [.int a, .int b]).shown, fun h' q e' => ?_⟩
  have td : toD h' 12 (.ref q) = some (.lst [.int a, .int b]) := by
    rw [toD, e']
    have := toDs_int h' 10 [a, b]
    simp only [List.map_cons, List.map_nil] at this
    simp [this]
  have len : (D.lst [.int a, .int b]).shown.length ≤ SZ := by
    have := ln ha
    have := ln hb
    simp only [D.shown, D.showns, joinL, List.length_cons, List.length_append, List.length_nil]
    exact Nat.le_trans (show _ ≤ 3000 by omega) (by decide)
  unfold pRepr
  simp only [td]
  rw [gd_b]
  simp [isRef, D.rok, D.roks, lg ha, lg hb]
  exact len
end Mp

namespace Mp.K02
open Mp
/-- 5000: _law_steps_right(_law_v, _law_steps), slots _law_v _law_steps _law_at _law_step _law_ahead _law_behind_last -/
def g_steps_right : Fd := ⟨2, 6, (.cons (.ifs (.or (.val (.prim .ne (.cons (.prim .len (.cons (.var 1) .nil)) (.cons (.prim .len (.cons (.var 0) .nil)) .nil)))) (.val (.prim .lt (.cons (.prim .min1 (.cons (.prim .add (.cons (.prim .lst (.cons (.cst (.int 1)) .nil)) (.cons (.prim .toList (.cons (.var 1) .nil)) .nil))) .nil)) (.cons (.cst (.int 1)) .nil))))) (.cons (.ret (.cst (.bl false))) .nil) .nil) (.cons (.for_ (.call .enum (.cons (.var 1) .nil)) (.two 2 3) (.cons (.asg (.nm 4) (.prim .sum1 (.cons (.prim (.cut false true) (.cons (.var 1) (.cons (.var 2) .nil))) .nil))) (.cons (.asg (.nm 5) (.meth .str .rfind (.prim (.cut false true) (.cons (.var 0) (.cons (.var 2) .nil))) (.cons (.prim .ix (.cons (.var 0) (.cons (.var 2) .nil))) .nil))) (.cons (.ifs (.val (.prim .ne (.cons (.var 3) (.cons (.ite (.val (.prim .lt (.cons (.var 5) (.cons (.cst (.int 0)) .nil)))) (.prim .add (.cons (.var 4) (.cons (.cst (.int 1)) .nil))) (.prim .sum1 (.cons (.prim (.cut true true) (.cons (.var 1) (.cons (.var 5) (.cons (.var 2) .nil)))) .nil))) .nil)))) (.cons (.ret (.cst (.bl false))) .nil) .nil) .nil)))) (.cons (.ret (.cst (.bl true))) .nil)))⟩
/-- 5001: law(_law_script), slots _law_script _law_k _law_cell _law_stream_here _law_v _law_some _law_shift _law_other _law_at _law_steps _law_size _law_sign -/
def g_law : Fd := ⟨1, 12, (.cons (.for_ (.call .enum (.cons (.prim (.cut false true) (.cons (.prim .add (.cons (.var 0) (.cons (.prim .lst (.cons (.cst (.int 0)) .nil)) .nil))) (.cons (.cst (.int 9)) .nil))) .nil)) (.two 1 2) (.cons (.asg (.nm 3) (.call 1001 (.cons (.var 2) (.cons (.var 1) .nil)))) (.cons (.asg (.nm 4) (.call 1004 (.cons (.var 3) (.cons (.cst (.int 200)) .nil)))) (.cons (.asg (.two 9 10) (.prim .tup (.cons (.call 7 (.cons (.var 4) .nil)) (.cons (.call 6 (.cons (.var 4) .nil)) .nil)))) (.cons (.ifs (.or (.not (.val (.call 5000 (.cons (.var 4) (.cons (.var 9) .nil))))) (.val (.prim .ne (.cons (.prim .repr (.cons (.prim .lst (.cons (.prim .sum1 (.cons (.var 9) .nil)) (.cons (.call 6 (.cons (.call 22 (.cons (.var 4) .nil)) .nil)) .nil))) .nil)) (.cons (.prim .repr (.cons (.prim .lst (.cons (.var 10) (.cons (.var 10) .nil))) .nil)) .nil))))) (.cons (.ret (.cst (.bl false))) .nil) .nil) (.cons (.asg (.nm 5) (.cst (.str [97, 98, 99, 100, 101, 102, 103, 104, 105, 106, 107, 108, 109, 110, 111, 112, 113, 114, 115, 116, 117, 118, 119, 120, 121, 122]))) (.cons (.asg (.nm 6) (.call 1002 (.cons (.var 3) (.cons (.cst (.int 26)) .nil)))) (.cons (.asg (.nm 7) (.meth .str .join (.cst (.str [])) (.cons (.comp (.ofE (.var 4)) (.nm 11) [11] .tt (.prim .ix (.cons (.var 5) (.cons (.prim .sub (.cons (.cst (.int 25)) (.cons (.prim .mod (.cons (.prim .add (.cons (.meth .str .index (.var 5) (.cons (.var 11) .nil)) (.cons (.var 6) .nil))) (.cons (.cst (.int 26)) .nil))) .nil))) .nil)))) .nil))) (.cons (.ifs (.or (.val (.prim .ne (.cons (.call 7 (.cons (.var 7) .nil)) (.cons (.var 9) .nil)))) (.val (.prim .ne (.cons (.call 6 (.cons (.var 7) .nil)) (.cons (.var 10) .nil))))) (.cons (.ret (.cst (.bl false))) .nil) .nil) (.cons (.asg (.nm 8) (.call 1002 (.cons (.var 3) (.cons (.prim .add (.cons (.prim .len (.cons (.var 4) .nil)) (.cons (.cst (.int 1)) .nil))) .nil)))) (.cons (.ifs (.or (.val (.prim .ne (.cons (.call 7 (.cons (.prim (.cut false true) (.cons (.var 4) (.cons (.var 8) .nil))) .nil)) (.cons (.prim (.cut false true) (.cons (.var 9) (.cons (.var 8) .nil))) .nil)))) (.val (.prim .ne (.cons (.call 6 (.cons (.prim (.cut false true) (.cons (.var 4) (.cons (.var 8) .nil))) .nil)) (.cons (.prim .sum1 (.cons (.prim (.cut false true) (.cons (.var 9) (.cons (.var 8) .nil))) .nil)) .nil))))) (.cons (.ret (.cst (.bl false))) .nil) .nil) (.cons (.ifs (.val (.prim .ne (.cons (.prim .sum1 (.cons (.call 7 (.cons (.call 22 (.cons (.prim (.cut true false) (.cons (.var 4) (.cons (.var 8) .nil))) .nil)) .nil)) .nil)) (.cons (.call 6 (.cons (.prim (.cut true false) (.cons (.var 4) (.cons (.var 8) .nil))) .nil)) .nil)))) (.cons (.ret (.cst (.bl false))) .nil) .nil) .nil)))))))))))) (.cons (.ret (.cst (.bl true))) .nil))⟩
def lawL : List Fd := [g_steps_right, g_law]
def tab (i : Nat) : Option Fd := if i < 1000 then progL[i]? else if i < 5000 then helpL[i - 1000]? else lawL[i - 5000]?
end Mp.K02
set_option linter.all false
set_option maxRecDepth 100000
namespace Mp.K02
open Mp
variable {T : Nat → Option Fd}
theorem minL_one : ∀ l : List Int, (∀ z ∈ l, 1 ≤ z) → minL 1 l = 1
  | [], _ => rfl
  | a :: r, h => by
    have := h a List.mem_cons_self
    rw [minL, if_neg (by omega)]
    exact minL_one r fun z hz => h z (List.mem_cons_of_mem _ hz)
theorem steps_ok (hT : T 5000 = some g_steps_right) {v : List Nat} (hl : v.length ≤ 200) (k : Nat) (h : Hm) : callF T (k + 1) 5000 [.str v, .tup ((grL v).map .int)] h = .ok (.bl true) h := by
  have hs : v.length ≤ SZ := Nat.le_trans hl (by decide)
  have z1 : 1 ≤ SZ := by decide
  have i1 : items (h ++ [.lst [.int 1], .lst ((grL v).map .int)]) (.ref (h.length + 1)) = some ((grL v).map .int) := items_l _ _ (by simp)
  have i0 : items (h ++ [.lst [.int 1], .lst ((grL v).map .int)]) (.ref h.length) = some [.int 1] := items_l _ _ (by simp)
  have ad : pAdd [.ref h.length, .ref (h.length + 1)] (h ++ [.lst [.int 1], .lst ((grL v).map .int)]) = .ok (.ref (h.length + 2)) (h ++ [.lst [.int 1], .lst ((grL v).map .int), .lst (.int 1 :: (grL v).map .int)]) := by
    rw [pAdd_r _ _ _ i0 i1 (by simp [grL_len]; exact Nat.le_trans (show 1 + v.length ≤ 1000 by omega) (by decide))]
    simp
  have mn : pMin1 [.ref (h.length + 2)] (h ++ [.lst [.int 1], .lst ((grL v).map .int), .lst (.int 1 :: (grL v).map .int)]) = .ok (.int 1) (h ++ [.lst [.int 1], .lst ((grL v).map .int), .lst (.int 1 :: (grL v).map .int)]) := by
    have : items (h ++ [.lst [.int 1], .lst ((grL v).map .int), .lst (.int 1 :: (grL v).map .int)]) (.ref (h.length + 2)) = some ((1 :: grL v).map .int) := items_l _ _ (by simp)
    unfold pMin1
    simp only [this, Option.bind_some, allInt_map, minL_one _ fun z hz => grL_pos hz]
  rw [callF_run hT rfl]
  simp [g_steps_right, grL_len, hs, z1, pToList_u, ad, mn]
  refine loop_next (I := fun r' h' => ∃ l, h' = h ++ l) ?_ (fun r' h' e => by obtain ⟨l, rfl⟩ := e; simp)
  refine (forL_ix (fun n r' h' => (∃ l, h' = h ++ l) ∧ ∃ a b c d, r' = [some (.str v), some (.tup ((grL v).map .int)), a, b, c, d]) ⟨⟨_, rfl⟩, _, _, _, _, rfl⟩ (fun n r h' _ i => rfl) fun n x r h' hx i => ?_).imp fun r ⟨h', e, i⟩ => ⟨h', e, i.1⟩
  obtain ⟨⟨l, rfl⟩, a, b, c, d, rfl⟩ := i
  obtain ⟨y, hy, rfl⟩ := enum_at hx
  have hn : n < v.length := by have := (List.getElem?_eq_some_iff.mp hy).1; simpa [grL_len] using this
  rw [List.getElem?_map, grL_at v hn] at hy
  cases hy
  have hc : v[n]? = some v[n] := List.getElem?_eq_getElem hn
  have ix : ∀ h0, pIx [.str v, .int n] h0 = .ok (.str [v[n]]) h0 := fun h0 => pIx_s v h0 n hs hc
  have s1 : ∀ h0, pSum1 [.tup (((grL v).map .int).take n)] h0 = .ok (.int (Lm (v.take n))) h0 := fun h0 => by
    rw [pSum1_u h0 _ (l := (grL v).take n) (by simp), sum_take v (Nat.le_of_lt hn)]
  have rf : ∀ h0, pRfind [.str (v.take n), .str [v[n]]] h0 = .ok (.int (rfindL (v.take n) [v[n]] 0)) h0 := fun h0 => by simp [pRfind]
  have nx := lens_next hc
  have rl := rfind1 (v.take n) v[n] 0
  cases hq : lastR (v.take n).reverse v[n] with
  | none =>
    rw [hq] at nx rl
    simp only at nx rl
    have e : Lm (v.take (n + 1)) - Lm (v.take n) = Lm (v.take n) + 1 := by rw [nx]; omega
    simp [hs, s1, ix, rf, rl, e]
    exact ⟨_, _, ⟨rfl, rfl⟩, ⟨_, rfl⟩, _, _, _, _, rfl⟩
  | some j =>
    have hj : j < n := by have := lastR_lt hq; simp at this; omega
    rw [hq] at nx rl
    simp only at nx rl
    have e : Lm (v.take (n + 1)) - Lm (v.take n) = Lm (v.take n) - Lm (v.take j) := by rw [nx]; omega
    have s2 : ∀ h0, pSum1 [.tup ((((grL v).map .int).drop j).take (n - j))] h0 = .ok (.int (Lm (v.take n) - Lm (v.take j))) h0 := fun h0 => by
      rw [pSum1_u h0 _ (l := ((grL v).drop j).take (n - j)) (by simp), sum_part v (Nat.le_of_lt hj) (Nat.le_of_lt hn)]
    rw [Int.natCast_zero, Int.zero_add] at rl
    have h0 : ¬ ((j : Int) < 0) := by omega
    simp [hs, s1, ix, rf, rl, e, s2, h0]
    exact ⟨_, _, ⟨rfl, rfl⟩, ⟨_, rfl⟩, _, _, _, _, rfl⟩
end Mp.K02

namespace Mp.K02
open PySem PySem.Spec PyProof.Rows L2 Mp
def top (i : Nat) : Stmt := PySem.Challenge.pw_mirrorpress_k02_whole_length_from_behind.main.body.getD i (.Pass ⟨0, 0, 0, 0⟩)
def e2 : Ent := ⟨"odd_place", top 8, ["text", "place", "sign"], ["text"]⟩
def e3 : Ent := ⟨"need_presses", top 9, ["thing", "place"], ["thing"]⟩
def e21 : Ent := ⟨"need_text", top 10, ["thing", "place"], ["thing"]⟩
def e22 : Ent := ⟨"turned_text", top 11, ["text"], ["text"]⟩
def e4 : Ent := ⟨"lasts_of", top 13, ["presses", "last", "found", "at", "letter"], ["presses"]⟩
def e5 : Ent := ⟨"lengths_of", top 14, ["presses", "found", "shared"], ["presses"]⟩
def e6 : Ent := ⟨"length", top 15, ["presses"], ["presses"]⟩
def e7 : Ent := ⟨"growths", top 16, ["presses", "lengths", "ahead", "after"], ["presses"]⟩
def e1000 : Ent := ⟨"_law_mixed", top 18, ["_law_number", "_law_k"], ["_law_number", "_law_k"]⟩
def e1001 : Ent := ⟨"_law_stream", top 19, ["_law_cell", "_law_k"], ["_law_cell", "_law_k"]⟩
def e1002 : Ent := ⟨"_law_take", top 20, ["_law_stream_here", "_law_top", "_law_number"], ["_law_stream_here", "_law_top"]⟩
def e1003 : Ent := ⟨"_law_signs", top 21, ["_law_stream_here", "_law_size", "_law_shift", "_law_step", "_law_k"], ["_law_stream_here", "_law_size"]⟩
def e1004 : Ent := ⟨"_law_presses", top 22, ["_law_stream_here", "_law_limit", "_law_signs_here", "_law_found", "_law_size", "_law_run"], ["_law_stream_here", "_law_limit"]⟩
def e5000 : Ent := ⟨"_law_steps_right", top 23, ["_law_v", "_law_steps", "_law_at", "_law_step", "_law_ahead", "_law_behind_last"], ["_law_v", "_law_steps"]⟩
def e5001 : Ent := ⟨"law", top 24, ["_law_script", "_law_k", "_law_cell", "_law_stream_here", "_law_v", "_law_some", "_law_shift", "_law_other", "_law_at", "_law_steps", "_law_size", "_law_sign"], ["_law_script"]⟩
def ent : Nat → Option Ent
  | 2 => some e2
  | 3 => some e3
  | 21 => some e21
  | 22 => some e22
  | 4 => some e4
  | 5 => some e5
  | 6 => some e6
  | 7 => some e7
  | 1000 => some e1000
  | 1001 => some e1001
  | 1002 => some e1002
  | 1003 => some e1003
  | 1004 => some e1004
  | 5000 => some e5000
  | 5001 => some e5001
  | _ => none
def gs : Gs := ⟨[("odd_place", 2), ("need_presses", 3), ("need_text", 21), ("turned_text", 22), ("lasts_of", 4), ("lengths_of", 5), ("length", 6), ("growths", 7), ("_law_mixed", 1000), ("_law_stream", 1001), ("_law_take", 1002), ("_law_signs", 1003), ("_law_presses", 1004), ("_law_steps_right", 5000), ("law", 5001)], [("MOST_TEXT", (U.int 20000)), ("MOST_PRESSES", (U.int 200)), ("LETTERS", (U.str [97, 98, 99, 100, 101, 102, 103, 104, 105, 106, 107, 108, 109, 110, 111, 112, 113, 114, 115, 116, 117, 118, 119, 120, 121, 122]))]⟩
theorem ok2 : ∀ d, tab 2 = some d → entOk gs e2 d = true := by intro d h; cases h; decide +kernel
theorem ok3 : ∀ d, tab 3 = some d → entOk gs e3 d = true := by intro d h; cases h; decide +kernel
theorem ok21 : ∀ d, tab 21 = some d → entOk gs e21 d = true := by intro d h; cases h; decide +kernel
theorem ok22 : ∀ d, tab 22 = some d → entOk gs e22 d = true := by intro d h; cases h; decide +kernel
theorem ok4 : ∀ d, tab 4 = some d → entOk gs e4 d = true := by intro d h; cases h; decide +kernel
theorem ok5 : ∀ d, tab 5 = some d → entOk gs e5 d = true := by intro d h; cases h; decide +kernel
theorem ok6 : ∀ d, tab 6 = some d → entOk gs e6 d = true := by intro d h; cases h; decide +kernel
theorem ok7 : ∀ d, tab 7 = some d → entOk gs e7 d = true := by intro d h; cases h; decide +kernel
theorem ok1000 : ∀ d, tab 1000 = some d → entOk gs e1000 d = true := by intro d h; cases h; decide +kernel
theorem ok1001 : ∀ d, tab 1001 = some d → entOk gs e1001 d = true := by intro d h; cases h; decide +kernel
theorem ok1002 : ∀ d, tab 1002 = some d → entOk gs e1002 d = true := by intro d h; cases h; decide +kernel
theorem ok1003 : ∀ d, tab 1003 = some d → entOk gs e1003 d = true := by intro d h; cases h; decide +kernel
theorem ok1004 : ∀ d, tab 1004 = some d → entOk gs e1004 d = true := by intro d h; cases h; decide +kernel
theorem ok5000 : ∀ d, tab 5000 = some d → entOk gs e5000 d = true := by intro d h; cases h; decide +kernel
theorem ok5001 : ∀ d, tab 5001 = some d → entOk gs e5001 d = true := by intro d h; cases h; decide +kernel
theorem txt : Txt gs ent tab := by
  refine ⟨fun i e d h1 h2 => ?_, nam_of ?_⟩
  · unfold ent at h1
    split at h1
    · cases h1; exact ok2 d h2
    · cases h1; exact ok3 d h2
    · cases h1; exact ok21 d h2
    · cases h1; exact ok22 d h2
    · cases h1; exact ok4 d h2
    · cases h1; exact ok5 d h2
    · cases h1; exact ok6 d h2
    · cases h1; exact ok7 d h2
    · cases h1; exact ok1000 d h2
    · cases h1; exact ok1001 d h2
    · cases h1; exact ok1002 d h2
    · cases h1; exact ok1003 d h2
    · cases h1; exact ok1004 d h2
    · cases h1; exact ok5000 d h2
    · cases h1; exact ok5001 d h2
    · cases h1
  · exact List.forall_mem_cons.mpr ⟨⟨e2, rfl, rfl⟩, List.forall_mem_cons.mpr ⟨⟨e3, rfl, rfl⟩, List.forall_mem_cons.mpr ⟨⟨e21, rfl, rfl⟩, List.forall_mem_cons.mpr ⟨⟨e22, rfl, rfl⟩, List.forall_mem_cons.mpr ⟨⟨e4, rfl, rfl⟩, List.forall_mem_cons.mpr ⟨⟨e5, rfl, rfl⟩, List.forall_mem_cons.mpr ⟨⟨e6, rfl, rfl⟩, List.forall_mem_cons.mpr ⟨⟨e7, rfl, rfl⟩, List.forall_mem_cons.mpr ⟨⟨e1000, rfl, rfl⟩, List.forall_mem_cons.mpr ⟨⟨e1001, rfl, rfl⟩, List.forall_mem_cons.mpr ⟨⟨e1002, rfl, rfl⟩, List.forall_mem_cons.mpr ⟨⟨e1003, rfl, rfl⟩, List.forall_mem_cons.mpr ⟨⟨e1004, rfl, rfl⟩, List.forall_mem_cons.mpr ⟨⟨e5000, rfl, rfl⟩, List.forall_mem_cons.mpr ⟨⟨e5001, rfl, rfl⟩, fun _ h => absurd h (List.not_mem_nil)⟩⟩⟩⟩⟩⟩⟩⟩⟩⟩⟩⟩⟩⟩⟩
theorem top_of {K : PySem.W.Frag} {h : Heap} {mg : Str → Option Value} (X : K.In h) (G : h.Ns mainGlobals mg)
    {f2 : Addr} {od2 an2 : Option Addr} {sl2 : Array (Option Value)} {oc2 kV2 dc2 pm2 cd2 ct2 : Value}
    (a2 : PySem.W.nsIn K mainGlobals e2.nm = some (some (.ref f2))) (l2 : K.lookup f2 = some ⟨oc2, od2, .func (PySem.W.fnOf e2.nm e2.nm (C8.fnArgs e2.st) (C8.fnBody e2.st) (C8.fnScope e2.st) .none kV2 dc2 pm2 an2 cd2 ct2), sl2⟩) (c2 : PySem.W.codeIn K cd2 e2.nm = true) (k2 : PySem.W.keepIn K (.ref f2) = true)
    {f3 : Addr} {od3 an3 : Option Addr} {sl3 : Array (Option Value)} {oc3 kV3 dc3 pm3 cd3 ct3 : Value}
    (a3 : PySem.W.nsIn K mainGlobals e3.nm = some (some (.ref f3))) (l3 : K.lookup f3 = some ⟨oc3, od3, .func (PySem.W.fnOf e3.nm e3.nm (C8.fnArgs e3.st) (C8.fnBody e3.st) (C8.fnScope e3.st) .none kV3 dc3 pm3 an3 cd3 ct3), sl3⟩) (c3 : PySem.W.codeIn K cd3 e3.nm = true) (k3 : PySem.W.keepIn K (.ref f3) = true)
    {f21 : Addr} {od21 an21 : Option Addr} {sl21 : Array (Option Value)} {oc21 kV21 dc21 pm21 cd21 ct21 : Value}
    (a21 : PySem.W.nsIn K mainGlobals e21.nm = some (some (.ref f21))) (l21 : K.lookup f21 = some ⟨oc21, od21, .func (PySem.W.fnOf e21.nm e21.nm (C8.fnArgs e21.st) (C8.fnBody e21.st) (C8.fnScope e21.st) .none kV21 dc21 pm21 an21 cd21 ct21), sl21⟩) (c21 : PySem.W.codeIn K cd21 e21.nm = true) (k21 : PySem.W.keepIn K (.ref f21) = true)
    {f22 : Addr} {od22 an22 : Option Addr} {sl22 : Array (Option Value)} {oc22 kV22 dc22 pm22 cd22 ct22 : Value}
    (a22 : PySem.W.nsIn K mainGlobals e22.nm = some (some (.ref f22))) (l22 : K.lookup f22 = some ⟨oc22, od22, .func (PySem.W.fnOf e22.nm e22.nm (C8.fnArgs e22.st) (C8.fnBody e22.st) (C8.fnScope e22.st) .none kV22 dc22 pm22 an22 cd22 ct22), sl22⟩) (c22 : PySem.W.codeIn K cd22 e22.nm = true) (k22 : PySem.W.keepIn K (.ref f22) = true)
    {f4 : Addr} {od4 an4 : Option Addr} {sl4 : Array (Option Value)} {oc4 kV4 dc4 pm4 cd4 ct4 : Value}
    (a4 : PySem.W.nsIn K mainGlobals e4.nm = some (some (.ref f4))) (l4 : K.lookup f4 = some ⟨oc4, od4, .func (PySem.W.fnOf e4.nm e4.nm (C8.fnArgs e4.st) (C8.fnBody e4.st) (C8.fnScope e4.st) .none kV4 dc4 pm4 an4 cd4 ct4), sl4⟩) (c4 : PySem.W.codeIn K cd4 e4.nm = true) (k4 : PySem.W.keepIn K (.ref f4) = true)
    {f5 : Addr} {od5 an5 : Option Addr} {sl5 : Array (Option Value)} {oc5 kV5 dc5 pm5 cd5 ct5 : Value}
    (a5 : PySem.W.nsIn K mainGlobals e5.nm = some (some (.ref f5))) (l5 : K.lookup f5 = some ⟨oc5, od5, .func (PySem.W.fnOf e5.nm e5.nm (C8.fnArgs e5.st) (C8.fnBody e5.st) (C8.fnScope e5.st) .none kV5 dc5 pm5 an5 cd5 ct5), sl5⟩) (c5 : PySem.W.codeIn K cd5 e5.nm = true) (k5 : PySem.W.keepIn K (.ref f5) = true)
    {f6 : Addr} {od6 an6 : Option Addr} {sl6 : Array (Option Value)} {oc6 kV6 dc6 pm6 cd6 ct6 : Value}
    (a6 : PySem.W.nsIn K mainGlobals e6.nm = some (some (.ref f6))) (l6 : K.lookup f6 = some ⟨oc6, od6, .func (PySem.W.fnOf e6.nm e6.nm (C8.fnArgs e6.st) (C8.fnBody e6.st) (C8.fnScope e6.st) .none kV6 dc6 pm6 an6 cd6 ct6), sl6⟩) (c6 : PySem.W.codeIn K cd6 e6.nm = true) (k6 : PySem.W.keepIn K (.ref f6) = true)
    {f7 : Addr} {od7 an7 : Option Addr} {sl7 : Array (Option Value)} {oc7 kV7 dc7 pm7 cd7 ct7 : Value}
    (a7 : PySem.W.nsIn K mainGlobals e7.nm = some (some (.ref f7))) (l7 : K.lookup f7 = some ⟨oc7, od7, .func (PySem.W.fnOf e7.nm e7.nm (C8.fnArgs e7.st) (C8.fnBody e7.st) (C8.fnScope e7.st) .none kV7 dc7 pm7 an7 cd7 ct7), sl7⟩) (c7 : PySem.W.codeIn K cd7 e7.nm = true) (k7 : PySem.W.keepIn K (.ref f7) = true)
    {f1000 : Addr} {od1000 an1000 : Option Addr} {sl1000 : Array (Option Value)} {oc1000 kV1000 dc1000 pm1000 cd1000 ct1000 : Value}
    (a1000 : PySem.W.nsIn K mainGlobals e1000.nm = some (some (.ref f1000))) (l1000 : K.lookup f1000 = some ⟨oc1000, od1000, .func (PySem.W.fnOf e1000.nm e1000.nm (C8.fnArgs e1000.st) (C8.fnBody e1000.st) (C8.fnScope e1000.st) .none kV1000 dc1000 pm1000 an1000 cd1000 ct1000), sl1000⟩) (c1000 : PySem.W.codeIn K cd1000 e1000.nm = true) (k1000 : PySem.W.keepIn K (.ref f1000) = true)
    {f1001 : Addr} {od1001 an1001 : Option Addr} {sl1001 : Array (Option Value)} {oc1001 kV1001 dc1001 pm1001 cd1001 ct1001 : Value}
    (a1001 : PySem.W.nsIn K mainGlobals e1001.nm = some (some (.ref f1001))) (l1001 : K.lookup f1001 = some ⟨oc1001, od1001, .func (PySem.W.fnOf e1001.nm e1001.nm (C8.fnArgs e1001.st) (C8.fnBody e1001.st) (C8.fnScope e1001.st) .none kV1001 dc1001 pm1001 an1001 cd1001 ct1001), sl1001⟩) (c1001 : PySem.W.codeIn K cd1001 e1001.nm = true) (k1001 : PySem.W.keepIn K (.ref f1001) = true)
    {f1002 : Addr} {od1002 an1002 : Option Addr} {sl1002 : Array (Option Value)} {oc1002 kV1002 dc1002 pm1002 cd1002 ct1002 : Value}
    (a1002 : PySem.W.nsIn K mainGlobals e1002.nm = some (some (.ref f1002))) (l1002 : K.lookup f1002 = some ⟨oc1002, od1002, .func (PySem.W.fnOf e1002.nm e1002.nm (C8.fnArgs e1002.st) (C8.fnBody e1002.st) (C8.fnScope e1002.st) .none kV1002 dc1002 pm1002 an1002 cd1002 ct1002), sl1002⟩) (c1002 : PySem.W.codeIn K cd1002 e1002.nm = true) (k1002 : PySem.W.keepIn K (.ref f1002) = true)
    {f1003 : Addr} {od1003 an1003 : Option Addr} {sl1003 : Array (Option Value)} {oc1003 kV1003 dc1003 pm1003 cd1003 ct1003 : Value}
    (a1003 : PySem.W.nsIn K mainGlobals e1003.nm = some (some (.ref f1003))) (l1003 : K.lookup f1003 = some ⟨oc1003, od1003, .func (PySem.W.fnOf e1003.nm e1003.nm (C8.fnArgs e1003.st) (C8.fnBody e1003.st) (C8.fnScope e1003.st) .none kV1003 dc1003 pm1003 an1003 cd1003 ct1003), sl1003⟩) (c1003 : PySem.W.codeIn K cd1003 e1003.nm = true) (k1003 : PySem.W.keepIn K (.ref f1003) = true)
    {f1004 : Addr} {od1004 an1004 : Option Addr} {sl1004 : Array (Option Value)} {oc1004 kV1004 dc1004 pm1004 cd1004 ct1004 : Value}
    (a1004 : PySem.W.nsIn K mainGlobals e1004.nm = some (some (.ref f1004))) (l1004 : K.lookup f1004 = some ⟨oc1004, od1004, .func (PySem.W.fnOf e1004.nm e1004.nm (C8.fnArgs e1004.st) (C8.fnBody e1004.st) (C8.fnScope e1004.st) .none kV1004 dc1004 pm1004 an1004 cd1004 ct1004), sl1004⟩) (c1004 : PySem.W.codeIn K cd1004 e1004.nm = true) (k1004 : PySem.W.keepIn K (.ref f1004) = true)
    {f5000 : Addr} {od5000 an5000 : Option Addr} {sl5000 : Array (Option Value)} {oc5000 kV5000 dc5000 pm5000 cd5000 ct5000 : Value}
    (a5000 : PySem.W.nsIn K mainGlobals e5000.nm = some (some (.ref f5000))) (l5000 : K.lookup f5000 = some ⟨oc5000, od5000, .func (PySem.W.fnOf e5000.nm e5000.nm (C8.fnArgs e5000.st) (C8.fnBody e5000.st) (C8.fnScope e5000.st) .none kV5000 dc5000 pm5000 an5000 cd5000 ct5000), sl5000⟩) (c5000 : PySem.W.codeIn K cd5000 e5000.nm = true) (k5000 : PySem.W.keepIn K (.ref f5000) = true)
    {f5001 : Addr} {od5001 an5001 : Option Addr} {sl5001 : Array (Option Value)} {oc5001 kV5001 dc5001 pm5001 cd5001 ct5001 : Value}
    (a5001 : PySem.W.nsIn K mainGlobals e5001.nm = some (some (.ref f5001))) (l5001 : K.lookup f5001 = some ⟨oc5001, od5001, .func (PySem.W.fnOf e5001.nm e5001.nm (C8.fnArgs e5001.st) (C8.fnBody e5001.st) (C8.fnScope e5001.st) .none kV5001 dc5001 pm5001 an5001 cd5001 ct5001), sl5001⟩) (c5001 : PySem.W.codeIn K cd5001 e5001.nm = true) (k5001 : PySem.W.keepIn K (.ref f5001) = true)
    (b_len : PySem.W.nsIn K mainGlobals "len" = some none)
    (b_abs : PySem.W.nsIn K mainGlobals "abs" = some none)
    (b_min : PySem.W.nsIn K mainGlobals "min" = some none)
    (b_max : PySem.W.nsIn K mainGlobals "max" = some none)
    (b_sum : PySem.W.nsIn K mainGlobals "sum" = some none)
    (b_repr : PySem.W.nsIn K mainGlobals "repr" = some none)
    (b_all : PySem.W.nsIn K mainGlobals "all" = some none)
    (b_int : PySem.W.nsIn K mainGlobals "int" = some none)
    (b_tuple : PySem.W.nsIn K mainGlobals "tuple" = some none)
    (b_list : PySem.W.nsIn K mainGlobals "list" = some none)
    (b_isinstance : PySem.W.nsIn K mainGlobals "isinstance" = some none)
    (b_str : PySem.W.nsIn K mainGlobals "str" = some none)
    (b_bool : PySem.W.nsIn K mainGlobals "bool" = some none)
    (b_dict : PySem.W.nsIn K mainGlobals "dict" = some none)
    (b_range : PySem.W.nsIn K mainGlobals "range" = some none)
    (b_enumerate : PySem.W.nsIn K mainGlobals "enumerate" = some none)
    (b_zip : PySem.W.nsIn K mainGlobals "zip" = some none)
    {t_MOST_TEXT : Tok} (v_MOST_TEXT : PySem.W.nsIn K mainGlobals "MOST_TEXT" = some (some (.int 20000 t_MOST_TEXT)))
    {t_MOST_PRESSES : Tok} (v_MOST_PRESSES : PySem.W.nsIn K mainGlobals "MOST_PRESSES" = some (some (.int 200 t_MOST_PRESSES)))
    {t_LETTERS : Tok} (v_LETTERS : PySem.W.nsIn K mainGlobals "LETTERS" = some (some (.str "abcdefghijklmnopqrstuvwxyz" t_LETTERS))) : Top K mg gs ent := by
  refine ⟨fun i e h1 => ?_, ?_, fun x u h1 => ?_⟩
  · unfold ent at h1
    split at h1
    · cases h1; exact made_of G X a2 l2 c2 k2 fun _ _ _ _ _ _ us hl => match us, hl with | [_], _ => rfl
    · cases h1; exact made_of G X a3 l3 c3 k3 fun _ _ _ _ _ _ us hl => match us, hl with | [_], _ => rfl
    · cases h1; exact made_of G X a21 l21 c21 k21 fun _ _ _ _ _ _ us hl => match us, hl with | [_], _ => rfl
    · cases h1; exact made_of G X a22 l22 c22 k22 fun _ _ _ _ _ _ us hl => match us, hl with | [_], _ => rfl
    · cases h1; exact made_of G X a4 l4 c4 k4 fun _ _ _ _ _ _ us hl => match us, hl with | [_], _ => rfl
    · cases h1; exact made_of G X a5 l5 c5 k5 fun _ _ _ _ _ _ us hl => match us, hl with | [_], _ => rfl
    · cases h1; exact made_of G X a6 l6 c6 k6 fun _ _ _ _ _ _ us hl => match us, hl with | [_], _ => rfl
    · cases h1; exact made_of G X a7 l7 c7 k7 fun _ _ _ _ _ _ us hl => match us, hl with | [_], _ => rfl
    · cases h1; exact made_of G X a1000 l1000 c1000 k1000 fun _ _ _ _ _ _ us hl => match us, hl with | [_, _], _ => rfl
    · cases h1; exact made_of G X a1001 l1001 c1001 k1001 fun _ _ _ _ _ _ us hl => match us, hl with | [_, _], _ => rfl
    · cases h1; exact made_of G X a1002 l1002 c1002 k1002 fun _ _ _ _ _ _ us hl => match us, hl with | [_, _], _ => rfl
    · cases h1; exact made_of G X a1003 l1003 c1003 k1003 fun _ _ _ _ _ _ us hl => match us, hl with | [_, _], _ => rfl
    · cases h1; exact made_of G X a1004 l1004 c1004 k1004 fun _ _ _ _ _ _ us hl => match us, hl with | [_, _], _ => rfl
    · cases h1; exact made_of G X a5000 l5000 c5000 k5000 fun _ _ _ _ _ _ us hl => match us, hl with | [_, _], _ => rfl
    · cases h1; exact made_of G X a5001 l5001 c5001 k5001 fun _ _ _ _ _ _ us hl => match us, hl with | [_], _ => rfl
    · cases h1
  · exact List.forall_mem_cons.mpr ⟨PySem.W.mg_none_of X G b_len, List.forall_mem_cons.mpr ⟨PySem.W.mg_none_of X G b_abs, List.forall_mem_cons.mpr ⟨PySem.W.mg_none_of X G b_min, List.forall_mem_cons.mpr ⟨PySem.W.mg_none_of X G b_max, List.forall_mem_cons.mpr ⟨PySem.W.mg_none_of X G b_sum, List.forall_mem_cons.mpr ⟨PySem.W.mg_none_of X G b_repr, List.forall_mem_cons.mpr ⟨PySem.W.mg_none_of X G b_all, List.forall_mem_cons.mpr ⟨PySem.W.mg_none_of X G b_int, List.forall_mem_cons.mpr ⟨PySem.W.mg_none_of X G b_tuple, List.forall_mem_cons.mpr ⟨PySem.W.mg_none_of X G b_list, List.forall_mem_cons.mpr ⟨PySem.W.mg_none_of X G b_isinstance, List.forall_mem_cons.mpr ⟨PySem.W.mg_none_of X G b_str, List.forall_mem_cons.mpr ⟨PySem.W.mg_none_of X G b_bool, List.forall_mem_cons.mpr ⟨PySem.W.mg_none_of X G b_dict, List.forall_mem_cons.mpr ⟨PySem.W.mg_none_of X G b_range, List.forall_mem_cons.mpr ⟨PySem.W.mg_none_of X G b_enumerate, List.forall_mem_cons.mpr ⟨PySem.W.mg_none_of X G b_zip, fun _ h => absurd h (List.not_mem_nil)⟩⟩⟩⟩⟩⟩⟩⟩⟩⟩⟩⟩⟩⟩⟩⟩⟩
  · revert h1
    have key : ∀ l : List (Str × U), (∀ p ∈ l, ∃ v w, mg p.1 = some w ∧ L2.RelV v w ∧ ∀ H m, RU K H m p.2 v) → l.lookup x = some u → ∃ v w, mg x = some w ∧ L2.RelV v w ∧ ∀ H m, RU K H m u v := by
      intro l hl e
      exact hl (x, u) (lookup_memU e)
    exact key _ (List.forall_mem_cons.mpr ⟨⟨.int 20000, _, PySem.W.mg_of X G v_MOST_TEXT, ⟨_, rfl⟩, fun _ _ => RU.int.mpr rfl⟩, List.forall_mem_cons.mpr ⟨⟨.int 200, _, PySem.W.mg_of X G v_MOST_PRESSES, ⟨_, rfl⟩, fun _ _ => RU.int.mpr rfl⟩, List.forall_mem_cons.mpr ⟨⟨.str "abcdefghijklmnopqrstuvwxyz", _, PySem.W.mg_of X G v_LETTERS, ⟨_, rfl⟩, fun _ _ => RU.str.mpr rfl⟩, fun _ h => absurd h (List.not_mem_nil)⟩⟩⟩)
end Mp.K02
set_option linter.all false
set_option maxRecDepth 100000
set_option maxHeartbeats 2000000
namespace Mp.K02
open Mp
/-- another name for each letter -/
def ren (d : Int) (c : Nat) : Nat := 97 + (25 - ((c : Int) - 97 + d) % 26).toNat
theorem ren_ok {d : Int} {c : Nat} (hc : 97 ≤ c ∧ c ≤ 122) : 97 ≤ ren d c ∧ ren d c ≤ 122 := by
  unfold ren
  have h1 := Int.emod_nonneg ((c : Int) - 97 + d) (show (26 : Int) ≠ 0 by decide)
  have h2 := Int.emod_lt_of_pos ((c : Int) - 97 + d) (show (0 : Int) < 26 by decide)
  omega
theorem ren_inj {d : Int} (x y : Nat) (hx : 97 ≤ x ∧ x ≤ 122) (hy : 97 ≤ y ∧ y ≤ 122) (e : ren d x = ren d y) : x = y := by
  unfold ren at e
  have h1 := Int.emod_nonneg ((x : Int) - 97 + d) (show (26 : Int) ≠ 0 by decide)
  have h2 := Int.emod_lt_of_pos ((x : Int) - 97 + d) (show (0 : Int) < 26 by decide)
  have h3 := Int.emod_nonneg ((y : Int) - 97 + d) (show (26 : Int) ≠ 0 by decide)
  have h4 := Int.emod_lt_of_pos ((y : Int) - 97 + d) (show (0 : Int) < 26 by decide)
  have h5 : ((x : Int) - 97 + d) % 26 = ((y : Int) - 97 + d) % 26 := by omega
  omega
theorem abc_get {i : Int} (h0 : 0 ≤ i) (h1 : i < 26) (h : Hm) : pIx [.str [97, 98, 99, 100, 101, 102, 103, 104, 105, 106, 107, 108, 109, 110, 111, 112, 113, 114, 115, 116, 117, 118, 119, 120, 121, 122], .int i] h = .ok (.str [97 + i.toNat]) h := by
  have ha : ∀ d : Fin 26, abc[d.val]? = some (97 + d.val) := by decide
  have ha' := ha ⟨i.toNat, by omega⟩
  simp only at ha'
  have e := pIx_s abc h i.toNat (c := 97 + i.toNat) (by decide) ha'
  rwa [Int.toNat_of_nonneg h0] at e
theorem index_abc {c : Nat} (hc : 97 ≤ c ∧ c ≤ 122) (h : Hm) : pIndex [.str [97, 98, 99, 100, 101, 102, 103, 104, 105, 106, 107, 108, 109, 110, 111, 112, 113, 114, 115, 116, 117, 118, 119, 120, 121, 122], .str [c]] h = .ok (.int ((c : Int) - 97)) h := by
  have e := find_abc hc
  have h0 : (0 : Int) ≤ (c : Int) - 97 := by omega
  unfold pIndex
  simp only [e]
  rw [gd_b]
  simp
  omega
theorem ren_get {d : Int} (c : Nat) (h : Hm) : pIx [.str [97, 98, 99, 100, 101, 102, 103, 104, 105, 106, 107, 108, 109, 110, 111, 112, 113, 114, 115, 116, 117, 118, 119, 120, 121, 122], .int (25 - ((c : Int) - 97 + d) % 26)] h = .ok (.str [ren d c]) h := by
  have h1 := Int.emod_nonneg ((c : Int) - 97 + d) (show (26 : Int) ≠ 0 by decide)
  have h2 := Int.emod_lt_of_pos ((c : Int) - 97 + d) (show (0 : Int) < 26 by decide)
  exact abc_get (by omega) (by omega) h
theorem sum_ones : ∀ v : List Nat, (v.map fun _ => 1).sum = v.length
  | [] => rfl
  | c :: v => by rw [List.map_cons, List.sum_cons, sum_ones v, List.length_cons]; omega
theorem joinL_ones : ∀ (v : List Nat), joinL [] (v.map fun c => [c]) = v
  | [] => rfl
  | [c] => rfl
  | c :: d :: v => by
    have ih := joinL_ones (d :: v)
    simp only [List.map_cons] at ih ⊢
    rw [joinL, ih]
    rfl
theorem allStr_map (v : List (List Nat)) : allStr (v.map .str) = some v := by
  induction v with
  | nil => rfl
  | cons a r ih => simp [allStr, ih]
theorem abs_lt {z : Int} {v : List Nat} (h0 : 0 ≤ z) (h : z < 2 ^ v.length) (hl : v.length ≤ 200) : z.natAbs < 2 ^ 250 := by
  have h1 : z.natAbs < 2 ^ v.length := by
    have : ((z.natAbs : Nat) : Int) < ((2 ^ v.length : Nat) : Int) := by rw [Int.natAbs_of_nonneg h0, Int.natCast_pow]; exact h
    exact Int.ofNat_lt.mp this
  exact Nat.lt_of_lt_of_le h1 (Nat.pow_le_pow_right (by decide) (by omega))
theorem answer : ∀ ns : List Int, ns.length ≤ 63 → ∃ h', callF tab 10 5001 [.ref 0] [.frz (ns.map .int)] = .ok (.bl true) h' := by
  intro ns hns
  refine ⟨[.frz (ns.map .int)], ?_⟩
  have t2 : tab 2 = some f_odd_place := rfl
  have t3 : tab 3 = some f_need_presses := rfl
  have t4 : tab 4 = some f_lasts_of := rfl
  have t5 : tab 5 = some f_lengths_of := rfl
  have t6 : tab 6 = some f_length := rfl
  have t7 : tab 7 = some f_growths := rfl
  have t21 : tab 21 = some f_need_text := rfl
  have t22 : tab 22 = some f_turned_text := rfl
  have u0 : tab 1000 = some h_mixed := rfl
  have u1 : tab 1001 = some h_stream := rfl
  have u2 : tab 1002 = some h_take := rfl
  have u3 : tab 1003 = some h_signs := rfl
  have u4 : tab 1004 = some h_presses := rfl
  have w0 : tab 5000 = some g_steps_right := rfl
  have hT : tab 5001 = some g_law := rfl
  obtain ⟨h, hh⟩ : ∃ h : Hm, h = [.frz (ns.map .int)] := ⟨_, rfl⟩
  have h0 : h[0]? = some (.frz (ns.map .int)) := by rw [hh]; rfl
  rw [← hh]
  have z1 : 1 ≤ SZ := by decide
  have z2 : 2 ≤ SZ := by decide
  obtain ⟨cs, hcs⟩ : ∃ l : List U, l = (ns.map U.int ++ [U.int 0]).take 9 := ⟨_, rfl⟩
  have ad : pAdd [.ref 0, .ref h.length] (h ++ [.lst [.int 0]]) = .ok (.ref (h.length + 1)) (h ++ [.lst [.int 0], .lst (ns.map U.int ++ [U.int 0])]) := by
    rw [pAdd_r _ _ _ (items_f (ns.map U.int) _ (get_old h0)) (items_l [U.int 0] _ (by simp)) (by simp; exact Nat.le_trans (show ns.length + 1 ≤ 100 by omega) (by decide))]
    simp
  have ct : cutU (h ++ [.lst [.int 0], .lst (ns.map U.int ++ [U.int 0])]) (.ref (h.length + 1)) none (some 9) = .ok (.ref (h.length + 2)) (h ++ [.lst [.int 0], .lst (ns.map U.int ++ [U.int 0]), .lst cs]) := by
    rw [cutU_r _ _ (items_l (ns.map U.int ++ [U.int 0]) _ (by simp))]
    have : cutL (ns.map U.int ++ [U.int 0]) none (some 9) = cs := by rw [hcs]; exact cut_toN _ 9
    simp [this]
  have wk : walked (h ++ [.lst [.int 0], .lst (ns.map U.int ++ [U.int 0]), .lst cs]) (.ref (h.length + 2)) = some (cs, [h.length + 2]) := walked_l _ _ (by simp)
  have cl : ∀ {n : Nat} {y : U}, cs[n]? = some y → ∃ z, y = .int z ∧ n < 9 := fun {n y} e => by
    have hn : n < 9 := by
      have := (List.getElem?_eq_some_iff.mp e).1
      rw [hcs, List.length_take] at this
      omega
    have hy := List.mem_of_getElem? e
    rw [hcs] at hy
    replace hy := List.mem_of_mem_take hy
    rcases List.mem_append.mp hy with hy | hy
    · obtain ⟨z, _, rfl⟩ := List.mem_map.mp hy
      exact ⟨z, rfl, hn⟩
    · exact ⟨0, List.mem_singleton.mp hy, hn⟩
  rw [callF_run hT rfl]
  simp [g_law, z1, ad, ct, wk]
  refine loop_next (I := fun r' h' => ∃ l, h' = h ++ l) ?_ (fun r' h' e => by obtain ⟨l, rfl⟩ := e; simp)
  refine (forL_ix (fun n r' h' => ∃ g : Hm, h' = h ++ ([.lst [.int 0], .lst (ns.map U.int ++ [U.int 0]), .lst cs] ++ g) ∧ ∃ a1 a2 a3 a4 a5 a6 a7 a8 a9 a10 a11, r' = [some (.ref 0), a1, a2, a3, a4, a5, a6, a7, a8, a9, a10, a11])
    ⟨[], by simp, _, _, _, _, _, _, _, _, _, _, _, rfl⟩ (fun n r h' _ ⟨g, i, _⟩ => by subst i; simp) fun n x r h' hx i => ?_).imp fun r ⟨h', e, g, i, _⟩ => ⟨h', e, _, i⟩
  obtain ⟨g0, hg, a1, a2, a3, a4, a5, a6, a7, a8, a9, a10, a11, rfl⟩ := i
  obtain ⟨y, hy, rfl⟩ := enum_at hx
  obtain ⟨cell, rfl, hn⟩ := cl hy
  -- the stream, the presses
  obtain ⟨sa, sm, qa, e1⟩ := stream_ok u0 u1 (j := (n : Int)) (by omega) (by omega) cell 7 h'
  have hsA : (h' ++ [Sob sa 0 sm])[h'.length]? = some (Sob sa 0 sm) := by simp
  obtain ⟨v, sb, cb, hl, lw, qb, qc, qd, e2⟩ := presses_ok u0 u2 u3 u4 hsA qa (by decide) (by decide) 200 (by decide) 5
  rw [set_at0, List.set_cons_zero] at e2
  replace e1 : callF tab 9 1001 [.int cell, .int n] h' = .ok (.ref h'.length) (h' ++ [Sob sa 0 sm]) := e1
  replace e2 : callF tab 9 1004 [.ref h'.length, .int 200] (h' ++ [Sob sa 0 sm]) = .ok (.str v) (h' ++ [Sob sb cb sm]) := e2
  have hv : v.length ≤ SZ := Nat.le_trans hl (by decide)
  have grW : ∀ {w : List Nat}, Lw w → w.length ≤ 200 → ∀ hm, callF tab 9 7 [.str w] hm = .ok (.tup ((grL w).map .int)) hm := fun lw hl hm => growths_ok t2 t3 t4 t5 t7 lw hl 6 hm
  have leW : ∀ {w : List Nat}, Lw w → w.length ≤ 200 → ∀ hm, callF tab 9 6 [.str w] hm = .ok (.int (Lm w)) hm := fun lw hl hm => length_ok t2 t3 t4 t5 t6 lw hl 6 hm
  have tuW : ∀ {w : List Nat}, Lw w → w.length ≤ 200 → ∀ hm, callF tab 9 22 [.str w] hm = .ok (.str w.reverse) hm := fun lw hl hm => turned_text_ok t2 t21 t22 lw (Nat.le_trans hl (by decide)) 6 hm
  have gr := grW lw hl
  have le := leW lw hl
  have st : ∀ hm, callF tab 9 5000 [.str v, .tup ((grL v).map .int)] hm = .ok (.bl true) hm := fun hm => steps_ok w0 hl 8 hm
  have tu := tuW lw hl
  have lr := leW lw.rev (by simpa using hl)
  rw [Lm_rev lw] at lr
  have s1 : ∀ hm, pSum1 [.tup ((grL v).map .int)] hm = .ok (.int (Lm v)) hm := fun hm => by rw [pSum1_u hm _ (l := grL v) (by simp), sum_grL]
  have hb := abs_lt (Lm_nonneg v) (Lm_lt v) hl
  obtain ⟨t, rp⟩ := pRepr_two (h := [.lst [.int (Lm v), .int (Lm v)]]) (p := 0) rfl hb hb
  obtain ⟨two, htwo⟩ : ∃ o : O, o = .lst [.int (Lm v), .int (Lm v)] := ⟨_, rfl⟩
  rw [← htwo] at rp
  have r1 : pRepr [.ref (h'.length + 1)] (h' ++ [Sob sb cb sm, two]) = .ok (.str t) (h' ++ [Sob sb cb sm, two]) := rp _ _ (by simp)
  have r2 : pRepr [.ref (h'.length + 2)] (h' ++ [Sob sb cb sm, two, two]) = .ok (.str t) (h' ++ [Sob sb cb sm, two, two]) := rp _ _ (by simp)
  -- another name for each letter
  have hsB : (h' ++ [Sob sb cb sm, two, two])[h'.length]? = some (Sob sb cb sm) := by simp
  obtain ⟨d, sc, qe, d0, d1, e3⟩ := take_ok u0 u2 hsB qb (by omega) (by omega) (show (0 : Int) < 26 by decide) (by decide) 7
  rw [set_at0, List.set_cons_zero] at e3
  replace e3 : callF tab 9 1002 [.ref h'.length, .int 26] (h' ++ [Sob sb cb sm, two, two]) = .ok (.int d) (h' ++ [Sob sc (cb + 1) sm, two, two]) := e3
  have rw_ : Lw (v.map (ren d)) := fun c hc => by
    obtain ⟨x, hx, rfl⟩ := List.mem_map.mp hc
    exact ren_ok (lw x hx)
  have rl_ : (v.map (ren d)).length ≤ 200 := by simpa using hl
  have gr2 := grW rw_ rl_
  have le2 := leW rw_ rl_
  rw [grL_map (P := fun x => 97 ≤ x ∧ x ≤ 122) (fun x y hx hy e => ren_inj x y hx hy e) lw] at gr2
  rw [Lm_map (P := fun x => 97 ≤ x ∧ x ≤ 122) (fun x y hx hy e => ren_inj x y hx hy e) lw] at le2
  obtain ⟨oth, hoth⟩ : ∃ o : O, o = .lst (v.map fun c => U.str [ren d c]) := ⟨_, rfl⟩
  -- parted
  have hsC : (h' ++ [Sob sc (cb + 1) sm, two, two, oth])[h'.length]? = some (Sob sc (cb + 1) sm) := by simp
  obtain ⟨atI, sd, qf, f0, f1, e4⟩ := take_ok u0 u2 hsC qe (by omega) (by omega) (show (0 : Int) < (v.length : Int) + 1 by omega) (by omega) 7
  rw [set_at0, List.set_cons_zero] at e4
  replace e4 : callF tab 9 1002 [.ref h'.length, .int ((v.length : Int) + 1)] (h' ++ [Sob sc (cb + 1) sm, two, two, oth]) = .ok (.int atI) (h' ++ [Sob sd (cb + 1 + 1) sm, two, two, oth]) := e4
  obtain ⟨p, rfl⟩ := Int.eq_ofNat_of_zero_le f0
  have hp : p ≤ v.length := by omega
  have gr3 := grW (lw.take p) (by simp; omega)
  have le3 := leW (lw.take p) (by simp; omega)
  have tu4 := tuW (lw.drop p) (by simp; omega)
  have gr4 := grW (lw.drop p).rev (by simp; omega)
  have le4 := leW (lw.drop p) (by simp; omega)
  have s3 : ∀ hm, pSum1 [.tup (((grL v).map .int).take p)] hm = .ok (.int (Lm (v.take p))) hm := fun hm => by rw [pSum1_u hm _ (l := (grL v).take p) (by simp), sum_take v hp]
  have s4 : ∀ hm, pSum1 [.tup ((grL (v.drop p).reverse).map .int)] hm = .ok (.int (Lm (v.drop p))) hm := fun hm => by rw [pSum1_u hm _ (l := grL (v.drop p).reverse) (by simp), sum_grL, Lm_rev (lw.drop p)]
  have n1 : ∀ hm, pNe [.tup ((grL v).map .int), .tup ((grL v).map .int)] hm = .ok (.bl false) hm := fun hm => by
    show (match eqU hm _ _ with | some b => R.ok (U.bl (!b)) hm | none => .bad) = _
    rw [eqU_ints]; simp
  have n2 : ∀ hm, pNe [.tup ((grL (v.take p)).map .int), .tup (((grL v).map .int).take p)] hm = .ok (.bl false) hm := fun hm => by
    show (match eqU hm _ _ with | some b => R.ok (U.bl (!b)) hm | none => .bad) = _
    rw [← List.map_take, ← grL_cut, eqU_ints]; simp
  -- first test
  simp [e1, e2, gr, le, z2, st, s1, tu, lr, ← htwo, r1, r2, e3]
  rw [comp_use (h' ++ [Sob sc (cb + 1) sm, two, two]) (fun u => match u with | .str [c] => .str [ren d c] | _ => .non) (by simp) (by simp) (fun x hx acc => ?_) (fun acc => rfl) (by simpa using hv)]
  · have jn : pJoin [.str [], .ref (h'.length + 3)] (h' ++ [Sob sc (cb + 1) sm, two, two, oth]) = .ok (.str (v.map (ren d))) (h' ++ [Sob sc (cb + 1) sm, two, two, oth]) := by
      have it : items (h' ++ [Sob sc (cb + 1) sm, two, two, oth]) (.ref (h'.length + 3)) = some ((v.map fun c => [ren d c]).map .str) := items_l _ _ (by simp [hoth])
      unfold pJoin
      simp only [it, allStr_map]
      have e : joinL [] (v.map fun c => [ren d c]) = v.map (ren d) := by
        have := joinL_ones (v.map (ren d))
        rwa [List.map_map] at this
      rw [e, gd_pos]
      have : ((v.map fun c => [ren d c]).map List.length).sum = v.length := by
        rw [List.map_map]
        have : (List.length ∘ fun c => [ren d c]) = fun _ => 1 := rfl
        rw [this, sum_ones]
      rw [this]
      simpa using hv
    have ho : (h' ++ [Sob sc (cb + 1) sm, two, two] ++ [O.lst ((v.map fun c => U.str [c]).map fun u => match u with | .str [c] => .str [ren d c] | _ => .non)]) = h' ++ [Sob sc (cb + 1) sm, two, two, oth] := by
      rw [hoth]
      simp [Function.comp_def]
    rw [ho]
    simp [jn, gr2, n1, le2, hv, e4, gr3, le3, n2, s3, tu4, gr4, s4, le4]
    exact ⟨_, _, ⟨rfl, rfl⟩, ⟨g0 ++ [Sob sd (cb + 1 + 1) sm, two, two, oth], by rw [hg]; simp⟩, _, _, _, _, _, _, _, _, _, _, _, rfl⟩
  · obtain ⟨c, hc, rfl⟩ := List.mem_map.mp hx
    simp [wipe, index_abc (lw c hc), pMod_i, ren_get]
end Mp.K02

open PySem PySem.W PyProof.Rows
set_option maxRecDepth 100000 in
set_option maxHeartbeats 0 in
theorem PySem.Challenge.cw_mirrorpress_k02_whole_length_from_behind_holds : PySem.Challenge.rw_mirrorpress_k02_whole_length_from_behind.Holds := by
  w_on; o_law; k_head; (case hw => w_witness2)
  k_fill
  refine Mp.walk_end (l := PySem.Challenge.rw_mirrorpress_k02_whole_length_from_behind) (k := 10) (i := 5001) (e0 := Mp.K02.e5001) (d0 := Mp.K02.g_law) (x := "_law_script") rfl rfl ⟨rfl, by decide, by decide⟩ (fun w h Y => PySem.W.kIn_of Y) Mp.K02.txt rfl rfl rfl rfl rfl ?F Mp.K02.answer
  case F =>
    intro w mg h KX G
    refine' Mp.K02.top_of KX G ?a2 ?l2 ?c2 ?k2 ?a3 ?l3 ?c3 ?k3 ?a21 ?l21 ?c21 ?k21 ?a22 ?l22 ?c22 ?k22 ?a4 ?l4 ?c4 ?k4 ?a5 ?l5 ?c5 ?k5 ?a6 ?l6 ?c6 ?k6 ?a7 ?l7 ?c7 ?k7 ?a1000 ?l1000 ?c1000 ?k1000 ?a1001 ?l1001 ?c1001 ?k1001 ?a1002 ?l1002 ?c1002 ?k1002 ?a1003 ?l1003 ?c1003 ?k1003 ?a1004 ?l1004 ?c1004 ?k1004 ?a5000 ?l5000 ?c5000 ?k5000 ?a5001 ?l5001 ?c5001 ?k5001 ?b_len ?b_abs ?b_min ?b_max ?b_sum ?b_repr ?b_all ?b_int ?b_tuple ?b_list ?b_isinstance ?b_str ?b_bool ?b_dict ?b_range ?b_enumerate ?b_zip ?v_MOST_TEXT ?v_MOST_PRESSES ?v_LETTERS
    (case a2 => k_is)
    (case l2 => k_is)
    (case c2 => k_is)
    (case k2 => k_is)
    (case a3 => k_is)
    (case l3 => k_is)
    (case c3 => k_is)
    (case k3 => k_is)
    (case a21 => k_is)
    (case l21 => k_is)
    (case c21 => k_is)
    (case k21 => k_is)
    (case a22 => k_is)
    (case l22 => k_is)
    (case c22 => k_is)
    (case k22 => k_is)
    (case a4 => k_is)
    (case l4 => k_is)
    (case c4 => k_is)
    (case k4 => k_is)
    (case a5 => k_is)
    (case l5 => k_is)
    (case c5 => k_is)
    (case k5 => k_is)
    (case a6 => k_is)
    (case l6 => k_is)
    (case c6 => k_is)
    (case k6 => k_is)
    (case a7 => k_is)
    (case l7 => k_is)
    (case c7 => k_is)
    (case k7 => k_is)
    (case a1000 => k_is)
    (case l1000 => k_is)
    (case c1000 => k_is)
    (case k1000 => k_is)
    (case a1001 => k_is)
    (case l1001 => k_is)
    (case c1001 => k_is)
    (case k1001 => k_is)
    (case a1002 => k_is)
    (case l1002 => k_is)
    (case c1002 => k_is)
    (case k1002 => k_is)
    (case a1003 => k_is)
    (case l1003 => k_is)
    (case c1003 => k_is)
    (case k1003 => k_is)
    (case a1004 => k_is)
    (case l1004 => k_is)
    (case c1004 => k_is)
    (case k1004 => k_is)
    (case a5000 => k_is)
    (case l5000 => k_is)
    (case c5000 => k_is)
    (case k5000 => k_is)
    (case a5001 => k_is)
    (case l5001 => k_is)
    (case c5001 => k_is)
    (case k5001 => k_is)
    (case b_len => k_is)
    (case b_abs => k_is)
    (case b_min => k_is)
    (case b_max => k_is)
    (case b_sum => k_is)
    (case b_repr => k_is)
    (case b_all => k_is)
    (case b_int => k_is)
    (case b_tuple => k_is)
    (case b_list => k_is)
    (case b_isinstance => k_is)
    (case b_str => k_is)
    (case b_bool => k_is)
    (case b_dict => k_is)
    (case b_range => k_is)
    (case b_enumerate => k_is)
    (case b_zip => k_is)
    (case v_MOST_TEXT => k_is)
    (case v_MOST_PRESSES => k_is)
    (case v_LETTERS => k_is)
