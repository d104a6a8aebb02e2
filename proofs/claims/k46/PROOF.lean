import PyProof.Rows.All
import Wide.All
import OpenK.AllK
import Wide.FinOn
import HandS.ForMost
import HandS.TupAny
import HandS.TupMul
import HandS.Wide
import HandS.Deep
import HandS.Style
import KE.KDictKeyed
import PySem.Str
import HandS.Star
import KE.KDictWalk
import HandS.IsInst
import HandS.Conv
import HandS.SortInts
import HandS.More
import KE.DataMinMax
import HandS.Zip
import HandS.DictComp
import HandS.MakeKwOnly
import HandS.Defaults
import KE.KEqNest
import HandS.OwnEq
import KE.KDictPairs
import KE.KDictCopyH
import HandS.Head0
import HandS.Head1
import HandS.Head2
import HandS.HeadEnd
import HandS.HeadHook1
import HandS.HeadHook2
import HandS.HeadHook3
import HandS.HeadHook4
import KE.KStateDown
import PySem.Challenge.RW_readhalves_k46_known_equal
set_option autoImplicit false
set_option linter.all false
/-! VI: a small language over values in which tuples stand inline and all that changes stands on a heap of its own; what a term of it does, as a plain function. -/
namespace VI
open PySem (Str)

/-- a value: a tuple stands inline, all else that has an identity by its place on the heap; an error that is at hand by its class and what it bears -/
inductive PV where
  | non | bl (b : Bool) | int (i : Int) | str (s : Str) | tup (xs : List PV) | ref (n : Nat) | err (c : Nat) (p : PV)

/-! ### equality of values as they stand -/
mutual
def PV.beq : PV → PV → Bool
  | .non, .non => true
  | .bl a, .bl b => a == b
  | .int a, .int b => decide (a = b)
  | .str a, .str b => decide (a = b)
  | .tup a, .tup b => PV.beqs a b
  | .ref a, .ref b => Nat.beq a b
  | .err a p, .err b q => Nat.beq a b && PV.beq p q
  | _, _ => false
def PV.beqs : List PV → List PV → Bool
  | [], [] => true
  | a :: as, b :: bs => PV.beq a b && PV.beqs as bs
  | _, _ => false
end

/-- what stands on the heap: a list, a dict (lk: it is walked just now), an instance of a class, a function made on the way with what it caught -/
inductive VO where
  | lst (xs : List PV) (lk : Bool) | dct (kvs : List (PV × PV)) (lk : Bool) | ins (c : Nat) (fs : List (Str × PV)) | lam (k : Nat) (cap : List PV)

abbrev VH := List VO
abbrev Rho := List (Option PV)

inductive Res (α : Type) where
  | ok (a : α) (h : VH) | ex (c : Nat) (p : PV) (h : VH) | no

def Res.bind {α β : Type} (r : Res α) (f : α → VH → Res β) : Res β := match r with
  | .ok a h => f a h
  | .ex c p h => .ex c p h
  | .no => .no
/-- what a statement comes to -/
inductive SR where
  | nx (r : Rho) (h : VH) | rt (v : PV) (h : VH) | ct (r : Rho) (h : VH) | ex (c : Nat) (p : PV) (r : Rho) (h : VH) | no

abbrev EX := Rho → VH → Res PV
abbrev TX := Rho → VH → Res Bool
abbrev AX := Rho → VH → Res (List PV)
abbrev SX := Rho → VH → SR
/-- what is walked: the items, what is locked meanwhile -/
abbrev IX := Rho → VH → Res (List PV × List Nat)
abbrev GX := PV → Rho → VH → Res Rho

/-! ### limits -/
def sizeMax : Nat := 16777216

/-! ### dicts -/
mutual
/-- the keys of dicts: None, whole numbers, texts, tuples of such -/
def PV.keyOk : PV → Bool
  | .non => true
  | .int _ => true
  | .str _ => true
  | .tup xs => PV.keysOk xs
  | _ => false
def PV.keysOk : List PV → Bool
  | [] => true
  | x :: xs => PV.keyOk x && PV.keysOk xs
end
mutual
def PV.deep : PV → Nat
  | .tup xs => PV.deeps xs + 1
  | _ => 0
def PV.deeps : List PV → Nat
  | [] => 0
  | x :: xs => max (PV.deep x) (PV.deeps xs)
end
def PV.isTup : PV → Bool
  | .tup _ => true
  | _ => false
/-- may stand beside the keys of a dict: all are tuples, or none is -/
def keyFit (kvs : List (PV × PV)) (k : PV) : Bool := PV.keyOk k && (Nat.ble (PV.deep k) 8 && (match kvs with
  | [] => true
  | (k', _) :: _ => PV.isTup k' == PV.isTup k))

def look (k : PV) : List (PV × PV) → Option PV
  | [] => none
  | (k', v) :: r => if PV.beq k' k then some v else look k r
def put (k v : PV) : List (PV × PV) → List (PV × PV)
  | [] => [(k, v)]
  | (k', v') :: r => if PV.beq k' k then (k', v) :: r else (k', v') :: put k v r
def drp (k : PV) : List (PV × PV) → List (PV × PV)
  | [] => []
  | (k', v') :: r => if PV.beq k' k then r else (k', v') :: drp k r

/-! ### attributes -/
def fget (f : Str) : List (Str × PV) → Option PV
  | [] => none
  | (g, v) :: r => if g = f then some v else fget f r
def fput (f : Str) (v : PV) : List (Str × PV) → List (Str × PV)
  | [] => [(f, v)]
  | (g, w) :: r => if g = f then (g, v) :: r else (g, w) :: fput f v r

/-! ### what stands where -/
def seqOf (h : VH) : PV → Option (List PV)
  | .tup xs => some xs
  | .ref n => (match h[n]? with
    | some (.lst xs _) => some xs
    | _ => none)
  | _ => none
def newL (xs : List PV) (h : VH) : Res PV := if Nat.ble xs.length sizeMax then .ok (.ref h.length) (h ++ [.lst xs false]) else .no
def newT (xs : List PV) (h : VH) : Res PV := if Nat.ble xs.length sizeMax then .ok (.tup xs) h else .no
def putAll : List (PV × PV) → List (PV × PV) → Option (List (PV × PV))
  | kvs, [] => some kvs
  | kvs, (k, v) :: r => if keyFit kvs k && Nat.ble (kvs.length + 1) sizeMax then putAll (put k v kvs) r else none
def newD (kvs : List (PV × PV)) (h : VH) : Res PV := .ok (.ref h.length) (h ++ [.dct kvs false])

/-! ### == of data: None, boolsOf, intsOf, texts, tuples, lists -/
inductive PD where
  | non | bl (b : Bool) | int (i : Int) | str (s : Str) | tup (xs : List PD) | lst (xs : List PD)
mutual
def deq : PD → PD → Bool
  | .non, .non => true
  | .bl a, .bl b => a == b
  | .bl a, .int j => (if a then (1 : Int) else 0) == j
  | .int i, .bl b => i == (if b then (1 : Int) else 0)
  | .int i, .int j => i == j
  | .str x, .str y => x == y
  | .lst xs, .lst ys => deqs xs ys
  | .tup xs, .tup ys => deqs xs ys
  | _, _ => false
def deqs : List PD → List PD → Bool
  | [], [] => true
  | x :: xs, y :: ys => deq x y && deqs xs ys
  | _, _ => false
end
def mapO {α β : Type} (f : α → Option β) : List α → Option (List β)
  | [] => some []
  | x :: xs => (match f x with
    | some y => (match mapO f xs with
      | some ys => some (y :: ys)
      | none => none)
    | none => none)
def strFine (s : Str) : Bool := s.cps.all (· < 0x110000)
/-- data out of a value: n levels of lists and tuples at most -/
def toD : Nat → VH → PV → Option PD
  | _, _, .non => some .non
  | _, _, .bl b => some (.bl b)
  | _, _, .int i => some (.int i)
  | _, _, .str s => if strFine s then some (.str s) else none
  | 0, _, _ => none
  | n + 1, h, .tup xs => (mapO (fun x => toD n h x) xs).map .tup
  | n + 1, h, .ref a => (match h[a]? with
    | some (.lst xs _) => (mapO (fun x => toD n h x) xs).map .lst
    | _ => none)
  | _, _, _ => none

/-! ### operators -/
inductive BO where
  | add | sub | mul | mod | fdiv | pow
inductive CO where
  | eq | ne | lt | le | gt | ge | isv | nisv | inn | nin

def vAdd (h : VH) : PV → PV → Res PV
  | .int i, .int j => .ok (.int (i + j)) h
  | .str a, .str b => if Nat.ble (a.cps.size + b.cps.size) sizeMax then .ok (.str ⟨a.cps ++ b.cps⟩) h else .no
  | .tup a, .tup b => newT (a ++ b) h
  | .ref m, .ref n => (match h[m]?, h[n]? with
    | some (.lst a false), some (.lst b false) => newL (a ++ b) h
    | _, _ => .no)
  | _, _ => .no
def two64 : Int := 18446744073709551616
def isSmall (i : Int) : Bool := decide (-two64 < i) && decide (i < two64)
def vBin (o : BO) (h : VH) (a b : PV) : Res PV := match o with
  | .add => vAdd h a b
  | .sub => (match a, b with
    | .int i, .int j => .ok (.int (i - j)) h
    | _, _ => .no)
  | .mul => (match a, b with
    | .int i, .int j => if isSmall i || isSmall j then .ok (.int (i * j)) h else .no
    | .ref n, .int j => (match h[n]? with
      | some (.lst xs false) => if decide (0 ≤ j) && Nat.ble (xs.length * j.toNat) sizeMax && decide (j < 1000000) then newL (List.replicate j.toNat xs).flatten h else .no
      | _ => .no)
    | .tup xs, .int j => if decide (0 ≤ j) && Nat.ble (xs.length * j.toNat) sizeMax && decide (j < 1000000) && (decide (j ≤ 1000) && Nat.ble xs.length 1000) then newT (List.replicate j.toNat xs).flatten h else .no
    | _, _ => .no)
  | .mod => (match a, b with
    | .int i, .int j => if decide (0 < j) then .ok (.int (i % j)) h else .no
    | _, _ => .no)
  | .fdiv => (match a, b with
    | .int i, .int j => if decide (0 < j) && Nat.ble (j.toNat + 1) (2 ^ 8000) then .ok (.int (i / j)) h else .no
    | _, _ => .no)
  | .pow => (match a, b with
    | .int i, .int j => if decide (0 ≤ j) && decide (j ≤ 1000) && isSmall i then .ok (.int (i ^ j.toNat)) h else .no
    | _, _ => .no)

/-- x o= y -/
def augV : BO → PV → PV → Option PV
  | .add, .int a, .int b => some (.int (a + b))
  | .sub, .int a, .int b => some (.int (a - b))
  | _, _, _ => none
/-- intsOf all -/
def intsOf : List PV → Option (List Int)
  | [] => some []
  | .int i :: r => (intsOf r).map (i :: ·)
  | _ :: _ => none
def boolsOf : List PV → Option (List Bool)
  | [] => some []
  | .bl i :: r => (boolsOf r).map (i :: ·)
  | _ :: _ => none
def lexLt : List Int → List Int → Bool
  | _, [] => false
  | [], _ :: _ => true
  | x :: xs, y :: ys => if x = y then lexLt xs ys else decide (x < y)
/-- things without a heap: compared as they stand, in a list or tuple that is searched -/
def flat : PV → Bool
  | .non => true
  | .bl _ => true
  | .int _ => true
  | .str _ => true
  | _ => false
def vIn (h : VH) (a b : PV) : Res Bool := match b with
  | .ref n => (match h[n]? with
    | some (.lst xs _) => (match toD 60 h a, mapO (fun x => toD 60 h x) xs with
      | some d, some ds => .ok (ds.any fun e => deq e d) h
      | _, _ => .no)
    | some (.dct kvs _) => if keyFit kvs a then .ok (look a kvs).isSome h else .no
    | _ => .no)
  | .tup xs => (match toD 60 h a, mapO (fun x => toD 60 h x) xs with
    | some d, some ds => .ok (ds.any fun e => deq e d) h
    | _, _ => .no)
  | _ => .no
def vCmp (o : CO) (h : VH) (a b : PV) : Res Bool := match o with
  | .eq => (match toD 64 h a, toD 64 h b with
    | some d, some e => .ok (deq d e) h
    | _, _ => .no)
  | .ne => (match toD 64 h a, toD 64 h b with
    | some d, some e => .ok (!deq d e) h
    | _, _ => .no)
  | .lt => (match a, b with
    | .int i, .int j => .ok (decide (i < j)) h
    | .tup xs, .tup ys => (match intsOf xs, intsOf ys with
      | some ns, some ms => .ok (lexLt ns ms) h
      | _, _ => .no)
    | _, _ => .no)
  | .le => (match a, b with
    | .int i, .int j => .ok (decide (i ≤ j)) h
    | _, _ => .no)
  | .gt => (match a, b with
    | .int i, .int j => .ok (decide (j < i)) h
    | _, _ => .no)
  | .ge => (match a, b with
    | .int i, .int j => .ok (decide (j ≤ i)) h
    | _, _ => .no)
  | .isv => (match a, b with
    | _, .non => .ok (PV.beq a .non) h
    | .bl x, .bl y => .ok (x == y) h
    | _, _ => .no)
  | .nisv => (match a, b with
    | _, .non => .ok (!PV.beq a .non) h
    | .bl x, .bl y => .ok (!(x == y)) h
    | _, _ => .no)
  | .inn => vIn h a b
  | .nin => (match vIn h a b with
    | .ok r h' => .ok (!r) h'
    | _ => .no)

/-! ### == of what holds dicts -/
/-- item by item, as far as both go -/
def allP (f : PV → PV → Option Bool) : List PV → List PV → Option Bool
  | x :: xs, y :: ys => (match f x y, allP f xs ys with
    | some b, some c => some (b && c)
    | _, _ => none)
  | _, _ => some true
/-- entry by entry -/
def allD (f : PV → PV → Option Bool) (ls : List (PV × PV)) : List (PV × PV) → Option Bool
  | [] => some true
  | q :: ks => (match look q.1 ls, allD f ls ks with
    | none, some _ => some false
    | some u, some c => (match f q.2 u with
      | some b => some (b && c)
      | none => none)
    | _, none => none)
/-- a key of one of the two -/
def headK : List (PV × PV) → List (PV × PV) → PV
  | q :: _, _ => q.1
  | [], q :: _ => q.1
  | [], [] => .tup []
/-- one level of lists, tuples and dicts -/
def eq1 (f : PV → PV → Option Bool) (h : VH) (x y : PV) : Option Bool := match x, y with
  | .tup xs, .tup ys => (match allP f xs ys with
    | some b => some (b && Nat.beq xs.length ys.length)
    | none => none)
  | .ref a, .ref b => (match h[a]?, h[b]? with
    | some (.lst xs false), some (.lst ys false) => if Nat.beq xs.length ys.length then allP f xs ys else some false
    | some (.dct ks false), some (.dct ls false) => if keyFit ks (headK ks ls) && keyFit ls (headK ks ls) then (match allD f ls ks with
      | some b => some (Nat.beq ks.length ls.length && b)
      | none => none) else none
    | _, _ => none)
  | _, _ => none
/-- n levels at most -/
def eqP : Nat → VH → PV → PV → Option Bool
  | 0, _, _, _ => none
  | n + 1, h, x, y => (match x, y with
    | .tup xs, .tup ys => eq1 (fun a b => eqP n h a b) h (.tup xs) (.tup ys)
    | .ref a, .ref b => if Nat.beq a b then some true else eq1 (fun a b => eqP n h a b) h (.ref a) (.ref b)
    | x, y => if flat x && flat y then (match toD 1 h x, toD 1 h y with
      | some d, some e => some (deq d e)
      | _, _ => none) else none)
/-- of lists, tuples, dicts with dicts in them -/
def eqPo (h : VH) (x y : PV) : Res Bool := match x, y with
  | .tup xs, .tup ys => (match eq1 (fun a b => eqP 49 h a b) h (.tup xs) (.tup ys) with
    | some b => .ok b h
    | none => vCmp .eq h (.tup xs) (.tup ys))
  | .ref a, .ref b => (match eq1 (fun a b => eqP 49 h a b) h (.ref a) (.ref b) with
    | some b => .ok b h
    | none => vCmp .eq h (.ref a) (.ref b))
  | x, y => vCmp .eq h x y

/-! ### places and cuts -/
def ixAt (n : Nat) (i : Int) : Option Nat := if 0 ≤ i then (if i < n then some i.toNat else none) else if -(n : Int) ≤ i then some (i + n).toNat else none
def cutAt (n d : Nat) : Option Int → Nat
  | none => d
  | some v => if v < 0 then (v + (n : Int)).toNat else min v.toNat n
def cut {α : Type} (xs : List α) (lo hi : Option Int) : List α := (xs.drop (cutAt xs.length 0 lo)).take (cutAt xs.length xs.length hi - cutAt xs.length 0 lo)
def vSub (h : VH) (a i : PV) : Res PV := match a with
  | .tup xs => (match i with
    | .int j => (match (ixAt xs.length j).bind fun k => xs[k]? with
      | some v => .ok v h
      | none => .no)
    | _ => .no)
  | .ref n => (match h[n]? with
    | some (.lst xs _) => (match i with
      | .int j => (match (ixAt xs.length j).bind fun k => xs[k]? with
        | some v => .ok v h
        | none => .no)
      | _ => .no)
    | some (.dct kvs _) => if keyFit kvs i then (match look i kvs with
      | some v => .ok v h
      | none => .no) else .no
    | _ => .no)
  | _ => .no
def vCut (h : VH) (a : PV) (lo hi : Option Int) : Res PV := match a with
  | .tup xs => .ok (.tup (cut xs lo hi)) h
  | .ref n => (match h[n]? with
    | some (.lst xs _) => newL (cut xs lo hi) h
    | _ => .no)
  | _ => .no
def vRev (h : VH) (a : PV) : Res PV := match a with
  | .ref n => (match h[n]? with
    | some (.lst xs _) => newL xs.reverse h
    | _ => .no)
  | _ => .no
/-- a[i] = v -/
def vSet (h : VH) (a i v : PV) : Option VH := match a with
  | .ref n => (match h[n]? with
    | some (.lst xs false) => (match i with
      | .int j => (match ixAt xs.length j with
        | some k => some (h.set n (.lst (xs.set k v) false))
        | none => none)
      | _ => none)
    | some (.dct kvs false) => if keyFit kvs i && Nat.ble (kvs.length + 1) sizeMax then some (h.set n (.dct (put i v kvs) false)) else none
    | _ => none)
  | _ => none

/-- a dict's new entry -/
def vSetD (h : VH) (n : Nat) (i v : PV) : Option VH := match h[n]? with
  | some (.dct kvs false) => if keyFit kvs i && Nat.ble (kvs.length + 1) sizeMax then some (h.set n (.dct (put i v kvs) false)) else none
  | _ => none

/-! ### kinds, for isinstance -/
inductive TyK where
  | int | bool | str | tuple | list | dict | own (c : Nat)
/-- sub: c is d, or made from it -/
def isK (sub : Nat → Nat → Bool) (h : VH) (v : PV) : TyK → Bool
  | .int => (match v with
    | .int _ => true
    | .bl _ => true
    | _ => false)
  | .bool => (match v with
    | .bl _ => true
    | _ => false)
  | .str => (match v with
    | .str _ => true
    | _ => false)
  | .tuple => (match v with
    | .tup _ => true
    | _ => false)
  | .list => (match v with
    | .ref n => (match h[n]? with
      | some (.lst _ _) => true
      | _ => false)
    | _ => false)
  | .dict => (match v with
    | .ref n => (match h[n]? with
      | some (.dct _ _) => true
      | _ => false)
    | _ => false)
  | .own d => (match v with
    | .ref n => (match h[n]? with
      | some (.ins c _) => sub c d
      | _ => false)
    | .err c _ => sub c d
    | _ => false)

/-- what a value's type is -/
inductive TC where
  | non | bool | int | str | tuple | list | dict | own (c : Nat)
def tcOf (h : VH) : PV → Option TC
  | .non => some .non
  | .bl _ => some .bool
  | .int _ => some .int
  | .str _ => some .str
  | .tup _ => some .tuple
  | .ref n => (match h[n]? with
    | some (.lst _ _) => some .list
    | some (.dct _ _) => some .dict
    | some (.ins c _) => some (.own c)
    | _ => none)
  | _ => none
/-- one of them -/
def anyK (f : TyK → Option Bool) : List TyK → Option Bool
  | [] => some false
  | k :: ks => (match f k with
    | some true => some true
    | some false => anyK f ks
    | none => none)

/-! ### sorting -/
def insB {α : Type} (le : α → α → Bool) (x : α) : List α → List α
  | [] => [x]
  | y :: r => if le x y then x :: y :: r else y :: insB le x r
def sortB {α : Type} (le : α → α → Bool) : List α → List α
  | [] => []
  | x :: r => insB le x (sortB le r)
mutual
/-- of two values alike in form: less, equal or greater -/
def vOrd : PV → PV → Option Ordering
  | .int i, .int j => some (if i < j then .lt else if i = j then .eq else .gt)
  | .tup xs, .tup ys => vOrds xs ys
  | _, _ => none
def vOrds : List PV → List PV → Option Ordering
  | [], [] => some .eq
  | [], _ :: _ => some .lt
  | _ :: _, [] => some .gt
  | x :: xs, y :: ys => (match vOrd x y with
    | some .eq => vOrds xs ys
    | o => o)
end

/-! ### built-in functions -/
inductive B1 where
  | len | max | min | sum | all | any | list | tuple | dict | int | abs | str | sorted
def maxI (i : Int) : List Int → Int
  | [] => i
  | j :: r => maxI (if j > i then j else i) r
def minI (i : Int) : List Int → Int
  | [] => i
  | j :: r => minI (if j < i then j else i) r
/-- no key twice -/
def distK : List (PV × PV) → Bool
  | [] => true
  | q :: r => (look q.1 r).isNone && distK r
/-- may be copied: no tuples as keys, or one entry at most -/
def copyK (kvs : List (PV × PV)) : Bool := Nat.ble kvs.length 1 || kvs.all (fun q => !PV.isTup q.1)
/-- pairs -/
def pairsOf : List PV → Option (List (PV × PV))
  | [] => some []
  | .tup [k, v] :: r => (pairsOf r).map ((k, v) :: ·)
  | _ :: _ => none
def vB1 (b : B1) (h : VH) (v : PV) : Res PV := match b with
  | .len => (match v with
    | .tup xs => .ok (.int xs.length) h
    | .str s => if Nat.ble s.cps.size sizeMax then .ok (.int s.cps.size) h else .no
    | .ref n => (match h[n]? with
      | some (.lst xs _) => .ok (.int xs.length) h
      | some (.dct kvs _) => .ok (.int kvs.length) h
      | _ => .no)
    | _ => .no)
  | .max => (match (seqOf h v).bind intsOf with
    | some (i :: r) => .ok (.int (maxI i r)) h
    | _ => .no)
  | .min => (match (seqOf h v).bind intsOf with
    | some (i :: r) => .ok (.int (minI i r)) h
    | _ => .no)
  | .sum => (match v with
    | .ref n => (match h[n]? with
      | some (.lst xs _) => (match intsOf xs with
        | some ns => .ok (.int ns.sum) h
        | none => .no)
      | _ => .no)
    | _ => .no)
  | .all => (match v with
    | .ref n => (match h[n]? with
      | some (.lst xs _) => (match boolsOf xs with
        | some bs => .ok (.bl (bs.all id)) h
        | none => .no)
      | _ => .no)
    | _ => .no)
  | .any => (match v with
    | .ref n => (match h[n]? with
      | some (.lst xs _) => (match boolsOf xs with
        | some bs => .ok (.bl (bs.any id)) h
        | none => .no)
      | _ => .no)
    | _ => .no)
  | .list => (match v with
    | .tup xs => newL xs h
    | .ref n => (match h[n]? with
      | some (.lst xs _) => newL xs h
      | some (.dct kvs _) => newL (kvs.map Prod.fst) h
      | _ => .no)
    | _ => .no)
  | .tuple => (match v with
    | .tup xs => .ok (.tup xs) h
    | .ref n => (match h[n]? with
      | some (.lst xs _) => .ok (.tup xs) h
      | _ => .no)
    | _ => .no)
  | .int => (match v with
    | .int i => .ok (.int i) h
    | .bl b => .ok (.int (if b then 1 else 0)) h
    | _ => .no)
  | .abs => (match v with
    | .int i => .ok (.int (if i < 0 then -i else i)) h
    | _ => .no)
  | .dict => (match v with
    | .ref n => (match h[n]? with
      | some (.lst xs _) => (match pairsOf xs with
        | some kvs => if distK kvs && kvs.all (fun q => keyFit kvs q.1) then newD kvs h else .no
        | none => .no)
      | some (.dct kvs _) => if copyK kvs then newD kvs h else .no
      | _ => .no)
    | _ => .no)
  | .str => .no
  | .sorted => (match v with
    | .ref n => (match h[n]? with
      | some (.lst xs _) => (match intsOf xs with
        | some ns => newL ((sortB (fun a b => decide (a ≤ b)) ns).map .int) h
        | none => .no)
      | some (.dct kvs _) => (match intsOf (kvs.map Prod.fst) with
        | some ns => if Nat.ble (kvs.length + 1) 64 then newL ((sortB (fun a b => decide (a ≤ b)) ns).map .int) h else .no
        | none => .no)
      | _ => .no)
    | _ => .no)

def two62 : Int := 4611686018427387904
def inRange (i : Int) : Bool := decide (-two62 ≤ i) && decide (i < two62)
/-! ### methods of lists and dicts -/
inductive BM where
  | append | extend | pop | items | values | get | setdefault | clear | index | count | join | split
def kindB (h : VH) : PV → Nat
  | .ref n => (match h[n]? with
    | some (.lst _ _) => 1
    | some (.dct _ _) => 2
    | _ => 0)
  | _ => 0
def vBM (k : Nat) (m : BM) (h : VH) (o : PV) (as : List PV) : Res PV := match o with
  | .ref n => (match h[n]? with
    | some (.lst xs false) => if Nat.beq k 0 then (match m, as with
      | .append, [x] => if Nat.ble (xs.length + 1) sizeMax then .ok .non (h.set n (.lst (xs ++ [x]) false)) else .no
      | .extend, [y] => (match y with
        | .ref m => if Nat.beq m n then .no else (match h[m]? with
          | some (.lst ys false) => if Nat.ble (xs.length + ys.length) sizeMax then .ok .non (h.set n (.lst (xs ++ ys) false)) else .no
          | _ => .no)
        | _ => .no)
      | .clear, [] => .ok .non (h.set n (.lst [] false))
      | .count, [.bl b] => (match boolsOf xs with
        | some bs => .ok (.int (bs.count b : Nat)) h
        | none => .no)
      | .pop, [.int i] => if inRange i then (match ixAt xs.length i with
        | some k => (match xs[k]? with
          | some v => .ok v (h.set n (.lst (xs.eraseIdx k) false))
          | none => .no)
        | none => .no) else .no
      | _, _ => .no) else .no
    | some (.dct kvs lk) => if Nat.beq k 0 then .no else (match m, as with
      | .clear, [] => if lk then .no else .ok .non (h.set n (.dct [] false))
      | .get, [k] => if keyFit kvs k then .ok ((look k kvs).getD .non) h else .no
      | .get, [k, d] => if keyFit kvs k then .ok ((look k kvs).getD d) h else .no
      | .setdefault, [k, d] => if lk then .no else if keyFit kvs k && Nat.ble (kvs.length + 1) sizeMax then (match look k kvs with
        | some v => .ok v h
        | none => .ok d (h.set n (.dct (put k d kvs) false))) else .no
      | _, _ => .no)
    | _ => .no)
  | _ => .no

/-! ### the language -/
inductive I where
  | nil | cons (a r : I) | star (a r : I)
  | var (i : Nat) | lit (v : PV) | con (k : Nat) | tup (es : I) | lst (es : I) | dct (ps : I)
  | bin (o : BO) (a b : I) | neg (a : I) | cmp (o : CO) (a b : I) | chn (o p : CO) (a b c : I)
  | and (a b : I) | or (a b : I) | not (a : I) | ife (t a b : I)
  | att (e : I) (f : Str) | sub (a i : I) | slc (a lo hi : I) | rvs (a : I)
  | call (f : Nat) (as : I) | mk (c : Nat) (as : I) | mkk (c : Nat) (as : I) (kw : I) | mth (m : Str) (o as : I) | bm (m : BM) (o as : I)
  | b1 (b : B1) (a : I) | max2 (a b : I) | min2 (a b : I) | isi (a : I) (ks : List TyK) | gin (neg : Bool) (g : Nat) (a : I) | gget (g : Nat) (a : I) | srtk (a : I)
  | lc (own : List Nat) (t it ifs e : I) | lc2 (own : List Nat) (t it t2 it2 ifs e : I) | dc (own : List Nat) (t it ifs k v : I)
  | lam (k : Nat) (cap : List Nat) | cal (i : Nat) (as : I)
  | eqx (neg : Bool) (a b : I)
  | rng (a b : I) | enm (a : I) | zip (a b : I) | itm (a : I) | vls (a : I)
  | tgt (ts : I)
  | asg (t e : I) | aug (i : Nat) (o : BO) (e : I) | ex (e : I) | ifs (t a b : I) | whl (t b : I) | for (t it b : I) | ret (e : I) | pass | cont
  | par (ts es : I) | rais (c : Nat) (e : I) | tri (b hs : I) | hnd (cs : List Nat) (as : Option Nat) (b : I) | wth (e : I) (i : Nat) (b : I)

/-- what a term leans on: the functions by number, the methods of classes, the constants of the module, its dicts, the classes made from others -/
structure Tb where
  fn : Nat → List PV → VH → Res PV
  /-- a class's __init__; a method by its name -/
  init : Nat → Option Nat
  meth : Nat → Str → Option Nat
  prop : Nat → Str → Option Nat
  /-- how many parameters there are, and the values of the last ones that may be left out -/
  par : Nat → Nat × List PV × Bool
  /-- no class of it has the name -/
  plain : Nat → Str → Bool
  con : Nat → Option PV
  gd : Nat → Option (List (Str × PV))
  kit : TC → TyK → Option Bool

/-- with the values of the parameters that are left out -/
def Tb.fill (T : Tb) (f : Nat) (as : List PV) : Option (List PV) :=
  let (n, ds, ko) := T.par f
  if (if ko then Nat.beq (as.length + ds.length) n else Nat.ble as.length n && Nat.ble n (as.length + ds.length)) then some (as ++ ds.drop (as.length + ds.length - n)) else none
def Tb.run (T : Tb) (f : Nat) (as : List PV) (h : VH) : Res PV := match T.fill f as with
  | some vs => T.fn f vs h
  | none => .no
/-- what an __init__ leaves -/
def made (n : Nat) : Res PV → Res PV
  | .ok .non h' => .ok (.ref n) h'
  | .ex c p h' => .ex c p h'
  | _ => .no
def Tb.make (T : Tb) (c : Nat) (as : List PV) (h : VH) : Res PV := match T.init c with
  | some f => made h.length (T.run f (.ref h.length :: as) (h ++ [.ins c []]))
  | none => .no
/-- the same, the last one by its keyword -/
def Tb.makeK (T : Tb) (c : Nat) (as : List PV) (w : PV) (h : VH) : Res PV := match T.init c with
  | some f => if Nat.beq (as.length + 2) (T.par f).1 then made h.length (T.fn f (.ref h.length :: (as ++ [w])) (h ++ [.ins c []])) else .no
  | none => .no
/-- o's method m -/
def Tb.findM (T : Tb) (m : Str) (o : PV) (h : VH) : Option Nat := match o with
  | .ref n => (match h[n]? with
    | some (.ins c fs) => (match fget m fs with
      | none => T.meth c m
      | some _ => none)
    | _ => none)
  | _ => none
def Tb.meth' (T : Tb) (m : Str) (o : PV) (as : List PV) (h : VH) : Res PV := match T.findM m o h with
  | some f => T.run f (o :: as) h
  | none => .no
def Tb.attr (T : Tb) (e : PV) (f : Str) (h : VH) : Res PV := match e with
  | .ref n => (match h[n]? with
    | some (.ins c fs) => (match fget f fs with
      | some v => if T.plain c f then .ok v h else .no
      | none => (match T.prop c f with
        | some g => T.run g [e] h
        | none => .no))
    | _ => .no)
  | .err _ p => .ok p h
  | _ => .no

/-- len of an own object, by its class's __len__ -/
def vLenO (T : Tb) (h : VH) (p : PV) : Res PV := match T.findM "__len__" p h with
  | some f => (match T.run f [p] h with
    | .ok (.int i) h' => if 0 ≤ i && i < 1000000 then .ok (.int i) h' else .no
    | .ex c q h' => .ex c q h'
    | _ => .no)
  | none => .no
def isIns (h : VH) : PV → Bool
  | .ref n => (match h[n]? with
    | some (.ins _ _) => true
    | _ => false)
  | _ => false
/-- a built-in function of one value -/
def Tb.vB (T : Tb) (b : B1) (h : VH) (x : PV) : Res PV := match b with
  | .len => if isIns h x then vLenO T h x else vB1 .len h x
  | b => vB1 b h x

/-! ### == by an own __eq__ -/
/-- x == y, both of own classes with an own __eq__ -/
def eqOwn (T : Tb) (h : VH) (x y : PV) : Res Bool := match x, y with
  | .ref n, .ref m => (match h[n]?, h[m]? with
    | some (.ins c _), some (.ins c2 _) => (match T.meth c "__eq__", T.meth c2 "__eq__" with
      | some f, some _ => (match T.run f [x, y] h with
        | .ok (.bl b) h' => .ok b h'
        | _ => .no)
      | _, _ => .no)
    | _, _ => .no)
  | _, _ => .no
/-- two tuples of such, item by item -/
def eqItems (T : Tb) : List PV → List PV → VH → Res Bool
  | [], [], h => .ok true h
  | x :: xs, y :: ys, h => if PV.beq x y then .no else (match eqOwn T h x y with
    | .ok true h1 => eqItems T xs ys h1
    | .ok false h1 => if Nat.beq xs.length ys.length then .ok false h1 else .no
    | _ => .no)
  | _, _, _ => .no
/-- == and != of whatever -/
def eqX (T : Tb) (neg : Bool) (h : VH) (x y : PV) : Res Bool := if isIns h x then (match eqOwn T h x y with
    | .ok b h1 => .ok (neg != b) h1
    | _ => .no)
  else if neg then vCmp .ne h x y else (match x, y with
    | .tup (a :: as), .tup ys => if isIns h a then eqItems T (a :: as) ys h else eqPo h (.tup (a :: as)) (.tup ys)
    | x, y => eqPo h x y)

/-! ### loops -/
def lockAt (h : VH) (n : Nat) : VH := match h[n]? with
  | some (.lst xs _) => h.set n (.lst xs true)
  | some (.dct kvs _) => h.set n (.dct kvs true)
  | _ => h
def unlockAt (h : VH) (n : Nat) : VH := match h[n]? with
  | some (.lst xs _) => h.set n (.lst xs false)
  | some (.dct kvs _) => h.set n (.dct kvs false)
  | _ => h
def lockAll (h : VH) (ns : List Nat) : VH := ns.foldl lockAt h
def unlockAll (h : VH) (ns : List Nat) : VH := ns.foldl unlockAt h
/-- what a turn leaves, behind the loop -/
def SR.done (ns : List Nat) : SR → SR
  | .nx r h => .nx r (unlockAll h ns)
  | .rt v h => .rt v (unlockAll h ns)
  | .ct r h => .ct r (unlockAll h ns)
  | .ex c p r h => .ex c p r (unlockAll h ns)
  | .no => .no
def forL (g : GX) (b : SX) : List PV → SX
  | [], r, h => .nx r h
  | x :: xs, r, h => (match g x r h with
    | .ok r' h' => (match b r' h' with
      | .nx r'' h'' => forL g b xs r'' h''
      | .ct r'' h'' => forL g b xs r'' h''
      | o => o)
    | _ => .no)
def whileL (t : TX) (b : SX) : Nat → SX
  | 0, _, _ => .no
  | n + 1, r, h => (match t r h with
    | .ok true h' => (match b r h' with
      | .nx r'' h'' => whileL t b n r'' h''
      | .ct r'' h'' => whileL t b n r'' h''
      | o => o)
    | .ok false h' => .nx r h'
    | .ex c p h' => .ex c p r h'
    | .no => .no)
def fuel : Nat := 1000000000000
/-- a comprehension's turns: every item's values put to the list at D -/
def lcL (D : Nat) (g : GX) (t : TX) (e : EX) (r : Rho) : List PV → VH → Res Unit
  | [], h => .ok () h
  | x :: xs, h => (match g x r h with
    | .ok r' h' => (match t r' h' with
      | .ok true h2 => (match e r' h2 with
        | .ok v h3 => (match h3[D]? with
          | some (.lst acc false) => if Nat.ble (acc.length + 1) sizeMax then lcL D g t e r xs (h3.set D (.lst (acc ++ [v]) false)) else .no
          | _ => .no)
        | .ex _ _ _ => .no
        | .no => .no)
      | .ok false h2 => lcL D g t e r xs h2
      | .ex _ _ _ => .no
      | .no => .no)
    | .ex _ _ _ => .no
    | .no => .no)
def dcL (D : Nat) (g : GX) (t : TX) (ek ev : EX) (r : Rho) : List PV → VH → Res Unit
  | [], h => .ok () h
  | x :: xs, h => (match g x r h with
    | .ok r' h' => (match t r' h' with
      | .ok true h2 => (match ek r' h2 with
        | .ok k h3 => (match ev r' h3 with
          | .ok v h4 => (match vSetD h4 D k v with
            | some h5 => dcL D g t ek ev r xs h5
            | none => .no)
          | .ex _ _ _ => .no
          | .no => .no)
        | .ex _ _ _ => .no
        | .no => .no)
      | .ok false h2 => dcL D g t ek ev r xs h2
      | .ex _ _ _ => .no
      | .no => .no)
    | .ex _ _ _ => .no
    | .no => .no)
def wipe (r : Rho) : List Nat → Rho
  | [] => r
  | i :: is => (wipe r is).set i none
/-- two clauses: the inner items by the outer one's -/
def lc2L (D : Nat) (g : GX) (it2 : IX) (g2 : GX) (t : TX) (e : EX) (r : Rho) : List PV → VH → Res Unit
  | [], h => .ok () h
  | x :: xs, h => (match g x r h with
    | .ok r' h' => (match it2 r' h' with
      | .ok (ys, ls) h2 => (match lcL D g2 t e r' ys (lockAll h2 ls) with
        | .ok _ h3 => lc2L D g it2 g2 t e r xs (unlockAll h3 ls)
        | .ex _ _ _ => .no
        | .no => .no)
      | .ex _ _ _ => .no
      | .no => .no)
    | .ex _ _ _ => .no
    | .no => .no)

/-- what a value gives when it is walked -/
def walkV (h : VH) (v : PV) : Option (List PV × List Nat) := match v with
  | .tup xs => some (xs, [])
  | .ref n => (match h[n]? with
    | some (.lst xs lk) => some (xs, if lk then [] else [n])
    | some (.dct kvs lk) => some (kvs.map Prod.fst, if lk then [] else [n])
    | _ => none)
  | _ => none
def rangeL (a : Int) (n : Nat) : List PV := (List.range n).map fun (k : Nat) => .int (a + (k : Int))
def enumL (i : Nat) : List PV → List PV
  | [] => []
  | x :: xs => .tup [.int i, x] :: enumL (i + 1) xs
def zipL : List PV → List PV → List PV
  | x :: xs, y :: ys => .tup [x, y] :: zipL xs ys
  | _, _ => []

/-- what enumerate walks: a tuple, a list -/
def enmW (h : VH) (v : PV) : Option (List PV × List Nat) := match v with
  | .ref n => (match h[n]? with
    | some (.lst xs lk) => some (xs, if lk then [] else [n])
    | _ => none)
  | _ => none
/-- zip of two tuples, of two lists -/
def zipW (h : VH) (x y : PV) : Option (List PV × List Nat) := match x, y with
  | .tup xs, .tup ys => some (zipL xs ys, [])
  | .ref n, .ref m => (match h[n]?, h[m]? with
    | some (.lst xs k), some (.lst ys l) => some (zipL xs ys, (if k then [] else [n]) ++ (if l || Nat.beq n m then [] else [m]))
    | _, _ => none)
  | _, _ => none

/-! ### what a term does -/
section
variable (T : Tb)
mutual
def dE : I → EX
  | .var i, r, h => (match r[i]? with
    | some (some v) => .ok v h
    | _ => .no)
  | .lit v, _, h => .ok v h
  | .con k, _, h => (match T.con k with
    | some v => .ok v h
    | none => .no)
  | .tup es, r, h => (dA es r h).bind newT
  | .lst es, r, h => (dA es r h).bind newL
  | .dct ps, r, h => (dP ps r (h ++ [.dct [] false])).bind fun kvs h1 => (match h1[h.length]? with
    | some (.dct [] false) => (match putAll [] kvs with
      | some kvs' => .ok (.ref h.length) (h1.set h.length (.dct kvs' false))
      | none => .no)
    | _ => .no)
  | .bin o a b, r, h => (dE a r h).bind fun x h1 => (dE b r h1).bind fun y h2 => vBin o h2 x y
  | .neg a, r, h => (dE a r h).bind fun x h1 => (match x with
    | .int i => .ok (.int (-i)) h1
    | _ => .no)
  | .cmp o a b, r, h => (dE a r h).bind fun x h1 => (dE b r h1).bind fun y h2 => (vCmp o h2 x y).bind fun c h3 => .ok (.bl c) h3
  | .eqx neg a b, r, h => (dE a r h).bind fun x h1 => (dE b r h1).bind fun y h2 => (eqX T neg h2 x y).bind fun c h3 => .ok (.bl c) h3
  | .chn o p a b c, r, h => (dE a r h).bind fun x h1 => (dE b r h1).bind fun y h2 => (vCmp o h2 x y).bind fun k h3 => (match k with
    | false => .ok (.bl false) h3
    | true => (dE c r h3).bind fun z h4 => (vCmp p h4 y z).bind fun d h5 => .ok (.bl d) h5)
  | .and a b, r, h => (dE a r h).bind fun x h1 => (match x with
    | .bl true => dE b r h1
    | .bl false => .ok (.bl false) h1
    | _ => .no)
  | .or a b, r, h => (dE a r h).bind fun x h1 => (match x with
    | .bl true => .ok (.bl true) h1
    | .bl false => dE b r h1
    | _ => .no)
  | .not a, r, h => (dE a r h).bind fun x h1 => (match x with
    | .bl c => .ok (.bl (!c)) h1
    | _ => .no)
  | .ife t a b, r, h => (dT t r h).bind fun c h1 => (match c with
    | true => dE a r h1
    | false => dE b r h1)
  | .att e f, r, h => (dE e r h).bind fun x h1 => T.attr x f h1
  | .sub a i, r, h => (dE a r h).bind fun x h1 => (dE i r h1).bind fun y h2 => (match x with
    | .ref n => (match h2[n]? with
      | some (.ins _ _) => T.meth' "__getitem__" x [y] h2
      | _ => vSub h2 x y)
    | _ => vSub h2 x y)
  | .slc a lo hi, r, h => (dE a r h).bind fun x h1 => (dO lo r h1).bind fun i h2 => (dO hi r h2).bind fun j h3 => vCut h3 x i j
  | .rvs a, r, h => (dE a r h).bind fun x h1 => vRev h1 x
  | .call f as, r, h => (dA as r h).bind fun vs h1 => T.run f vs h1
  | .mk c as, r, h => (dA as r h).bind fun vs h1 => T.make c vs h1
  | .mkk c as kw, r, h => (dA as r h).bind fun vs h1 => (dE kw r h1).bind fun w h2 => T.makeK c vs w h2
  | .mth m o as, r, h => (dE o r h).bind fun x h1 => (match T.findM m x h1 with
    | some f => (dA as r h1).bind fun vs h2 => T.run f (x :: vs) h2
    | none => .no)
  | .bm m o as, r, h => (dE o r h).bind fun x h1 => (match kindB h1 x with
    | 0 => .no
    | k + 1 => (dA as r h1).bind fun vs h2 => vBM k m h2 x vs)
  | .b1 b a, r, h => (dE a r h).bind fun x h1 => T.vB b h1 x
  | .max2 a b, r, h => (dE a r h).bind fun x h1 => (dE b r h1).bind fun y h2 => (match x, y with
    | .int i, .int j => .ok (.int (if j > i then j else i)) h2
    | _, _ => .no)
  | .min2 a b, r, h => (dE a r h).bind fun x h1 => (dE b r h1).bind fun y h2 => (match x, y with
    | .int i, .int j => .ok (.int (if j < i then j else i)) h2
    | _, _ => .no)
  | .isi a ks, r, h => (dE a r h).bind fun x h1 => (match tcOf h1 x with
    | some t => (match anyK (T.kit t) ks with
      | some b => .ok (.bl b) h1
      | none => .no)
    | none => .no)
  | .gin neg g a, r, h => (dE a r h).bind fun x h1 => (match T.gd g, x with
    | some kvs, .str s => .ok (.bl (neg != (kvs.lookup s).isSome)) h1
    | _, _ => .no)
  | .gget g a, r, h => (dE a r h).bind fun x h1 => (match T.gd g, x with
    | some kvs, .str s => (match kvs.lookup s with
      | some v => .ok v h1
      | none => .no)
    | _, _ => .no)
  | .lc own t it ifs e, r, h => (dI it r h).bind fun xl h1 =>
      let h2 := lockAll h1 xl.2
      (lcL h2.length (dG t) (dT ifs) (dE e) (wipe r own) xl.1 (h2 ++ [.lst [] false])).bind fun _ h3 => .ok (.ref h2.length) (unlockAll h3 xl.2)
  | .lc2 own t it t2 it2 ifs e, r, h => (dI it r h).bind fun xl h1 =>
      let h2 := lockAll h1 xl.2
      (lc2L h2.length (dG t) (dI it2) (dG t2) (dT ifs) (dE e) (wipe r own) xl.1 (h2 ++ [.lst [] false])).bind fun _ h3 => .ok (.ref h2.length) (unlockAll h3 xl.2)
  | .dc own t it ifs k v, r, h => (dI it r h).bind fun xl h1 =>
      let h2 := lockAll h1 xl.2
      (dcL h2.length (dG t) (dT ifs) (dE k) (dE v) (wipe r own) xl.1 (h2 ++ [.dct [] false])).bind fun _ h3 => .ok (.ref h2.length) (unlockAll h3 xl.2)
  | _, _, _ => .no
/-- a test -/
def dT : I → TX
  | .nil, _, h => .ok true h
  | .and a b, r, h => (dT a r h).bind fun c h1 => (match c with
    | true => dT b r h1
    | false => .ok false h1)
  | .or a b, r, h => (dT a r h).bind fun c h1 => (match c with
    | true => .ok true h1
    | false => dT b r h1)
  | .not a, r, h => (dT a r h).bind fun c h1 => .ok (!c) h1
  | .cmp o a b, r, h => (dE a r h).bind fun x h1 => (dE b r h1).bind fun y h2 => vCmp o h2 x y
  | .eqx neg a b, r, h => (dE a r h).bind fun x h1 => (dE b r h1).bind fun y h2 => eqX T neg h2 x y
  | .chn o p a b c, r, h => (dE a r h).bind fun x h1 => (dE b r h1).bind fun y h2 => (vCmp o h2 x y).bind fun k h3 => (match k with
    | false => .ok false h3
    | true => (dE c r h3).bind fun z h4 => vCmp p h4 y z)
  | .ex e, r, h => (dE e r h).bind fun x h1 => (match x with
    | .bl c => .ok c h1
    | _ => .no)
  | _, _, _ => .no
/-- arguments -/
def dA : I → AX
  | .nil, _, h => .ok [] h
  | .cons a b, r, h => (dE a r h).bind fun x h1 => (dA b r h1).bind fun xs h2 => .ok (x :: xs) h2
  | .star a b, r, h => (dE a r h).bind fun x h1 => (match seqOf h1 x with
    | some ys => (dA b r h1).bind fun xs h2 => .ok (ys ++ xs) h2
    | none => .no)
  | _, _, _ => .no
/-- the pairs of a display -/
def dP : I → Rho → VH → Res (List (PV × PV))
  | .nil, _, h => .ok [] h
  | .cons k (.cons v ps), r, h => (dE k r h).bind fun x h1 => (dE v r h1).bind fun y h2 => (dP ps r h2).bind fun kvs h3 => .ok ((x, y) :: kvs) h3
  | _, _, _ => .no
/-- an end of a cut -/
def dO : I → Rho → VH → Res (Option Int)
  | .nil, _, h => .ok none h
  | .cons e _, r, h => (dE e r h).bind fun x h1 => (match x with
    | .int i => .ok (some i) h1
    | _ => .no)
  | _, _, _ => .no
/-- what is walked -/
def dI : I → IX
  | .rng a b, r, h => (dE a r h).bind fun x h1 => (dE b r h1).bind fun y h2 => (match x, y with
    | .int i, .int j => if inRange i && inRange j then .ok (rangeL i (j - i).toNat, []) h2 else .no
    | _, _ => .no)
  | .enm a, r, h => (dE a r h).bind fun x h1 => (match enmW h1 x with
    | some (xs, ls) => .ok (enumL 0 xs, ls) h1
    | none => .no)
  | .zip a b, r, h => (dE a r h).bind fun x h1 => (dE b r h1).bind fun y h2 => (match zipW h2 x y with
    | some p => .ok p h2
    | none => .no)
  | .itm a, r, h => (dE a r h).bind fun x h1 => (match x with
    | .ref n => (match h1[n]? with
      | some (.dct kvs lk) => .ok (kvs.map fun kv => .tup [kv.1, kv.2], if lk then [] else [n]) h1
      | _ => .no)
    | _ => .no)
  | .vls a, r, h => (dE a r h).bind fun x h1 => (match x with
    | .ref n => (match h1[n]? with
      | some (.dct kvs lk) => .ok (kvs.map Prod.snd, if lk then [] else [n]) h1
      | _ => .no)
    | _ => .no)
  | .ex e, r, h => (dE e r h).bind fun x h1 => (match walkV h1 x with
    | some p => .ok p h1
    | none => .no)
  | _, _, _ => .no
/-- where a value goes -/
def dG : I → GX
  | .var i, v, r, h => .ok (r.set i (some v)) h
  | .att e f, v, r, h => (dE e r h).bind fun x h1 => (match x with
    | .ref n => (match h1[n]? with
      | some (.ins c fs) => if T.plain c f && Nat.ble (fs.length + 1) 1000 then .ok r (h1.set n (.ins c (fput f v fs))) else .no
      | _ => .no)
    | _ => .no)
  | .sub a i, v, r, h => (dE a r h).bind fun x h1 => (dE i r h1).bind fun y h2 => (match vSet h2 x y v with
    | some h3 => .ok r h3
    | none => .no)
  | .tgt ts, v, r, h => (match v with
    | .tup xs => dGs ts xs r h
    | _ => .no)
  | _, _, _, _ => .no
def dGs : I → List PV → Rho → VH → Res Rho
  | .nil, [], r, h => .ok r h
  | .cons t ts, x :: xs, r, h => (dG t x r h).bind fun r' h' => dGs ts xs r' h'
  | _, _, _, _ => .no
/-- a statement -/
def dS : I → SX
  | .asg t e, r, h => (match dE e r h with
    | .ok v h1 => (match dG t v r h1 with
      | .ok r' h2 => .nx r' h2
      | _ => .no)
    | .ex c p h1 => .ex c p r h1
    | .no => .no)
  | .aug i o e, r, h => (match r[i]? with
    | some (some x) => (match dE e r h with
      | .ok y h1 => (match augV o x y with
        | some v => .nx (r.set i (some v)) h1
        | none => .no)
      | .ex c p h1 => .ex c p r h1
      | .no => .no)
    | _ => .no)
  | .ex e, r, h => (match dE e r h with
    | .ok _ h1 => .nx r h1
    | .ex c p h1 => .ex c p r h1
    | .no => .no)
  | .ifs t a b, r, h => (match dT t r h with
    | .ok true h1 => dSs a r h1
    | .ok false h1 => dSs b r h1
    | .ex c p h1 => .ex c p r h1
    | .no => .no)
  | .whl t b, r, h => whileL (dT t) (dSs b) fuel r h
  | .for t it b, r, h => (match dI it r h with
    | .ok (xs, ls) h1 => (forL (dG t) (dSs b) xs r (lockAll h1 ls)).done ls
    | .ex c p h1 => .ex c p r h1
    | .no => .no)
  | .ret e, r, h => (match dE e r h with
    | .ok v h1 => .rt v h1
    | .ex c p h1 => .ex c p r h1
    | .no => .no)
  | .pass, r, h => .nx r h
  | .cont, r, h => .ct r h
  | .par ts es, r, h => (match dA es r h with
    | .ok vs h1 => (match dGs ts vs r h1 with
      | .ok r' h2 => .nx r' h2
      | _ => .no)
    | .ex c p h1 => .ex c p r h1
    | .no => .no)
  | .rais c e, r, h => (match dE e r h with
    | .ok v h1 => .ex c v r h1
    | .ex c p h1 => .ex c p r h1
    | .no => .no)
  | _, _, _ => .no
def dSs : I → SX
  | .nil, r, h => .nx r h
  | .cons s ss, r, h => (match dS s r h with
    | .nx r' h' => dSs ss r' h'
    | o => o)
  | _, _, _ => .no
end
end

/-- a def: how many names it has, its body -/
structure Fd where
  n : Nat
  body : I
def start (n : Nat) (vs : List PV) : Rho := vs.map some ++ List.replicate (n - vs.length) none
def runB (T : Tb) (d : Fd) (vs : List PV) (h : VH) : Res PV := match dSs T d.body (start d.n vs) h with
  | .rt v h' => .ok v h'
  | .nx _ h' => .ok .non h'
  | .ex c p _ h' => .ex c p h'
  | _ => .no
/-- the functions, k calls deep at most -/
def Tb.at (T : Tb) (B : Nat → Option Fd) : Nat → Tb
  | 0 => { T with fn := fun _ _ _ => .no }
  | k + 1 => { T with fn := fun f vs h => match B f with
    | some d => runB (Tb.at T B k) d vs h
    | none => .no }
end VI
set_option autoImplicit false
set_option linter.all false
set_option Elab.async false
set_option maxRecDepth 100000
set_option maxHeartbeats 2000000
/-! VI over the hand layer: how values and heaps relate. -/
namespace VI
open PySem PySem.Spec PyProof.Rows L2

/-- keys carried by value, but no bools: None, whole numbers, texts -/
def noBool : Value → Bool
  | .bool _ => false
  | _ => true
def pKind (prog : Program) (w : World) : KeyKind prog w Leaf where
  is := fun k v => (leafKind prog w).is k v && noBool v
  hash := (leafKind prog w).hash
  inj := fun v a b ha hb => (leafKind prog w).inj v a b (Bool.and_eq_true_iff.mp ha).1 (Bool.and_eq_true_iff.mp hb).1
  byValue := fun k v h => (leafKind prog w).byValue k v (Bool.and_eq_true_iff.mp h).1
  pyHash := fun hv h => (leafKind prog w).pyHash (Bool.and_eq_true_iff.mp hv).1 h
  eqBool := fun hu hv h => (leafKind prog w).eqBool (Bool.and_eq_true_iff.mp hu).1 (Bool.and_eq_true_iff.mp hv).1 h
  «strs» := fun k x t v h => by
    have q := (leafKind prog w).strs k x t v (Bool.and_eq_true_iff.mp h).1
    rw [q]
    cases v <;> first | exact Bool.and_true _ | rfl

theorem size_max : sizeMax = sizeLine := by rw [sizeLine_eq]; rfl

section
variable (P : Program) (w : World) (K : PySem.W.Frag) (cls : Nat → Addr)
/-! ### values -/
mutual
def RV (ι : List Addr) (H : Hp) : PV → V → Prop
  | .non, v => v = .non
  | .bl b, v => v = .bl b
  | .int i, v => v = .int i
  | .str s, v => v = .str s
  | .tup xs, v => ∃ a vs, v = .ref a ∧ SqT K H a vs ∧ RVs ι H xs vs
  | .ref n, v => ∃ a, ι[n]? = some a ∧ v = .ref a
  | .err _ _, _ => False
def RVs (ι : List Addr) (H : Hp) : List PV → List V → Prop
  | [], vs => vs = []
  | x :: xs, vs => ∃ v r, vs = v :: r ∧ RV ι H x v ∧ RVs ι H xs r
end
/-- attributes -/
def RFs (ι : List Addr) (H : Hp) : List (Str × PV) → List (Str × V) → Prop
  | [], vs => vs = []
  | x :: xs, vs => ∃ v r, vs = (x.1, v) :: r ∧ RV K ι H x.2 v ∧ RFs ι H xs r

/-! ### dicts -/
mutual
def keyN : PV → NestedKey
  | .int i => .num i
  | .str s => .text s
  | .tup xs => .tup (keyNs xs)
  | _ => .none
def keyNs : List PV → List NestedKey
  | [] => []
  | x :: xs => keyN x :: keyNs xs
end
def keyL : PV → Leaf
  | .int i => .num i
  | .str s => .text s
  | _ => .none
/-- the object o is just what stands at a -/
def Is (a : Addr) (o : Obj) : Heap → Prop := fun h => h.get? a = some o
/-- the entries of a dict whose keys are no tuples -/
def RL (ι : List Addr) (H : Hp) : List (PV × PV) → List (Leaf × Value) → Prop
  | [], ls => ls = []
  | x :: xs, ls => ∃ v u r, ls = (keyL x.1, u) :: r ∧ PV.keyOk x.1 = true ∧ PV.isTup x.1 = false ∧ RV K ι H x.2 v ∧ RelV v u ∧ RL ι H xs r
/-- the entries of one whose keys are tuples -/
def RN (ι : List Addr) (H : Hp) : List (PV × PV) → List (NestedKey × Addr × Value) → Prop
  | [], ls => ls = []
  | x :: xs, ls => ∃ a v u r, ls = (keyN x.1, a, u) :: r ∧ PV.keyOk x.1 = true ∧ PV.isTup x.1 = true ∧ PV.deep x.1 ≤ 8 ∧ RV K ι H x.1 (.ref a) ∧ RV K ι H x.2 v ∧ RelV v u ∧ RN ι H xs r
def RD (ι : List Addr) (H : Hp) (a : Addr) (kvs : List (PV × PV)) (o : Obj) : Prop :=
  kvs.length ≤ sizeLine ∧ (a == sysModules) = false ∧
  ((∃ ls, RL K ι H kvs ls ∧ ∀ h : Heap, h.get? a = some o → h.DictOf (pKind P w) a ls) ∨
   (∃ xs es ep, RN K ι H kvs xs ∧ o.ExactDict ∧ o.data = .dict es ep ∧ es.toList = xs.map (entryOfKey (nestedKind P w)) ∧ (xs.map (·.1)).Nodup))
/-! ### objects -/
/-- a list of the written part -/
def KLst (a : Addr) (xs : List V) : Prop := ∃ (o : Obj) (its : Array Value) (n : Nat), K.lookup a = some o ∧ o.cls = .type "list" ∧ o.dict = none ∧ o.data = .seq its n ∧ its.size ≤ sizeLine ∧ Vals xs its.toList
def RO (ι : List Addr) (H : Hp) (a : Addr) : VO → Prop
  | .lst xs false => ∃ vs, H a = some (.lst vs) ∧ RVs K ι H xs vs
  | .lst xs true => ∃ vs, ((∃ od, H a = some (.frz od (.lst vs))) ∨ KLst K a vs) ∧ RVs K ι H xs vs
  | .dct kvs false => ∃ o, H a = some (.ext (Is a o)) ∧ RD P w K ι H a kvs o
  | .dct kvs true => ∃ od o, H a = some (.frz od (.ext (Is a o))) ∧ RD P w K ι H a kvs o
  | .ins c fs => ∃ dx vs, H a = some (.ins (cls c) dx vs) ∧ RFs K ι H fs vs ∧ Cls K (cls c)
  | .lam _ _ => False
/-- it is read off the written part -/
def KC (h : VH) (n : Nat) (a : Addr) : Prop := ∃ xs vs, h[n]? = some (.lst xs true) ∧ KLst K a vs
structure Rep (ι : List Addr) (h : VH) (H : Hp) : Prop where
  len : ι.length = h.length
  nd : ∀ (n m : Nat) (a : Addr), ι[n]? = some a → ι[m]? = some a → n = m ∨ KC K h n a ∨ KC K h m a
  ob : ∀ (n : Nat) (a : Addr) (o : VO), ι[n]? = some a → h[n]? = some o → RO P w K cls ι H a o
end
/-- what stays whatever runs: tuples, what is locked -/
structure Kp (H H' : Hp) : Prop where
  tup : ∀ b xs, H b = some (.tup xs) → H' b = some (.tup xs)
  frz : ∀ b o u, H b = some (.frz o u) → H' b = some (.frz o u)
theorem Kp.refl (H : Hp) : Kp H H := ⟨fun _ _ e => e, fun _ _ _ e => e⟩
theorem Kp.trans {H H1 H2 : Hp} (a : Kp H H1) (b : Kp H1 H2) : Kp H H2 := ⟨fun _ _ e => b.tup _ _ (a.tup _ _ e), fun _ _ _ e => b.frz _ _ _ (a.frz _ _ _ e)⟩
theorem Kp.same {H H' : Hp} (e : Same H H') : Kp H H' := ⟨fun _ _ q => e _ _ q, fun _ _ _ q => e _ _ q⟩
theorem Kp.seqT {K : PySem.W.Frag} {H H' : Hp} (k : Kp H H') {a : Addr} {xs : List V} (h : SqT K H a xs) : SqT K H' a xs := by
  rcases h with (h | ⟨o, h⟩) | h
  · exact .inl (.inl (k.tup _ _ h))
  · exact .inl (.inr ⟨o, k.frz _ _ _ h⟩)
  · exact .inr h
/-- the addresses so far, and more -/
abbrev Le (ι ι' : List Addr) : Prop := ∃ r, ι' = ι ++ r
theorem Le.refl (ι : List Addr) : Le ι ι := ⟨[], by simp⟩
theorem Le.trans {ι ι1 ι2 : List Addr} (a : Le ι ι1) (b : Le ι1 ι2) : Le ι ι2 := by
  obtain ⟨r, rfl⟩ := a
  obtain ⟨s, rfl⟩ := b
  exact ⟨r ++ s, by simp⟩
theorem Le.get {ι ι' : List Addr} (a : Le ι ι') {n : Nat} {x : Addr} (h : ι[n]? = some x) : ι'[n]? = some x := by
  obtain ⟨r, rfl⟩ := a
  rw [List.getElem?_append_left (List.getElem?_eq_some_iff.mp h).1]
  exact h

section
variable {P : Program} {w : World} {K : PySem.W.Frag} {cls : Nat → Addr} {ι ι' : List Addr} {H H' : Hp}
mutual
theorem RV.mono (l : Le ι ι') (k : Kp H H') : ∀ {p : PV} {v : V}, RV K ι H p v → RV K ι' H' p v
  | .non, _, h => h
  | .bl _, _, h => h
  | .int _, _, h => h
  | .str _, _, h => h
  | .tup _, _, ⟨a, vs, e, q, r⟩ => ⟨a, vs, e, k.seqT q, RVs.mono l k r⟩
  | .ref _, _, ⟨a, e, q⟩ => ⟨a, l.get e, q⟩
  | .err _ _, _, h => h.elim
theorem RVs.mono (l : Le ι ι') (k : Kp H H') : ∀ {p : List PV} {v : List V}, RVs K ι H p v → RVs K ι' H' p v
  | [], _, h => h
  | _ :: _, _, ⟨v, r, e, a, b⟩ => ⟨v, r, e, RV.mono l k a, RVs.mono l k b⟩
end
theorem RFs.mono (l : Le ι ι') (k : Kp H H') : ∀ {p : List (Str × PV)} {v : List (Str × V)}, RFs K ι H p v → RFs K ι' H' p v
  | [], _, h => h
  | _ :: _, _, ⟨v, r, e, a, b⟩ => ⟨v, r, e, RV.mono l k a, RFs.mono l k b⟩
theorem RL.mono (l : Le ι ι') (k : Kp H H') : ∀ {p : List (PV × PV)} {v : List (Leaf × Value)}, RL K ι H p v → RL K ι' H' p v
  | [], _, h => h
  | _ :: _, _, ⟨v, u, r, e, a, b, c, d, f⟩ => ⟨v, u, r, e, a, b, RV.mono l k c, d, RL.mono l k f⟩
theorem RN.mono (l : Le ι ι') (k : Kp H H') : ∀ {p : List (PV × PV)} {v : List (NestedKey × Addr × Value)}, RN K ι H p v → RN K ι' H' p v
  | [], _, h => h
  | _ :: _, _, ⟨a, v, u, r, e, x, y, z, b, c, d, f⟩ => ⟨a, v, u, r, e, x, y, z, RV.mono l k b, RV.mono l k c, d, RN.mono l k f⟩
theorem RD.mono (l : Le ι ι') (k : Kp H H') {a : Addr} {kvs : List (PV × PV)} {o : Obj} (h : RD P w K ι H a kvs o) : RD P w K ι' H' a kvs o := by
  obtain ⟨z, y, h⟩ := h
  refine ⟨z, y, ?_⟩
  rcases h with ⟨ls, r, q⟩ | ⟨xs, es, ep, r, q⟩
  · exact .inl ⟨ls, r.mono l k, q⟩
  · exact .inr ⟨xs, es, ep, r.mono l k, q⟩
/-- an object that stands as it stood -/
theorem RO.mono (l : Le ι ι') (k : Kp H H') {a : Addr} (e : H' a = H a) : ∀ {o : VO}, RO P w K cls ι H a o → RO P w K cls ι' H' a o
  | .lst _ false, ⟨vs, h, r⟩ => ⟨vs, e.trans h, r.mono l k⟩
  | .lst _ true, ⟨vs, h, r⟩ => ⟨vs, h.imp (fun ⟨od, h⟩ => ⟨od, e.trans h⟩) id, r.mono l k⟩
  | .dct _ false, ⟨o, h, r⟩ => ⟨o, e.trans h, r.mono l k⟩
  | .dct _ true, ⟨od, o, h, r⟩ => ⟨od, o, e.trans h, r.mono l k⟩
  | .ins _ _, ⟨dx, vs, h, r, c⟩ => ⟨dx, vs, e.trans h, r.mono l k, c⟩
  | .lam _ _, h => h.elim

theorem RVs.length : ∀ {p : List PV} {v : List V}, RVs K ι H p v → v.length = p.length
  | [], _, h => by cases (show _ = [] from h); rfl
  | _ :: _, _, ⟨v, r, e, _, b⟩ => by subst e; simp [RVs.length b]
theorem RVs.get : ∀ {p : List PV} {vs : List V} {i : Nat} {x : PV}, RVs K ι H p vs → p[i]? = some x → ∃ v, vs[i]? = some v ∧ RV K ι H x v
  | [], _, _, _, _, e => by simp at e
  | _ :: _, _, 0, _, ⟨v, r, e, a, b⟩, q => by
    subst e
    simp at q
    subst q
    exact ⟨v, rfl, a⟩
  | _ :: _, _, i + 1, _, ⟨v, r, e, a, b⟩, q => by
    subst e
    exact RVs.get (i := i) b (by simpa using q)
theorem RVs.append : ∀ {p q : List PV} {vs ws : List V}, RVs K ι H p vs → RVs K ι H q ws → RVs K ι H (p ++ q) (vs ++ ws)
  | [], _, _, _, h, g => by cases (show _ = [] from h); exact g
  | _ :: _, _, _, _, ⟨v, r, e, a, b⟩, g => by
    subst e
    exact ⟨v, _, rfl, a, RVs.append b g⟩
theorem RVs.one {p : PV} {v : V} (h : RV K ι H p v) : RVs K ι H [p] [v] := ⟨v, [], rfl, h, rfl⟩
theorem RVs.take : ∀ (n : Nat) {p : List PV} {vs : List V}, RVs K ι H p vs → RVs K ι H (p.take n) (vs.take n)
  | 0, _, _, _ => by simp [RVs]
  | n + 1, [], _, h => by cases (show _ = [] from h); simp [RVs]
  | n + 1, _ :: _, _, ⟨v, r, e, a, b⟩ => by
    subst e
    exact ⟨v, _, rfl, a, RVs.take n b⟩
theorem RVs.drop : ∀ (n : Nat) {p : List PV} {vs : List V}, RVs K ι H p vs → RVs K ι H (p.drop n) (vs.drop n)
  | 0, _, _, h => h
  | n + 1, [], _, h => by cases (show _ = [] from h); simp [RVs]
  | n + 1, _ :: _, _, ⟨v, r, e, a, b⟩ => by
    subst e
    exact RVs.drop n b
theorem RVs.set {x : PV} {y : V} (g : RV K ι H x y) : ∀ (n : Nat) {p : List PV} {vs : List V}, RVs K ι H p vs → RVs K ι H (p.set n x) (vs.set n y)
  | _, [], _, h => by cases (show _ = [] from h); simp [RVs]
  | 0, _ :: _, _, ⟨v, r, e, a, b⟩ => by
    subst e
    exact ⟨y, r, rfl, g, b⟩
  | n + 1, _ :: _, _, ⟨v, r, e, a, b⟩ => by
    subst e
    exact ⟨v, _, rfl, a, RVs.set g n b⟩
theorem RVs.eraseIdx : ∀ (n : Nat) {p : List PV} {vs : List V}, RVs K ι H p vs → RVs K ι H (p.eraseIdx n) (vs.eraseIdx n)
  | _, [], _, h => by cases (show _ = [] from h); simp [RVs]
  | 0, _ :: _, _, ⟨v, r, e, a, b⟩ => by
    subst e
    exact b
  | n + 1, _ :: _, _, ⟨v, r, e, a, b⟩ => by
    subst e
    exact ⟨v, _, rfl, a, RVs.eraseIdx n b⟩
theorem RVs.dropLast {p : List PV} {vs : List V} (h : RVs K ι H p vs) : RVs K ι H p.dropLast vs.dropLast := by
  rw [List.dropLast_eq_take, List.dropLast_eq_take, h.length]
  exact h.take _
theorem RVs.reverse : ∀ {p : List PV} {vs : List V}, RVs K ι H p vs → RVs K ι H p.reverse vs.reverse
  | [], _, h => by cases (show _ = [] from h); simp [RVs]
  | _ :: _, _, ⟨v, r, e, a, b⟩ => by
    subst e
    rw [List.reverse_cons, List.reverse_cons]
    exact (RVs.reverse b).append (.one a)
/-- a pure value has one reading -/
theorem RV.int_inv {i : Int} {v : V} (h : RV K ι H (.int i) v) : v = .int i := h

theorem KLst.seq {a : Addr} {xs : List V} (h : KLst K a xs) : SqL K H a xs := .inr h
/-- what a list is read as, locked or not -/
theorem RO.list {a : Addr} {xs : List PV} {lk : Bool} (h : RO P w K cls ι H a (.lst xs lk)) : ∃ vs, SqL K H a vs ∧ RVs K ι H xs vs := by
  cases lk with
  | false =>
    obtain ⟨vs, e, r⟩ := h
    exact ⟨vs, .of e, r⟩
  | true =>
    obtain ⟨vs, h, r⟩ := h
    rcases h with ⟨od, e⟩ | h
    · exact ⟨vs, .inl (.inr ⟨od, e⟩), r⟩
    · exact ⟨vs, h.seq, r⟩
/-- what is tracked at an object's address, but for one of the written part -/
theorem RO.there {h : VH} {n : Nat} {a : Addr} {o : VO} (e : h[n]? = some o) (q : RO P w K cls ι H a o) : H a ≠ none ∨ KC K h n a := by
  match o, e, q with
  | .lst _ false, _, ⟨vs, z, _⟩ => exact .inl (by rw [z]; simp)
  | .lst _ true, e, ⟨vs, .inl ⟨od, z⟩, _⟩ => exact .inl (by rw [z]; simp)
  | .lst _ true, e, ⟨vs, .inr z, _⟩ => exact .inr ⟨_, vs, e, z⟩
  | .dct _ false, _, ⟨o, z, _⟩ => exact .inl (by rw [z]; simp)
  | .dct _ true, _, ⟨od, o, z, _⟩ => exact .inl (by rw [z]; simp)
  | .ins _ _, _, ⟨dx, vs, z, _⟩ => exact .inl (by rw [z]; simp)
  | .lam _ _, _, z => exact z.elim
theorem KC.app {h h2 : VH} {n : Nat} {a : Addr} (c : KC K h n a) : KC K (h ++ h2) n a := by
  obtain ⟨xs, vs, e, q⟩ := c
  exact ⟨xs, vs, by rw [List.getElem?_append_left (List.getElem?_eq_some_iff.mp e).1]; exact e, q⟩
/-- a new object -/
theorem Rep.new {h : VH} {p : Addr} {o : VO} (R : Rep P w K cls ι h H) (np : H p = none) (same : Same H H') (ho : RO P w K cls (ι ++ [p]) H' p o) : Rep P w K cls (ι ++ [p]) (h ++ [o]) H' where
  len := by simp [R.len]
  nd := fun n m a e1 e2 => by
    have key : ∀ k, k < ι.length → ι[k]? = some p → KC K h k p := fun k hk e => by
      have hl : k < h.length := by rw [← R.len]; exact hk
      rcases RO.there (List.getElem?_eq_getElem hl) (R.ob k p h[k] e (List.getElem?_eq_getElem hl)) with z | z
      · exact absurd np z
      · exact z
    by_cases hn : n < ι.length
    · rw [List.getElem?_append_left hn] at e1
      by_cases hm : m < ι.length
      · rw [List.getElem?_append_left hm] at e2
        rcases R.nd n m a e1 e2 with z | z | z
        · exact .inl z
        · exact .inr (.inl z.app)
        · exact .inr (.inr z.app)
      · rw [List.getElem?_append_right (by omega)] at e2
        have ea : a = p := by
          cases q : m - ι.length with
          | zero => rw [q] at e2; simpa using e2.symm
          | succ j => rw [q] at e2; simp at e2
        subst ea
        exact .inr (.inl (key n hn e1).app)
    · rw [List.getElem?_append_right (by omega)] at e1
      have ea : a = p ∧ n = ι.length := by
        cases q : n - ι.length with
        | zero => rw [q] at e1; exact ⟨by simpa using e1.symm, by omega⟩
        | succ j => rw [q] at e1; simp at e1
      obtain ⟨ea, en⟩ := ea
      subst ea
      by_cases hm : m < ι.length
      · rw [List.getElem?_append_left hm] at e2
        exact .inr (.inr (key m hm e2).app)
      · rw [List.getElem?_append_right (by omega)] at e2
        left
        cases q : m - ι.length with
        | zero => omega
        | succ j => rw [q] at e2; simp at e2
  ob := fun n a o' e1 e2 => by
    have l : Le ι (ι ++ [p]) := ⟨[p], rfl⟩
    by_cases hn : n < ι.length
    · rw [List.getElem?_append_left hn] at e1
      rw [List.getElem?_append_left (by rw [← R.len]; exact hn)] at e2
      have q := R.ob n a o' e1 e2
      match o', e2, q with
      | .lst _ false, _, ⟨vs, z, r⟩ => exact ⟨vs, same _ _ z, r.mono l (.same same)⟩
      | .lst _ true, e, ⟨vs, z, r⟩ => exact ⟨vs, z.imp (fun ⟨od, z⟩ => ⟨od, same _ _ z⟩) id, r.mono l (.same same)⟩
      | .dct _ false, _, ⟨o, z, r⟩ => exact ⟨o, same _ _ z, r.mono l (.same same)⟩
      | .dct _ true, _, ⟨od, o, z, r⟩ => exact ⟨od, o, same _ _ z, r.mono l (.same same)⟩
      | .ins _ _, _, ⟨dx, vs, z, r, c⟩ => exact ⟨dx, vs, same _ _ z, r.mono l (.same same), c⟩
      | .lam _ _, _, z => exact z.elim
    · rw [List.getElem?_append_right (by omega)] at e1
      rw [List.getElem?_append_right (by rw [← R.len]; omega)] at e2
      rw [← R.len] at e2
      cases q : n - ι.length with
      | zero =>
        rw [q] at e1 e2
        have ea : p = a := by simpa using e1
        have eo : o = o' := by simpa using e2
        subst ea
        subst eo
        exact ho
      | succ j => rw [q] at e1; simp at e1
/-- all that was tracked stands, nothing new -/
theorem Rep.same {h : VH} (R : Rep P w K cls ι h H) (same : Same H H') : Rep P w K cls ι h H' where
  len := R.len
  nd := R.nd
  ob := fun n a o' e1 e2 => by
    have q := R.ob n a o' e1 e2
    have l := Le.refl ι
    match o', e2, q with
    | .lst _ false, _, ⟨vs, z, r⟩ => exact ⟨vs, same _ _ z, r.mono l (.same same)⟩
    | .lst _ true, e, ⟨vs, z, r⟩ => exact ⟨vs, z.imp (fun ⟨od, z⟩ => ⟨od, same _ _ z⟩) id, r.mono l (.same same)⟩
    | .dct _ false, _, ⟨o, z, r⟩ => exact ⟨o, same _ _ z, r.mono l (.same same)⟩
    | .dct _ true, _, ⟨od, o, z, r⟩ => exact ⟨od, o, same _ _ z, r.mono l (.same same)⟩
    | .ins _ _, _, ⟨dx, vs, z, r, c⟩ => exact ⟨dx, vs, same _ _ z, r.mono l (.same same), c⟩
    | .lam _ _, _, z => exact z.elim
theorem same_upd {p : Addr} {o : HO} (h : H p = none) : Same H (upd H p o) := fun b x e => by
  rw [upd_ne (ne_of_none e h)]
  exact e
/-- the object n changes, at its place -/
theorem Rep.write {h : VH} {n : Nat} {a : Addr} {o : VO} {u : HO} (R : Rep P w K cls ι h H) (en : ι[n]? = some a) (k : Kp H (upd H a u)) (nk : ¬ KC K h n a) (nk2 : ∀ xs, h[n]? ≠ some (.lst xs true)) (ho : RO P w K cls ι (upd H a u) a o) : Rep P w K cls ι (h.set n o) (upd H a u) where
  len := by simp [R.len]
  nd := fun i j b e1 e2 => by
    have key : ∀ i, KC K h i b → KC K (h.set n o) i b := fun i ⟨xs, vs, e, q⟩ => by
      refine ⟨xs, vs, ?_, q⟩
      by_cases hi : n = i
      · subst hi
        exact absurd e (nk2 xs)
      · rw [List.getElem?_set_ne hi]; exact e
    rcases R.nd i j b e1 e2 with z | z | z
    · exact .inl z
    · exact .inr (.inl (key _ z))
    · exact .inr (.inr (key _ z))
  ob := fun i b o' e1 e2 => by
    by_cases hi : n = i
    · subst hi
      rw [en] at e1
      cases e1
      have hl : n < h.length := by
        rw [← R.len]
        exact (List.getElem?_eq_some_iff.mp en).1
      rw [List.getElem?_set_self hl] at e2
      cases e2
      exact ho
    · rw [List.getElem?_set_ne hi] at e2
      have q := R.ob i b o' e1 e2
      by_cases hb : b = a
      · subst hb
        rcases R.nd n i b en e1 with z | z | z
        · exact absurd z hi
        · exact absurd z nk
        · obtain ⟨xs, vs, e, kl⟩ := z
          rw [e2] at e
          cases e
          obtain ⟨ws, hk, r⟩ := q
          refine ⟨ws, .inr ?_, r.mono (Le.refl _) k⟩
          rcases hk with ⟨od, hf⟩ | hk
          · exfalso
            have hl : n < h.length := by
              rw [← R.len]
              exact (List.getElem?_eq_some_iff.mp en).1
            have e0 := List.getElem?_eq_getElem hl
            have q0 := R.ob n b h[n] en e0
            have n0 := nk2
            rw [e0] at n0
            generalize h[n] = o0 at q0 n0
            match o0, q0, n0 with
            | .lst _ false, ⟨_, z, _⟩, _ => rw [hf] at z; cases z
            | .lst ys true, _, n0 => exact n0 ys rfl
            | .dct _ false, ⟨_, z, _⟩, _ => rw [hf] at z; cases z
            | .dct _ true, ⟨_, _, z, _⟩, _ => rw [hf] at z; cases z
            | .ins _ _, ⟨_, _, z, _⟩, _ => rw [hf] at z; cases z
            | .lam _ _, z, _ => exact z.elim
          · exact hk
      · exact q.mono (Le.refl _) k (upd_ne hb)
end
end VI
set_option autoImplicit false
set_option linter.all false
set_option Elab.async false
set_option maxRecDepth 100000
set_option maxHeartbeats 2000000
/-! VI over the hand layer: readings, expressions. -/
namespace VI
open PySem PySem.Spec PyProof.Rows L2

/-- what is wished of an error: its class, what it bears, the heap behind it -/
abbrev XW := Nat → PV → VH → List Addr → Hp → Prop
/-- a wish stays where more stands -/
def XMono (W : XW) : Prop := ∀ c p h ι H ι' H', W c p h ι H → Le ι ι' → Kp H H' → W c p h ι' H'

section
variable (P : Program) (w : World) (K : PySem.W.Frag) (cls : Nat → Addr)
/-- whatever relates to the result satisfies what is wanted -/
def WR {α β : Type} (RA : List Addr → Hp → α → β → Prop) (W : XW) (r : Res α) (ι : List Addr) (H : Hp) (Q : β → Hp → Prop) : Prop := match r with
  | .ok a h' => ∀ ι' H' b, Le ι ι' → Kp H H' → Rep P w K cls ι' h' H' → RA ι' H' a b → Q b H'
  | .ex c p h' => W c p h' ι H
  | .no => False
def RR (ι : List Addr) (H : Hp) (ρ : Rho) (σ : L2.St) : Prop := ρ.length = σ.length ∧ ∀ (i : Nat) (p : PV), ρ[i]? = some (some p) → ∃ v, σ[i]? = some (some v) ∧ RV K ι H p v
end
abbrev REq (α : Type) : List Addr → Hp → α → α → Prop := fun _ _ a b => a = b
abbrev Rx (X : Cx) (cls : Nat → Addr) (ι : List Addr) (h : VH) (H : Hp) : Prop := Rep X.prog X.w X.K cls ι h H
abbrev Wx (X : Cx) (cls : Nat → Addr) {α β : Type} (RA : List Addr → Hp → α → β → Prop) (W : XW) (r : Res α) (ι : List Addr) (H : Hp) (Q : β → Hp → Prop) : Prop := WR X.prog X.w X.K cls RA W r ι H Q

def tE (X : Cx) (cls : Nat → Addr) (W : L2.St → XW) (e : EX) : TE := fun σ H Q => ∃ ι ρ h, Rx X cls ι h H ∧ RR X.K ι H ρ σ ∧ Wx X cls (RV X.K) (W σ) (e ρ h) ι H Q
def tT (X : Cx) (cls : Nat → Addr) (W : L2.St → XW) (e : TX) : TT := fun σ H Q => ∃ ι ρ h, Rx X cls ι h H ∧ RR X.K ι H ρ σ ∧ Wx X cls (REq Bool) (W σ) (e ρ h) ι H Q
def tA (X : Cx) (cls : Nat → Addr) (W : L2.St → XW) (e : AX) : TA := fun σ H Q => ∃ ι ρ h, Rx X cls ι h H ∧ RR X.K ι H ρ σ ∧ Wx X cls (RVs X.K) (W σ) (e ρ h) ι H Q

section
variable {X : Cx} {cls : Nat → Addr} {W : L2.St → XW} {W1 : XW} {pins : List (Addr × Obj)} {σ : L2.St} {H H' : Hp} {s : Shared} {ι ι' : List Addr} {ρ : Rho} {h : VH}
theorem WR.weak {P : Program} {w : World} {K : PySem.W.Frag} {α β : Type} {RA : List Addr → Hp → α → β → Prop} {r : Res α} {Q : β → Hp → Prop} (hW : XMono W1) (q : WR P w K cls RA W1 r ι H Q) (l : Le ι ι') (k : Kp H H') : WR P w K cls RA W1 r ι' H' Q := by
  cases r with
  | ok a h' => exact fun ι2 H2 b l2 k2 => q ι2 H2 b (l.trans l2) (k.trans k2)
  | ex c p h' => exact hW _ _ _ _ _ _ _ q l k
  | no => exact q
theorem RR.mono {K : PySem.W.Frag} (r : RR K ι H ρ σ) (l : Le ι ι') (k : Kp H H') : RR K ι' H' ρ σ :=
  ⟨r.1, fun i p e => let ⟨v, e', q⟩ := r.2 i p e; ⟨v, e', q.mono l k⟩⟩

/-- a part runs, then what follows it -/
theorem runE {e : Expr} {ea : EX} {α β : Type} {RA : List Addr → Hp → α → β → Prop} {f : PV → VH → Res α} {Q : β → Hp → Prop} {Qf : Value → Shared → Prop} (hW : XMono (W σ)) (ha : PE X e (tE X cls W ea)) (I : Inv X pins σ H s) (R : Rx X cls ι h H) (rr : RR X.K ι H ρ σ)
    (hw : Wx X cls RA (W σ) ((ea ρ h).bind f) ι H Q)
    (k : ∀ v s1 ι1 h1 H1 p x, Inv X pins σ H1 s1 → Le ι ι1 → Kp H H1 → Rx X cls ι1 h1 H1 → RR X.K ι1 H1 ρ σ → RV X.K ι1 H1 p x → RelV x v → Wx X cls RA (W σ) (f p h1) ι1 H1 Q → Qf v s1) :
    wpAny (model X.prog X.w) X.A (eval e X.env) Qf X.xe s := by
  cases hr : ea ρ h with
  | ok p h1 =>
    rw [hr] at hw
    refine thn (ha.run pins s σ H (fun x H1 => ∃ ι1, Le ι ι1 ∧ Kp H H1 ∧ Rx X cls ι1 h1 H1 ∧ RV X.K ι1 H1 p x) I ⟨ι, ρ, h, R, rr, ?_⟩) fun v s1 ⟨x, H1, I1, r1, ι1, l, kp, R1, rv⟩ => ?_
    · rw [hr]
      exact fun ι1 H1 b l kp R1 rv => ⟨ι1, l, kp, R1, rv⟩
    · exact k v s1 ι1 h1 H1 p x I1 l kp R1 (rr.mono l kp) rv r1 (WR.weak hW hw l kp)
  | ex c p h1 =>
    rw [hr] at hw
    refine thn (ha.run pins s σ H (fun _ _ => False) I ⟨ι, ρ, h, R, rr, ?_⟩) fun v s1 ⟨x, H1, I1, r1, z⟩ => z.elim
    rw [hr]
    exact hw
  | no =>
    rw [hr] at hw
    exact hw.elim
theorem runT {e : Expr} {ea : TX} {α β : Type} {RA : List Addr → Hp → α → β → Prop} {f : Bool → VH → Res α} {Q : β → Hp → Prop} {Qf : Bool → Shared → Prop} (hW : XMono (W σ)) (ha : PT X e (tT X cls W ea)) (I : Inv X pins σ H s) (R : Rx X cls ι h H) (rr : RR X.K ι H ρ σ)
    (hw : Wx X cls RA (W σ) ((ea ρ h).bind f) ι H Q)
    (k : ∀ b s1 ι1 h1 H1, Inv X pins σ H1 s1 → Le ι ι1 → Kp H H1 → Rx X cls ι1 h1 H1 → RR X.K ι1 H1 ρ σ → Wx X cls RA (W σ) (f b h1) ι1 H1 Q → Qf b s1) :
    wpAny (model X.prog X.w) X.A (isTrue e X.env (eval e X.env)) Qf X.xe s := by
  cases hr : ea ρ h with
  | ok p h1 =>
    rw [hr] at hw
    refine thn (ha.run pins s σ H (fun x H1 => ∃ ι1, Le ι ι1 ∧ Kp H H1 ∧ Rx X cls ι1 h1 H1 ∧ p = x) I ⟨ι, ρ, h, R, rr, ?_⟩) fun v s1 ⟨H1, I1, ι1, l, kp, R1, rv⟩ => ?_
    · rw [hr]
      exact fun ι1 H1 b l kp R1 rv => ⟨ι1, l, kp, R1, rv⟩
    · subst rv
      exact k p s1 ι1 h1 H1 I1 l kp R1 (rr.mono l kp) (WR.weak hW hw l kp)
  | ex c p h1 =>
    rw [hr] at hw
    refine thn (ha.run pins s σ H (fun _ _ => False) I ⟨ι, ρ, h, R, rr, ?_⟩) fun v s1 ⟨H1, I1, z⟩ => z.elim
    rw [hr]
    exact hw
  | no =>
    rw [hr] at hw
    exact hw.elim
theorem runA {es : List Expr} {ea : AX} {α β : Type} {RA : List Addr → Hp → α → β → Prop} {f : List PV → VH → Res α} {Q : β → Hp → Prop} {Qf : List Value → Shared → Prop} {pos : Pos} (hW : XMono (W σ)) (ha : PA X es (tA X cls W ea)) (I : Inv X pins σ H s) (R : Rx X cls ι h H) (rr : RR X.K ι H ρ σ)
    (hw : Wx X cls RA (W σ) ((ea ρ h).bind f) ι H Q)
    (k : ∀ us s1 ι1 h1 H1 ps xs, Inv X pins σ H1 s1 → Le ι ι1 → Kp H H1 → Rx X cls ι1 h1 H1 → RR X.K ι1 H1 ρ σ → RVs X.K ι1 H1 ps xs → Vals xs us → Wx X cls RA (W σ) (f ps h1) ι1 H1 Q → Qf us s1) :
    wpAny (model X.prog X.w) X.A (spliced (backTo pos (starEach es X.env))) Qf X.xe s := by
  cases hr : ea ρ h with
  | ok p h1 =>
    rw [hr] at hw
    refine thn (ha.run pos pins s σ H (fun x H1 => ∃ ι1, Le ι ι1 ∧ Kp H H1 ∧ Rx X cls ι1 h1 H1 ∧ RVs X.K ι1 H1 p x) I ⟨ι, ρ, h, R, rr, ?_⟩) fun v s1 ⟨x, H1, I1, r1, ι1, l, kp, R1, rv⟩ => ?_
    · rw [hr]
      exact fun ι1 H1 b l kp R1 rv => ⟨ι1, l, kp, R1, rv⟩
    · exact k v s1 ι1 h1 H1 p x I1 l kp R1 (rr.mono l kp) rv r1 (WR.weak hW hw l kp)
  | ex c p h1 =>
    rw [hr] at hw
    refine thn (ha.run pos pins s σ H (fun _ _ => False) I ⟨ι, ρ, h, R, rr, ?_⟩) fun v s1 ⟨x, H1, I1, r1, z⟩ => z.elim
    rw [hr]
    exact hw
  | no =>
    rw [hr] at hw
    exact hw.elim

/-! ### ends -/
theorem Wx.val {p : PV} {Q : VK} {x : V} (hw : Wx X cls (RV X.K) W1 (.ok p h) ι H Q) (R : Rx X cls ι h H) (r : RV X.K ι H p x) : Q x H := hw ι H x (.refl _) (.refl _) R r
/-- the value that stands, its model, the state -/
theorem Wx.end {p : PV} {Q : VK} {x : V} {v : Value} {t : Nat} (hw : Wx X cls (RV X.K) W1 (.ok p h) ι H Q) (I : Inv X pins σ H { s with toks := t }) (R : Rx X cls ι h H) (r : RV X.K ι H p x) (e : RelV x v) : EP X pins σ Q v { s with toks := t } := ⟨x, H, I, e, hw.val R r⟩
/-- a new list -/
theorem Wx.newL {xs : List PV} {vs : List V} {Q : VK} (hw : Wx X cls (RV X.K) W1 (newL xs h) ι H Q) (R : Rx X cls ι h H) (r : RVs X.K ι H xs vs) : vs.length ≤ sizeLine ∧ ∀ p, H p = none → Q (.ref p) (upd H p (.lst vs)) := by
  unfold VI.newL at hw
  by_cases hz : Nat.ble xs.length sizeMax = true
  · rw [if_pos hz] at hw
    refine ⟨by rw [r.length, ← size_max]; exact Nat.le_of_ble_eq_true hz, fun p np => ?_⟩
    have sm := same_upd (o := HO.lst vs) np
    have l : Le ι (ι ++ [p]) := ⟨[p], rfl⟩
    refine hw (ι ++ [p]) _ (.ref p) l (.same sm) (R.new np sm ⟨vs, upd_same, r.mono l (.same sm)⟩) ⟨p, ?_, rfl⟩
    rw [← R.len]
    simp
  · rw [if_neg hz] at hw
    exact hw.elim
/-- a new tuple: nothing new on the own heap -/
theorem Wx.newT {xs : List PV} {vs : List V} {Q : VK} (hw : Wx X cls (RV X.K) W1 (newT xs h) ι H Q) (R : Rx X cls ι h H) (r : RVs X.K ι H xs vs) : vs.length ≤ sizeLine ∧ ∀ p, H p = none → Q (.ref p) (upd H p (.tup vs)) := by
  unfold VI.newT at hw
  by_cases hz : Nat.ble xs.length sizeMax = true
  · rw [if_pos hz] at hw
    refine ⟨by rw [r.length, ← size_max]; exact Nat.le_of_ble_eq_true hz, fun p np => ?_⟩
    have sm := same_upd (o := HO.tup vs) np
    exact hw ι _ (.ref p) (.refl _) (.same sm) (R.same sm) ⟨p, vs, rfl, .of upd_same, r.mono (.refl _) (.same sm)⟩
  · rw [if_neg hz] at hw
    exact hw.elim

/-! ### names and constants -/
theorem ve_var {i : Nat} {x : Str} {pos : Pos} (hN : X.N[i]? = some x) (hv : Vis X.env.scope x) (hd : (x == ("__debug__" : Str)) = false) (hcd : (x == ("__classdict__" : Str)) = false) :
    PE X (.Name x pos) (tE X cls W fun r h => match r[i]? with
      | some (some v) => .ok v h
      | _ => .no) := by
  refine ⟨fun pins s σ H Q I ⟨ι, ρ, h, R, rr, hw⟩ => ?_⟩
  refine (pe_var hN hv hd hcd).run pins s σ H Q I ?_
  dsimp only at hw
  cases e : ρ[i]? with
  | none => rw [e] at hw; exact hw.elim
  | some o =>
    cases o with
    | none => rw [e] at hw; exact hw.elim
    | some p =>
      rw [e] at hw
      obtain ⟨v, e', r⟩ := rr.2 i p e
      exact ⟨v, e', hw.val R r⟩
theorem ve_lit {e : Expr} {p : PV} {v : V} (he : PE X e (tC v)) (hr : ∀ ι H, RV X.K ι H p v) : PE X e (tE X cls W fun _ h => .ok p h) :=
  ⟨fun pins s σ H Q I ⟨ι, ρ, h, R, rr, hw⟩ => he.run pins s σ H Q I (hw.val R (hr ι H))⟩

/-! ### displays, arguments -/
theorem va_nil : PA X [] (tA X cls W fun _ h => .ok [] h) := by
  refine ⟨fun pos pins s σ H Q I ⟨ι, ρ, h, R, rr, hw⟩ => ?_⟩
  exact pa_nil.run pos pins s σ H Q I (hw ι H [] (.refl _) (.refl _) R rfl)
theorem va_cons {e : Expr} {es : List Expr} {ea : EX} {eb : AX} (hW : ∀ σ, XMono (W σ)) (ha : PE X e (tE X cls W ea)) (hb : PA X es (tA X cls W eb)) (hs : starEach (e :: es) X.env = (false, eval e X.env) :: starEach es X.env) :
    PA X (e :: es) (tA X cls W fun r h => (ea r h).bind fun x h1 => (eb r h1).bind fun xs h2 => .ok (x :: xs) h2) := by
  refine ⟨fun pos pins s σ H Q I ⟨ι, ρ, h, R, rr, hw⟩ => ?_⟩
  rw [hs]
  show wpAny _ _ (spliced ((false, eval e X.env) :: backTo pos (starEach es X.env))) _ _ s
  refine Calls.spliced_cons (runE (hW σ) ha I R rr hw fun v s1 ι1 h1 H1 p x I1 l1 k1 R1 rr1 rv e1 hw1 => ?_)
  refine runA (hW σ) hb I1 R1 rr1 hw1 fun us s2 ι2 h2 H2 ps xs I2 l2 k2 R2 rr2 rvs e2 hw2 => ?_
  exact ⟨x :: xs, H2, I2, .cons e1 e2, hw2 ι2 H2 _ (.refl _) (.refl _) R2 ⟨x, xs, rfl, rv.mono l2 k2, rvs⟩⟩
theorem ve_tup {es : List Expr} {ea : AX} {k : Nat} {pos : Pos} (hW : ∀ σ, XMono (W σ)) (ha : PA X es (tA X cls W ea)) : PE X (.Tuple es k pos) (tE X cls W fun r h => (ea r h).bind newT) := by
  refine ⟨fun pins s σ H Q I ⟨ι, ρ, h, R, rr, hw⟩ => ?_⟩
  refine wpAny_Tuple_spliced (runA (hW σ) ha I R rr hw fun us s1 ι1 h1 H1 ps xs I1 l1 k1 R1 rr1 rvs e1 hw1 => ?_)
  obtain ⟨z, q⟩ := hw1.newT R1 rvs
  have hf : H1 s1.heap.objs.size = none := I1.hok.fresh (Nat.le_refl _)
  exact ⟨by rw [← e1.length]; exact z, .ref s1.heap.objs.size, upd H1 s1.heap.objs.size (.tup xs), I1.laid (t' := s1.toks) (fun b u e => Heap.get?_push_of_some _ e) (Nat.le_refl _) ⟨z, us, e1, ⟨_, Heap.get?_push_size _ rfl, rfl, _, rfl⟩⟩, rfl, q _ hf⟩
theorem ve_lst {es : List Expr} {ea : AX} {pos : Pos} (hW : ∀ σ, XMono (W σ)) (ha : PA X es (tA X cls W ea)) : PE X (.List es pos) (tE X cls W fun r h => (ea r h).bind newL) := by
  refine ⟨fun pins s σ H Q I ⟨ι, ρ, h, R, rr, hw⟩ => ?_⟩
  refine wpAny_List_spliced (runA (hW σ) ha I R rr hw fun us s1 ι1 h1 H1 ps xs I1 l1 k1 R1 rr1 rvs e1 hw1 => ?_)
  obtain ⟨z, q⟩ := hw1.newL R1 rvs
  have hf : H1 s1.heap.objs.size = none := I1.hok.fresh (Nat.le_refl _)
  exact ⟨by rw [← e1.length]; exact z, .ref s1.heap.objs.size, upd H1 s1.heap.objs.size (.lst xs), I1.laid (t' := s1.toks) (fun b u e => Heap.get?_push_of_some _ e) (Nat.le_refl _) ⟨z, us, 0, e1, Heap.get?_push_size _ rfl⟩, rfl, q _ hf⟩

/-! ### operators, by values -/
/-- an operation on two values does what vf says -/
def Op2 (X : Cx) (cls : Nat → Addr) (f : Value → Value → Sem Value) (vf : VH → PV → PV → Res PV) : Prop :=
  ∀ (W : XW) (pins : List (Addr × Obj)) (s : Shared) (σ : L2.St) (H : Hp) (ι : List Addr) (h : VH) (p q : PV) (x y : V) (v u : Value) (Q : VK), Inv X pins σ H s → Rx X cls ι h H → RV X.K ι H p x → RV X.K ι H q y → RelV x v → RelV y u →
    Wx X cls (RV X.K) W (vf h p q) ι H Q → wpAny (model X.prog X.w) X.A (f v u) (EP X pins σ Q) X.xe s
/-- .. a truth value -/
def Op2B (X : Cx) (cls : Nat → Addr) (f : Value → Value → Sem Value) (vf : VH → PV → PV → Res Bool) : Prop :=
  ∀ (W : XW) (pins : List (Addr × Obj)) (s : Shared) (σ : L2.St) (H : Hp) (ι : List Addr) (h : VH) (p q : PV) (x y : V) (v u : Value) (Q : Bool → Hp → Prop), Inv X pins σ H s → Rx X cls ι h H → RV X.K ι H p x → RV X.K ι H q y → RelV x v → RelV y u →
    Wx X cls (REq Bool) W (vf h p q) ι H Q → wpAny (model X.prog X.w) X.A (f v u) (EP X pins σ fun z H1 => ∃ b, z = .bl b ∧ Q b H1) X.xe s
theorem ve_bin {a b : Expr} {ea eb : EX} {op : Operator} {vf : VH → PV → PV → Res PV} {pos : Pos} (hW : ∀ σ, XMono (W σ)) (ho : Op2 X cls (binaryOp op) vf) (ha : PE X a (tE X cls W ea)) (hb : PE X b (tE X cls W eb)) :
    PE X (.BinOp a op b pos) (tE X cls W fun r h => (ea r h).bind fun x h1 => (eb r h1).bind fun y h2 => vf h2 x y) := by
  refine ⟨fun pins s σ H Q I ⟨ι, ρ, h, R, rr, hw⟩ => ?_⟩
  refine wpAny_BinOp (runE (hW σ) ha I R rr hw fun v s1 ι1 h1 H1 p x I1 l1 k1 R1 rr1 rv e1 hw1 => ?_)
  refine runE (hW σ) hb I1 R1 rr1 hw1 fun u s2 ι2 h2 H2 q y I2 l2 k2 R2 rr2 rq e2 hw2 => ?_
  exact ho (W σ) pins s2 σ H2 ι2 h2 p q x y v u Q I2 R2 (rv.mono l2 k2) rq e1 e2 hw2


theorem Wx.bl {b : Bool} {Q : Bool → Hp → Prop} (hw : Wx X cls (REq Bool) W1 (.ok b h) ι H Q) (R : Rx X cls ι h H) : Q b H := hw ι H b (.refl _) (.refl _) R rfl

/-- an own object's look -/
theorem Rep.at {P : Program} {w : World} {K : PySem.W.Frag} {n : Nat} {o : VO} (R : Rep P w K cls ι h H) (e : h[n]? = some o) {x : V} (rx : RV K ι H (.ref n) x) : ∃ a, ι[n]? = some a ∧ x = .ref a ∧ RO P w K cls ι H a o := by
  obtain ⟨a, ea, q⟩ := rx
  exact ⟨a, ea, q, R.ob n a o ea e⟩
theorem v_add : Op2 X cls (binaryOp .Add) (fun h => vAdd h) := by
  intro W pins s σ H ι h p q x y v u Q I R rx ry ev eu hw
  cases p <;> cases q <;> try exact False.elim hw
  case int.int i j => exact op_add pins s σ H x y v u Q I ev eu ⟨i, j, rx, ry, hw.val R rfl⟩
  case str.str a b =>
    simp only [vAdd] at hw
    by_cases hz : Nat.ble (a.cps.size + b.cps.size) sizeMax = true
    · rw [if_pos hz] at hw
      exact op_add_str pins s σ H x y v u Q I ev eu ⟨a, b, rx, ry, by rw [← size_max]; exact Nat.le_of_ble_eq_true hz, hw.val R rfl⟩
    · rw [if_neg hz] at hw
      exact hw.elim
  case tup.tup a b =>
    obtain ⟨p, vs, ep, hp, rp⟩ := rx
    obtain ⟨q, ws, eq, hq, rq⟩ := ry
    have hz := (hw.newT R (rp.append rq)).1
    refine op_catA pins s σ H x y v u Q I ev eu ⟨p, q, vs, ws, ep, eq, hp, hq, by simpa using hz, fun e => ?_, fun n e => ?_, fun n m => (hw.newT R (rp.append rq)).2⟩
    · subst e
      have ea : a = [] := by
        have z := rp.length
        cases a with
        | nil => rfl
        | cons _ _ => simp at z
      subst ea
      simp only [vAdd, VI.newT, List.nil_append] at hw
      split at hw
      · exact hw.val R ⟨q, ws, rfl, hq, rq⟩
      · exact hw.elim
    · subst e
      have ea : b = [] := by
        have z := rq.length
        cases b with
        | nil => rfl
        | cons _ _ => simp at z
      subst ea
      simp only [vAdd, VI.newT, List.append_nil] at hw
      split at hw
      · exact hw.val R ⟨p, vs, rfl, hp, rp⟩
      · exact hw.elim
  case ref.ref m n =>
    simp only [vAdd] at hw
    split at hw
    · rename_i a b e1 e2
      obtain ⟨p, _, ep, vs, hp, rp⟩ := R.at e1 rx
      obtain ⟨q, _, eq, ws, hq, rq⟩ := R.at e2 ry
      obtain ⟨z, q'⟩ := hw.newL R (rp.append rq)
      exact op_cat pins s σ H x y v u Q I ev eu ⟨p, q, vs, ws, ep, eq, hp, hq, by simpa using z, q'⟩
    · exact hw.elim
theorem isSmall_ok {i j : Int} (h : (isSmall i || isSmall j) = true) : CMul i j := by
  unfold isSmall two64 at h
  unfold CMul
  simp only [Bool.or_eq_true, Bool.and_eq_true, decide_eq_true_eq] at h
  omega
theorem v_mod : Op2 X cls (binaryOp .Mod) (fun h => vBin .mod h) := by
  intro W pins s σ H ι h p q x y v u Q I R rx ry ev eu hw
  cases p <;> cases q <;> try exact False.elim hw
  case int.int i j =>
    simp only [vBin] at hw
    by_cases hj : decide (0 < j) = true
    · rw [if_pos hj] at hw
      exact op_mod pins s σ H x y v u Q I ev eu ⟨i, j, rx, ry, of_decide_eq_true hj, hw.val R rfl⟩
    · rw [if_neg hj] at hw
      exact hw.elim
theorem v_sub : Op2 X cls (binaryOp .Sub) (fun h => vBin .sub h) := by
  intro W pins s σ H ι h p q x y v u Q I R rx ry ev eu hw
  cases p <;> cases q <;> try exact False.elim hw
  case int.int i j => exact op_sub pins s σ H x y v u Q I ev eu ⟨i, j, rx, ry, hw.val R rfl⟩
theorem flat_rep {K : PySem.W.Frag} {xs : List PV} {vs : List V} (r : RVs K ι H xs vs) : ∀ n, RVs K ι H (List.replicate n xs).flatten (List.replicate n vs).flatten
  | 0 => by simp [RVs]
  | n + 1 => by
    rw [List.replicate_succ, List.replicate_succ, List.flatten_cons, List.flatten_cons]
    exact r.append (flat_rep r n)
end
end VI
set_option autoImplicit false
set_option linter.all false
set_option Elab.async false
set_option maxRecDepth 100000
set_option maxHeartbeats 2000000
/-! VI over the hand layer: products, quotients, powers. -/
namespace VI
open PySem PySem.Spec PyProof.Rows L2
theorem tm_same (l : Addr) (items : Array Value) (n : Nat) (dd : Option Addr) (sl : Array (Option Value)) (x : Int) (u : Tok) (c0 : (decide (x < -(2 ^ 63)) || decide (x ≥ 2 ^ 63)) = false) (c1 : (items.isEmpty || x == 1) = true) :
    Meets (Builtin.«tuple.__mul__» ⟨[.ref l, .int x u], []⟩) (fun _ R s => s.heap.get? l = some { cls := .type "tuple", dict := dd, data := .seq items n, slots := sl } ∧ R (.ok (.ret (Value.ref l))) s) :=
  .of_wp fun prog w A R s h => by
    obtain ⟨hp, g, d, tk, os⟩ := s
    obtain ⟨hl, h⟩ := h
    have f1 := AutoSeq1.idx_int
    wp_walk using wpAny_loadPart' hl
    refine wpAny_ite_false (decide_eq_false (by rw [c0]; exact Bool.false_ne_true)) ?_
    wp_walk using wpAny_loadPart' hl
    exact ⟨_, rfl, h⟩
theorem tm_none (l : Addr) (items : Array Value) (n : Nat) (dd : Option Addr) (sl : Array (Option Value)) (x : Int) (u : Tok) (c0 : (decide (x < -(2 ^ 63)) || decide (x ≥ 2 ^ 63)) = false) (c1 : (items.isEmpty || x == 1) = false) (c2 : (decide (x ≤ 0) || items.isEmpty) = true) :
    Meets (Builtin.«tuple.__mul__» ⟨[.ref l, .int x u], []⟩) (fun _ R s => s.heap.get? l = some { cls := .type "tuple", dict := dd, data := .seq items n, slots := sl } ∧ R (.ok (.ret (Value.ref s.heap.objs.size))) { s with heap := s.heap.push { cls := Value.type "tuple", data := Data.seq #[] }, toks := s.toks }) :=
  .of_wp fun prog w A R s h => by
    obtain ⟨hp, g, d, tk, os⟩ := s
    obtain ⟨hl, h⟩ := h
    have f1 := AutoSeq1.idx_int
    wp_walk using wpAny_loadPart' hl
    refine wpAny_ite_false (decide_eq_false (by rw [c0]; exact Bool.false_ne_true)) ?_
    wp_walk using wpAny_loadPart' hl
    exact ⟨_, rfl, h⟩
section
variable {X : Cx} {cls : Nat → Addr} {W : L2.St → XW} {W1 : XW} {pins : List (Addr × Obj)} {σ : L2.St} {H H' : Hp} {s : Shared} {ι ι' : List Addr} {ρ : Rho} {h : VH}
theorem v_mul : Op2 X cls (binaryOp .Mult) (fun h => vBin .mul h) := by
  intro W pins s σ H ι h p q x y v u Q I R rx ry ev eu hw
  cases p <;> cases q <;> try exact False.elim hw
  case int.int i j =>
    simp only [vBin] at hw
    by_cases hj : (isSmall i || isSmall j) = true
    · rw [if_pos hj] at hw
      exact op_mul pins s σ H x y v u Q I ev eu ⟨i, j, rx, ry, isSmall_ok hj, hw.val R rfl⟩
    · rw [if_neg hj] at hw
      exact hw.elim
  case ref.int n j =>
    simp only [vBin] at hw
    split at hw
    · rename_i xs e
      by_cases hc : (decide (0 ≤ j) && Nat.ble (xs.length * j.toNat) sizeMax && decide (j < 1000000)) = true
      · rw [if_pos hc] at hw
        simp only [Bool.and_eq_true, decide_eq_true_eq] at hc
        obtain ⟨p, _, ep, vs, hp, rp⟩ := R.at e rx
        obtain ⟨z, q'⟩ := hw.newL R (flat_rep rp j.toNat)
        exact op_rep pins s σ H x y v u Q I ev eu ⟨p, j, vs, ep, ry, hp, by omega, by omega, by rw [rp.length, ← size_max]; exact Nat.le_of_ble_eq_true hc.1.2, q'⟩
      · rw [if_neg hc] at hw
        exact hw.elim
    · exact hw.elim
  case tup.int xs j =>
    simp only [vBin] at hw
    by_cases hc : (decide (0 ≤ j) && Nat.ble (xs.length * j.toNat) sizeMax && decide (j < 1000000) && (decide (j ≤ 1000) && Nat.ble xs.length 1000)) = true
    · rw [if_pos hc] at hw
      simp only [Bool.and_eq_true, decide_eq_true_eq] at hc
      obtain ⟨a, vs, ep, hq, rp⟩ := rx
      have q' := (hw.newT R (flat_rep rp j.toNat)).2
      have hlen : vs.length ≤ 1000 := by rw [rp.length]; exact Nat.le_of_ble_eq_true hc.2.2
      have hl0 := rp.length
      by_cases h2 : vs ≠ [] ∧ 2 ≤ j
      · exact op_repT pins s σ H x y v u Q I ev eu ⟨a, j, vs, ep, ry, hq, h2.1, h2.2, hc.2.1, hlen, q'⟩
      · subst ep
        cases ev
        obtain ⟨t, rfl⟩ := (show ∃ t, u = Value.int j t from by rw [show y = .int j from ry] at eu; exact eu)
        obtain ⟨its, r, ⟨⟨cls', dd, data, sl⟩, ho, hcl, n, hd⟩, hs⟩ := I.tuple hq
        simp only at hcl hd
        subst hcl hd
        have hle : its.length = vs.length := r.length.symm
        have c0 : (decide (j < -(2 ^ 63)) || decide (j ≥ 2 ^ 63)) = false := by
          rw [decide_eq_false (by omega), decide_eq_false (by omega)] <;> rfl
        refine wpAny_binaryOp_repeat_ref (T := "tuple") (U := "int") (by decide) ⟨_, ho, rfl⟩ (fun s' => typeIs_int s' j t) noFill_tuple_mul F.fills_int_mul F.slot_int_rmul repeat_tuple F.slot_int_index.lookup
          (call_meets F.slot_int_rmul (typeIs_int s j t) F.entry_int_rmul (F.args_int_rmul_2 _ _) (int_rmul_tuple j t a its.toArray n dd sl) ⟨ho, rfl, ⟨_, ho, rfl⟩, ?_⟩)
        by_cases c1 : (its.toArray.isEmpty || j == 1) = true
        · refine call_meets F.slot_tuple_mul ⟨_, ho, rfl⟩ F.entry_tuple_mul (F.args_tuple_mul_2 _ _) (tm_same a its.toArray n dd sl j t c0 c1) ⟨ho, ?_⟩
          have e : (List.replicate j.toNat xs).flatten = xs := by
            rcases Bool.or_eq_true_iff.mp c1 with z | z
            · have : xs = [] := by
                have z' : its = [] := by simpa using z
                rw [z'] at hle
                apply List.eq_nil_of_length_eq_zero
                rw [← hl0, ← hle]
                rfl
              subst this
              simp
            · have : j = 1 := by simpa using z
              subst this
              simp
          rw [e] at hw
          unfold VI.newT at hw
          split at hw
          · exact ⟨.ref a, H, I, rfl, hw.val R ⟨a, vs, rfl, hq, rp⟩⟩
          · exact hw.elim
        · have c1 : (its.toArray.isEmpty || j == 1) = false := by simpa using c1
          have c2 : (decide (j ≤ 0) || its.toArray.isEmpty) = true := by
            rw [Bool.or_eq_false_iff] at c1
            have hne : vs ≠ [] := fun z => by
              have : its = [] := by
                apply List.eq_nil_of_length_eq_zero
                rw [hle, z]
                rfl
              rw [this] at c1
              exact absurd c1.1 (by decide)
            have h1 : j ≠ 1 := fun z => by rw [z] at c1; exact absurd c1.2 (by decide)
            have : ¬ 2 ≤ j := fun z => h2 ⟨hne, z⟩
            rw [decide_eq_true (by omega), Bool.true_or]
          refine call_meets F.slot_tuple_mul ⟨_, ho, rfl⟩ F.entry_tuple_mul (F.args_tuple_mul_2 _ _) (tm_none a its.toArray n dd sl j t c0 c1 c2) ⟨ho, ?_⟩
          have e : (List.replicate j.toNat vs).flatten = [] := by
            rw [Bool.or_eq_false_iff] at c1
            rw [Bool.or_eq_true_iff, c1.1] at c2
            have : j ≤ 0 := by
              rcases c2 with z | z
              · exact of_decide_eq_true z
              · cases z
            rw [show j.toNat = 0 by omega]
            rfl
          rw [e] at q'
          exact ⟨.ref s.heap.objs.size, _, I.laid (t' := s.toks) (o := .tup []) (fun b ob q => Heap.get?_push_of_some _ q) (Nat.le_refl _) ⟨Nat.zero_le _, [], .nil, IsTup.new _ _⟩, rfl, q' _ (I.hok.fresh (Nat.le_refl _))⟩
    · rw [if_neg hc] at hw
      exact hw.elim

theorem v_fdiv : Op2 X cls (binaryOp .FloorDiv) (fun h => vBin .fdiv h) := by
  intro W pins s σ H ι h p q x y v u Q I R rx ry ev eu hw
  cases p <;> cases q <;> try exact False.elim hw
  case int.int i j =>
    simp only [vBin] at hw
    by_cases hj : (decide (0 < j) && Nat.ble (j.toNat + 1) (2 ^ 8000)) = true
    · rw [if_pos hj] at hw
      simp only [Bool.and_eq_true, decide_eq_true_eq] at hj
      refine op_fdivW pins s σ H x y v u Q I ev eu ⟨i, j, rx, ry, wide_div (b := 8000) hj.1 ?_ (by decide) (by decide), hw.val R rfl⟩
      have h2 := Nat.le_of_ble_eq_true hj.2
      have h3 : j.natAbs = j.toNat := by omega
      rw [h3]
      exact h2
    · rw [if_neg hj] at hw
      exact hw.elim
theorem v_pow : Op2 X cls (binaryOp .Pow) (fun h => vBin .pow h) := by
  intro W pins s σ H ι h p q x y v u Q I R rx ry ev eu hw
  cases p <;> cases q <;> try exact False.elim hw
  case int.int i j =>
    simp only [vBin] at hw
    by_cases hj : (decide (0 ≤ j) && decide (j ≤ 1000) && isSmall i) = true
    · rw [if_pos hj] at hw
      unfold isSmall two64 at hj
      simp only [Bool.and_eq_true, decide_eq_true_eq] at hj
      exact op_pow pins s σ H x y v u Q I ev eu ⟨i, j, rx, ry, ⟨hj.1.1, by omega, by omega⟩, hw.val R rfl⟩
    · rw [if_neg hj] at hw
      exact hw.elim
end
end VI
set_option autoImplicit false
set_option linter.all false
set_option Elab.async false
set_option maxRecDepth 100000
set_option maxHeartbeats 2000000
/-! VI over the hand layer: operators by values. -/
namespace VI
open PySem PySem.Spec PyProof.Rows L2
section
variable {X : Cx} {cls : Nat → Addr} {W1 : XW} {pins : List (Addr × Obj)} {σ : L2.St} {H H' : Hp} {s : Shared} {ι ι' : List Addr} {ρ : Rho} {h : VH}

/-! ### data -/
mutual
def conv : PD → PyData
  | .non => .none
  | .bl b => .bool b
  | .int i => .int i
  | .str s => .str s
  | .tup xs => .tuple (convs xs)
  | .lst xs => .list (convs xs)
def convs : List PD → List PyData
  | [] => []
  | x :: xs => conv x :: convs xs
end
mutual
theorem deq_conv : ∀ d e : PD, PyData.eqv (conv d) (conv e) = deq d e
  | .non, .non => by simp [conv, deq, PyData.eqv]
  | .non, .bl _ => by simp [conv, deq, PyData.eqv]
  | .non, .int _ => by simp [conv, deq, PyData.eqv]
  | .non, .str _ => by simp [conv, deq, PyData.eqv]
  | .non, .tup _ => by simp [conv, deq, PyData.eqv]
  | .non, .lst _ => by simp [conv, deq, PyData.eqv]
  | .bl _, .non => by simp [conv, deq, PyData.eqv]
  | .bl _, .bl _ => by simp [conv, deq, PyData.eqv]
  | .bl _, .int _ => by simp [conv, deq, PyData.eqv]
  | .bl _, .str _ => by simp [conv, deq, PyData.eqv]
  | .bl _, .tup _ => by simp [conv, deq, PyData.eqv]
  | .bl _, .lst _ => by simp [conv, deq, PyData.eqv]
  | .int _, .non => by simp [conv, deq, PyData.eqv]
  | .int _, .bl _ => by simp [conv, deq, PyData.eqv]
  | .int _, .int _ => by simp [conv, deq, PyData.eqv]
  | .int _, .str _ => by simp [conv, deq, PyData.eqv]
  | .int _, .tup _ => by simp [conv, deq, PyData.eqv]
  | .int _, .lst _ => by simp [conv, deq, PyData.eqv]
  | .str _, .non => by simp [conv, deq, PyData.eqv]
  | .str _, .bl _ => by simp [conv, deq, PyData.eqv]
  | .str _, .int _ => by simp [conv, deq, PyData.eqv]
  | .str _, .str _ => by simp [conv, deq, PyData.eqv]
  | .str _, .tup _ => by simp [conv, deq, PyData.eqv]
  | .str _, .lst _ => by simp [conv, deq, PyData.eqv]
  | .tup _, .non => by simp [conv, deq, PyData.eqv]
  | .tup _, .bl _ => by simp [conv, deq, PyData.eqv]
  | .tup _, .int _ => by simp [conv, deq, PyData.eqv]
  | .tup _, .str _ => by simp [conv, deq, PyData.eqv]
  | .tup x, .tup y => by rw [conv, conv, deq, PyData.eqv]; exact deqs_conv x y
  | .tup _, .lst _ => by simp [conv, deq, PyData.eqv]
  | .lst _, .non => by simp [conv, deq, PyData.eqv]
  | .lst _, .bl _ => by simp [conv, deq, PyData.eqv]
  | .lst _, .int _ => by simp [conv, deq, PyData.eqv]
  | .lst _, .str _ => by simp [conv, deq, PyData.eqv]
  | .lst _, .tup _ => by simp [conv, deq, PyData.eqv]
  | .lst x, .lst y => by rw [conv, conv, deq, PyData.eqv]; exact deqs_conv x y
theorem deqs_conv : ∀ d e : List PD, PyData.eqvAll (convs d) (convs e) = deqs d e
  | [], [] => by simp [convs, deqs, PyData.eqvAll]
  | [], _ :: _ => by simp [convs, deqs, PyData.eqvAll]
  | _ :: _, [] => by simp [convs, deqs, PyData.eqvAll]
  | x :: xs, y :: ys => by rw [convs, convs, deqs, PyData.eqvAll, deq_conv x y, deqs_conv xs ys]
end
theorem any_conv (e : PD) : ∀ ds : List PD, ((convs ds).any fun z => PyData.eqv z (conv e)) = ds.any fun d => deq d e
  | [] => by simp [convs]
  | d :: ds => by rw [convs, List.any_cons, List.any_cons, deq_conv, any_conv e ds]
/-- what a value is as data -/
structure DOk (K : PySem.W.Frag) (H : Hp) (n : Nat) (x : V) (d : PyData) : Prop where
  dp : Dp K H x d
  lay : d.canLay0 = true
  dep : d.depth ≤ n
structure DsOk (K : PySem.W.Frag) (H : Hp) (n : Nat) (xs : List V) (ds : List PyData) : Prop where
  dp : DpAll K H xs ds
  lay : PyData.canLayAll0 ds = true
  dep : PyData.depthAll ds ≤ n
theorem toDs_ok {P : Program} {w : World} {K : PySem.W.Frag} (n : Nat) (R : Rep P w K cls ι h H) (ih : ∀ p d x, toD n h p = some d → RV K ι H p x → DOk K H n x (conv d)) :
    ∀ (ps : List PV) (ds : List PD) (xs : List V), mapO (fun x => toD n h x) ps = some ds → RVs K ι H ps xs → DsOk K H n xs (convs ds)
  | [], ds, xs, e, r => by
    cases (show xs = [] from r)
    cases (show some [] = some ds from e)
    exact ⟨.nil, by simp [convs, PyData.canLayAll0], by simp [convs, PyData.depthAll]⟩
  | p :: ps, ds, xs, e, r => by
    obtain ⟨v, vs, rfl, r1, r2⟩ := r
    simp only [mapO] at e
    split at e
    · rename_i y ey
      split at e
      · rename_i ys eys
        cases e
        have a := ih p y v ey r1
        have b := toDs_ok n R ih ps ys vs eys r2
        refine ⟨.cons a.dp b.dp, ?_, ?_⟩
        · simp only [convs, PyData.canLayAll0, a.lay, b.lay, Bool.and_self]
        · simp only [convs, PyData.depthAll]
          have := a.dep
          have := b.dep
          omega
      · cases e
    · cases e
theorem toD_ok {P : Program} {w : World} {K : PySem.W.Frag} (R : Rep P w K cls ι h H) : ∀ (n : Nat) (p : PV) (d : PD) (x : V), toD n h p = some d → RV K ι H p x → DOk K H n x (conv d)
  | n, .non, d, x, e, r => by
    cases (show x = .non from r)
    have e : some PD.non = some d := by cases n <;> exact e
    cases e
    exact ⟨.non, by simp [conv, PyData.canLay0], by simp [conv, PyData.depth]⟩
  | n, .bl b, d, x, e, r => by
    cases (show x = .bl b from r)
    have e : some (PD.bl b) = some d := by cases n <;> exact e
    cases e
    exact ⟨.bl b, by simp [conv, PyData.canLay0], by simp [conv, PyData.depth]⟩
  | n, .int b, d, x, e, r => by
    cases (show x = .int b from r)
    have e : some (PD.int b) = some d := by cases n <;> exact e
    cases e
    exact ⟨.int b, by simp [conv, PyData.canLay0], by simp [conv, PyData.depth]⟩
  | n, .str b, d, x, e, r => by
    cases (show x = .str b from r)
    have e : (if strFine b then some (PD.str b) else none) = some d := by cases n <;> exact e
    split at e
    · rename_i hf
      cases e
      exact ⟨.str b, by simp only [conv, PyData.canLay0]; exact hf, by simp [conv, PyData.depth]⟩
    · cases e
  | 0, .tup _, _, _, e, _ => by cases e
  | 0, .ref _, _, _, e, _ => by cases e
  | 0, .err _ _, _, _, _, r => r.elim
  | n + 1, .err _ _, _, _, _, r => r.elim
  | n + 1, .tup ps, d, x, e, r => by
    obtain ⟨a, vs, rfl, hq, r⟩ := r
    simp only [toD] at e
    cases em : mapO (fun x => toD n h x) ps with
    | none => rw [em] at e; cases e
    | some ds =>
      rw [em] at e
      cases e
      have q := toDs_ok n R (fun p d x => toD_ok R n p d x) ps ds vs em r
      refine ⟨.tup hq q.dp, by simp only [conv, PyData.canLay0]; exact q.lay, ?_⟩
      simp only [conv, PyData.depth]
      have := q.dep
      omega
  | n + 1, .ref m, d, x, e, r => by
    simp only [toD] at e
    split at e
    · rename_i xs lk eo
      obtain ⟨a, ea, rfl, ro⟩ := R.at eo r
      obtain ⟨vs, hq, rv⟩ := RO.list ro
      cases em : mapO (fun x => toD n h x) xs with
      | none => rw [em] at e; cases e
      | some ds =>
        rw [em] at e
        cases e
        have q := toDs_ok n R (fun p d x => toD_ok R n p d x) xs ds vs em rv
        refine ⟨.lst hq q.dp, by simp only [conv, PyData.canLay0]; exact q.lay, ?_⟩
        simp only [conv, PyData.depth]
        have := q.dep
        omega
    · cases e
theorem DOk.shaped {K : PySem.W.Frag} {n : Nat} {x : V} {d : PyData} (q : DOk K H n x d) (hn : n ≤ 64) : SeqAt.shaped d = true := by
  show (d.canLay0 && decide (d.depth ≤ 64)) = true
  rw [q.lay, decide_eq_true (Nat.le_trans q.dep hn)]
  rfl

theorem v_eq (hu : X.A.units + 64 < cLine) : Op2B X cls (compareOp .Eq) (fun h => vCmp .eq h) := by
  intro W pins s σ H ι h p q x y v u Q I R rx ry ev eu hw
  simp only [vCmp] at hw
  split at hw
  · rename_i d e hd he
    have a := toD_ok R 64 p d x hd rx
    have b := toD_ok R 64 q e y he ry
    exact op_eqD hu pins s σ H x y v u _ I ev eu ⟨conv d, conv e, a.dp, b.dp, a.shaped (Nat.le_refl _), b.shaped (Nat.le_refl _), _, rfl, by rw [deq_conv]; exact Wx.bl hw R⟩
  · exact hw.elim
theorem v_ne (hu : X.A.units + 64 < cLine) : Op2B X cls (compareOp .NotEq) (fun h => vCmp .ne h) := by
  intro W pins s σ H ι h p q x y v u Q I R rx ry ev eu hw
  simp only [vCmp] at hw
  split at hw
  · rename_i d e hd he
    have a := toD_ok R 64 p d x hd rx
    have b := toD_ok R 64 q e y he ry
    exact op_neD hu pins s σ H x y v u _ I ev eu ⟨conv d, conv e, a.dp, b.dp, a.shaped (Nat.le_refl _), b.shaped (Nat.le_refl _), _, rfl, by rw [deq_conv]; exact Wx.bl hw R⟩
  · exact hw.elim
theorem intsOf_map {K : PySem.W.Frag} : ∀ {ps : List PV} {ns : List Int} {vs : List V}, intsOf ps = some ns → RVs K ι H ps vs → vs = ns.map V.int
  | [], ns, vs, e, r => by
    cases (show some [] = some ns from e)
    exact r
  | p :: ps, ns, vs, e, r => by
    obtain ⟨v, r', rfl, r1, r2⟩ := r
    cases p with
    | int i =>
      simp only [intsOf] at e
      cases em : intsOf ps with
      | none => rw [em] at e; cases e
      | some ms =>
        rw [em] at e
        cases e
        rw [intsOf_map em r2, show v = .int i from r1]
        rfl
    | _ => cases e
theorem bools_map {K : PySem.W.Frag} : ∀ {ps : List PV} {ns : List Bool} {vs : List V}, boolsOf ps = some ns → RVs K ι H ps vs → vs = ns.map V.bl
  | [], ns, vs, e, r => by
    cases (show some [] = some ns from e)
    exact r
  | p :: ps, ns, vs, e, r => by
    obtain ⟨v, r', rfl, r1, r2⟩ := r
    cases p with
    | bl i =>
      simp only [boolsOf] at e
      cases em : boolsOf ps with
      | none => rw [em] at e; cases e
      | some ms =>
        rw [em] at e
        cases e
        rw [bools_map em r2, show v = .bl i from r1]
        rfl
    | _ => cases e
theorem lexLt_eq : ∀ a b : List Int, HT.lexLt a b = lexLt a b
  | [], [] => by simp [HT.lexLt, lexLt]
  | [], _ :: _ => by simp [HT.lexLt, lexLt]
  | _ :: _, [] => by simp [HT.lexLt, lexLt]
  | x :: xs, y :: ys => by
    simp only [HT.lexLt, lexLt]
    rw [lexLt_eq xs ys]
theorem v_lt (hu : X.A.units < cLine) : Op2B X cls (compareOp .Lt) (fun h => vCmp .lt h) := by
  intro W pins s σ H ι h p q x y v u Q I R rx ry ev eu hw
  cases p <;> cases q <;> try exact False.elim hw
  case int.int i j => exact op_lt pins s σ H x y v u _ I ev eu ⟨i, j, rx, ry, _, rfl, Wx.bl hw R⟩
  case tup.tup a b =>
    obtain ⟨p, vs, ep, hp, rp⟩ := rx
    obtain ⟨q, ws, eq, hq, rq⟩ := ry
    simp only [vCmp] at hw
    split at hw
    · rename_i ns ms e1 e2
      rw [intsOf_map e1 rp] at hp
      rw [intsOf_map e2 rq] at hq
      exact op_ltT hu pins s σ H x y v u _ I ev eu ⟨p, q, ns, ms, ep, eq, hp, hq, _, rfl, by rw [lexLt_eq]; exact Wx.bl hw R⟩
    · exact hw.elim
theorem v_le : Op2B X cls (compareOp .LtE) (fun h => vCmp .le h) := by
  intro W pins s σ H ι h p q x y v u Q I R rx ry ev eu hw
  cases p <;> cases q <;> try exact False.elim hw
  case int.int i j => exact op_le pins s σ H x y v u _ I ev eu ⟨i, j, rx, ry, _, rfl, Wx.bl hw R⟩
theorem v_gt : Op2B X cls (compareOp .Gt) (fun h => vCmp .gt h) := by
  intro W pins s σ H ι h p q x y v u Q I R rx ry ev eu hw
  cases p <;> cases q <;> try exact False.elim hw
  case int.int i j => exact op_gt pins s σ H x y v u _ I ev eu ⟨i, j, rx, ry, _, rfl, Wx.bl hw R⟩
theorem v_ge : Op2B X cls (compareOp .GtE) (fun h => vCmp .ge h) := by
  intro W pins s σ H ι h p q x y v u Q I R rx ry ev eu hw
  cases p <;> cases q <;> try exact False.elim hw
  case int.int i j => exact op_ge pins s σ H x y v u _ I ev eu ⟨i, j, rx, ry, _, rfl, Wx.bl hw R⟩
theorem non_iff {K : PySem.W.Frag} {p : PV} {x : V} (r : RV K ι H p x) : decide (x = .non) = PV.beq p .non := by
  cases p with
  | non => cases (show x = .non from r); rfl
  | bl b => cases (show x = .bl b from r); rfl
  | int b => cases (show x = .int b from r); rfl
  | str b => cases (show x = .str b from r); rfl
  | tup b => obtain ⟨a, vs, rfl, _⟩ := r; rfl
  | ref b => obtain ⟨a, _, rfl⟩ := r; rfl
  | err _ _ => exact r.elim
theorem v_is : Op2B X cls (compareOp .Is) (fun h => vCmp .isv h) := by
  intro W pins s σ H ι h p q x y v u Q I R rx ry ev eu hw
  cases q with
  | non =>
    have hw' : Wx X cls (REq Bool) W (.ok (PV.beq p .non) h) ι H Q := by cases p <;> exact hw
    exact op_isN pins s σ H x y v u _ I ev eu ⟨ry, _, rfl, by rw [non_iff rx]; exact Wx.bl hw' R⟩
  | bl c =>
    cases p with
    | bl b => exact op_isBl pins s σ H x y v u _ I ev eu ⟨b, c, rx, ry, _, rfl, by rw [← Bool.beq_eq_decide_eq]; exact Wx.bl hw R⟩
    | _ => exact False.elim hw
  | _ => cases p <;> exact False.elim hw
theorem v_nis : Op2B X cls (compareOp .IsNot) (fun h => vCmp .nisv h) := by
  intro W pins s σ H ι h p q x y v u Q I R rx ry ev eu hw
  cases q with
  | non =>
    have hw' : Wx X cls (REq Bool) W (.ok (!PV.beq p .non) h) ι H Q := by cases p <;> exact hw
    exact op_notN pins s σ H x y v u _ I ev eu ⟨ry, _, rfl, by rw [non_iff rx]; exact Wx.bl hw' R⟩
  | bl c =>
    cases p with
    | bl b => exact op_notBl pins s σ H x y v u _ I ev eu ⟨b, c, rx, ry, _, rfl, by rw [← Bool.beq_eq_decide_eq]; exact Wx.bl hw R⟩
    | _ => exact False.elim hw
  | _ => cases p <;> exact False.elim hw
end
end VI
set_option autoImplicit false
set_option linter.all false
set_option Elab.async false
set_option maxRecDepth 100000
set_option maxHeartbeats 2000000
/-! VI over the hand layer: dicts. -/
namespace VI
open PySem PySem.Spec PyProof.Rows L2

/-! ### keys -/
mutual
theorem beq_iff : ∀ {a b : PV}, PV.beq a b = true ↔ a = b
  | .non, .non => by simp [PV.beq]
  | .bl _, .bl _ => by simp [PV.beq]
  | .int _, .int _ => by simp [PV.beq]
  | .str _, .str _ => by simp [PV.beq]
  | .tup a, .tup b => by simp only [PV.beq, PV.tup.injEq]; exact beqs_iff
  | .ref _, .ref _ => by simp [PV.beq]
  | .err a p, .err b q => by simp only [PV.beq, Bool.and_eq_true, PV.err.injEq]; rw [beq_iff]; simp
  | .non, .bl _ => by simp [PV.beq]
  | .non, .int _ => by simp [PV.beq]
  | .non, .str _ => by simp [PV.beq]
  | .non, .tup _ => by simp [PV.beq]
  | .non, .ref _ => by simp [PV.beq]
  | .non, .err _ _ => by simp [PV.beq]
  | .bl _, .non => by simp [PV.beq]
  | .bl _, .int _ => by simp [PV.beq]
  | .bl _, .str _ => by simp [PV.beq]
  | .bl _, .tup _ => by simp [PV.beq]
  | .bl _, .ref _ => by simp [PV.beq]
  | .bl _, .err _ _ => by simp [PV.beq]
  | .int _, .non => by simp [PV.beq]
  | .int _, .bl _ => by simp [PV.beq]
  | .int _, .str _ => by simp [PV.beq]
  | .int _, .tup _ => by simp [PV.beq]
  | .int _, .ref _ => by simp [PV.beq]
  | .int _, .err _ _ => by simp [PV.beq]
  | .str _, .non => by simp [PV.beq]
  | .str _, .bl _ => by simp [PV.beq]
  | .str _, .int _ => by simp [PV.beq]
  | .str _, .tup _ => by simp [PV.beq]
  | .str _, .ref _ => by simp [PV.beq]
  | .str _, .err _ _ => by simp [PV.beq]
  | .tup _, .non => by simp [PV.beq]
  | .tup _, .bl _ => by simp [PV.beq]
  | .tup _, .int _ => by simp [PV.beq]
  | .tup _, .str _ => by simp [PV.beq]
  | .tup _, .ref _ => by simp [PV.beq]
  | .tup _, .err _ _ => by simp [PV.beq]
  | .ref _, .non => by simp [PV.beq]
  | .ref _, .bl _ => by simp [PV.beq]
  | .ref _, .int _ => by simp [PV.beq]
  | .ref _, .str _ => by simp [PV.beq]
  | .ref _, .tup _ => by simp [PV.beq]
  | .ref _, .err _ _ => by simp [PV.beq]
  | .err _ _, .non => by simp [PV.beq]
  | .err _ _, .bl _ => by simp [PV.beq]
  | .err _ _, .int _ => by simp [PV.beq]
  | .err _ _, .str _ => by simp [PV.beq]
  | .err _ _, .tup _ => by simp [PV.beq]
  | .err _ _, .ref _ => by simp [PV.beq]
theorem beqs_iff : ∀ {a b : List PV}, PV.beqs a b = true ↔ a = b
  | [], [] => by simp [PV.beqs]
  | [], _ :: _ => by simp [PV.beqs]
  | _ :: _, [] => by simp [PV.beqs]
  | a :: as, b :: bs => by simp only [PV.beqs, Bool.and_eq_true, List.cons.injEq]; rw [beq_iff, beqs_iff]
end
mutual
theorem keyN_inj : ∀ {a b : PV}, PV.keyOk a = true → PV.keyOk b = true → keyN a = keyN b → a = b
  | .non, .non, _, _, _ => rfl
  | .int _, .int _, _, _, e => by simp only [keyN] at e; injection e with e; rw [e]
  | .str _, .str _, _, _, e => by simp only [keyN] at e; injection e with e; rw [e]
  | .tup a, .tup b, h, k, e => by
    simp only [keyN] at e
    injection e with e
    rw [keyNs_inj h k e]
  | .non, .int _, _, _, e => by simp [keyN] at e
  | .non, .str _, _, _, e => by simp [keyN] at e
  | .non, .tup _, _, _, e => by simp [keyN] at e
  | .int _, .non, _, _, e => by simp [keyN] at e
  | .int _, .str _, _, _, e => by simp [keyN] at e
  | .int _, .tup _, _, _, e => by simp [keyN] at e
  | .str _, .non, _, _, e => by simp [keyN] at e
  | .str _, .int _, _, _, e => by simp [keyN] at e
  | .str _, .tup _, _, _, e => by simp [keyN] at e
  | .tup _, .non, _, _, e => by simp [keyN] at e
  | .tup _, .int _, _, _, e => by simp [keyN] at e
  | .tup _, .str _, _, _, e => by simp [keyN] at e
  | .bl _, _, h, _, _ => by simp [PV.keyOk] at h
  | .ref _, _, h, _, _ => by simp [PV.keyOk] at h
  | .err _ _, _, h, _, _ => by simp [PV.keyOk] at h
  | _, .bl _, _, h, _ => by simp [PV.keyOk] at h
  | _, .ref _, _, h, _ => by simp [PV.keyOk] at h
  | _, .err _ _, _, h, _ => by simp [PV.keyOk] at h
theorem keyNs_inj : ∀ {a b : List PV}, PV.keysOk a = true → PV.keysOk b = true → keyNs a = keyNs b → a = b
  | [], [], _, _, _ => rfl
  | [], _ :: _, _, _, e => by simp [keyNs] at e
  | _ :: _, [], _, _, e => by simp [keyNs] at e
  | x :: xs, y :: ys, h, k, e => by
    simp only [keyNs, List.cons.injEq] at e
    simp only [PV.keysOk, Bool.and_eq_true] at h k
    rw [keyN_inj h.1 k.1 e.1, keyNs_inj h.2 k.2 e.2]
end
theorem keyL_inj {a b : PV} (ha : PV.keyOk a = true) (hb : PV.keyOk b = true) (ta : PV.isTup a = false) (tb : PV.isTup b = false) (e : keyL a = keyL b) : a = b := by
  cases a <;> cases b <;> simp_all [keyL, PV.keyOk, PV.isTup]
mutual
theorem keyN_depth : ∀ a : PV, (keyN a).depth ≤ PV.deep a
  | .non => by simp [keyN, NestedKey.depth]
  | .bl _ => by simp [keyN, NestedKey.depth]
  | .int _ => by simp [keyN, NestedKey.depth]
  | .str _ => by simp [keyN, NestedKey.depth]
  | .ref _ => by simp [keyN, NestedKey.depth]
  | .err _ _ => by simp [keyN, NestedKey.depth]
  | .tup xs => by
    simp only [keyN, NestedKey.depth, PV.deep]
    have := keyNs_depth xs
    omega
theorem keyNs_depth : ∀ a : List PV, NestedKey.depthAll (keyNs a) ≤ PV.deeps a
  | [] => by simp [keyNs, NestedKey.depthAll, PV.deeps]
  | x :: xs => by
    simp only [keyNs, NestedKey.depthAll, PV.deeps]
    have := keyN_depth x
    have := keyNs_depth xs
    omega
end
section
variable {X : Cx} {cls : Nat → Addr} {W1 : XW} {pins : List (Addr × Obj)} {σ : L2.St} {H H' : Hp} {s : Shared} {ι ι' : List Addr} {ρ : Rho} {h : VH}
mutual
/-- the key that a value is, in the heap -/
theorem key_is (I : Inv X pins σ H s) : ∀ {k : PV} {x : V} {u : Value}, PV.keyOk k = true → RV X.K ι H k x → RelV x u → NestedIs s.heap (keyN k) u
  | .non, _, _, _, r, e => by
    cases (show _ = V.non from r)
    cases e
    exact .none
  | .int i, _, _, _, r, e => by
    cases (show _ = V.int i from r)
    obtain ⟨t, rfl⟩ := e
    exact .int i t
  | .str i, _, _, _, r, e => by
    cases (show _ = V.str i from r)
    obtain ⟨t, rfl⟩ := e
    exact .text i t
  | .tup xs, _, _, h, ⟨a, vs, e1, hq, rv⟩, e => by
    subst e1
    cases e
    obtain ⟨its, r, ⟨o, ho, hc, n, hd⟩, _⟩ := I.tuple hq
    exact .tup ho hc hd (keys_is I h rv r)
  | .bl _, _, _, h, _, _ => by simp [PV.keyOk] at h
  | .ref _, _, _, h, _, _ => by simp [PV.keyOk] at h
  | .err _ _, _, _, h, _, _ => by simp [PV.keyOk] at h
theorem keys_is (I : Inv X pins σ H s) : ∀ {ks : List PV} {xs : List V} {us : List Value}, PV.keysOk ks = true → RVs X.K ι H ks xs → Vals xs us → NestedAll s.heap (keyNs ks) us
  | [], _, _, _, r, e => by
    cases (show _ = [] from r)
    cases e
    exact .nil
  | k :: ks, _, _, h, ⟨v, r', e1, a, b⟩, e => by
    subst e1
    simp only [PV.keysOk, Bool.and_eq_true] at h
    cases e with
    | cons e e' => exact .cons (key_is I h.1 a e) (keys_is I h.2 b e')
end
theorem leaf_is {P : Program} {w : World} {K : PySem.W.Frag} {k : PV} {x : V} {u : Value} (hk : PV.keyOk k = true) (ht : PV.isTup k = false) (r : RV K ι H k x) (e : RelV x u) : (pKind P w).is (keyL k) u = true := by
  cases k with
  | non => cases (show x = .non from r); cases e; rfl
  | int i =>
    cases (show x = .int i from r)
    obtain ⟨t, rfl⟩ := e
    show (decide (i = i) && true) = true
    simp
  | str i =>
    cases (show x = .str i from r)
    obtain ⟨t, rfl⟩ := e
    show (Value.isStrOf i (.str i t) && true) = true
    simp [Value.isStrOf]
  | _ => simp [PV.keyOk, PV.isTup] at hk ht
/-- the other way round: what such a key's value is -/
theorem of_leaf_is {P : Program} {w : World} {K : PySem.W.Frag} {k : PV} {u : Value} (hk : PV.keyOk k = true) (ht : PV.isTup k = false) (e : (pKind P w).is (keyL k) u = true) : ∃ x, RV K ι H k x ∧ RelV x u := by
  have e1 : Leaf.isOf (keyL k) u = true := (Bool.and_eq_true_iff.mp e).1
  have e2 : noBool u = true := (Bool.and_eq_true_iff.mp e).2
  cases k with
  | non =>
    refine ⟨.non, rfl, ?_⟩
    cases u <;> first | rfl | exact absurd e1 Bool.false_ne_true
  | int i =>
    refine ⟨.int i, rfl, ?_⟩
    cases u with
    | int j t =>
      have z : j = i := of_decide_eq_true e1
      exact ⟨t, by rw [z]⟩
    | bool b => exact absurd e2 Bool.false_ne_true
    | _ => exact absurd e1 Bool.false_ne_true
  | str i =>
    obtain ⟨t, rfl⟩ := Value.isStrOf_shape (show Value.isStrOf i u = true from e1)
    exact ⟨.str i, rfl, t, rfl⟩
  | _ => simp [PV.keyOk, PV.isTup] at hk ht

/-! ### looking up, putting, taking out -/
section
variable {K : PySem.W.Frag}
theorem beq_no {a b : PV} (h : ¬ a = b) : PV.beq a b = false := by
  cases e : PV.beq a b with
  | false => rfl
  | true => exact absurd (beq_iff.mp e) h
theorem rl_look {k : PV} (hk : PV.keyOk k = true) (ht : PV.isTup k = false) : ∀ {kvs : List (PV × PV)} {ls : List (Leaf × Value)}, RL K ι H kvs ls →
    (∀ v, look k kvs = some v → ∃ u x, valueAt ls (keyL k) = some u ∧ RV K ι H v x ∧ RelV x u) ∧ (look k kvs = none → valueAt ls (keyL k) = none)
  | [], _, r => by
    cases (show _ = [] from r)
    exact ⟨fun v e => (by simp [VI.look] at e), fun _ => rfl⟩
  | (k', v') :: kvs, _, ⟨x, u, r, e, a, b, c, d, f⟩ => by
    subst e
    have ih := rl_look hk ht f
    by_cases q : k' = k
    · subst q
      have e1 : PV.beq k' k' = true := beq_iff.mpr rfl
      refine ⟨fun v e => ?_, fun e => ?_⟩
      · simp only [VI.look, e1, if_true, Option.some.injEq] at e
        subst e
        exact ⟨u, x, by simp [valueAt], c, d⟩
      · simp [VI.look, e1] at e
    · have e1 : PV.beq k' k = false := beq_no q
      have e2 : ¬ keyL k' = keyL k := fun z => q (keyL_inj a hk b ht z)
      simp only [VI.look, e1, Bool.false_eq_true, if_false]
      have e3 : valueAt ((keyL k', u) :: r) (keyL k) = valueAt r (keyL k) := by simp [valueAt, List.find?_cons, e2]
      rw [e3]
      exact ih
theorem rl_any {k : PV} (hk : PV.keyOk k = true) (ht : PV.isTup k = false) {kvs : List (PV × PV)} {ls : List (Leaf × Value)} (r : RL K ι H kvs ls) : (valueAt ls (keyL k)).isSome = (look k kvs).isSome := by
  have q := rl_look hk ht r
  cases e : VI.look k kvs with
  | none => rw [q.2 e] <;> rfl
  | some v =>
    obtain ⟨u, x, e', _⟩ := q.1 v e
    rw [e'] <;> rfl
theorem look_none_put {k v : PV} : ∀ {kvs : List (PV × PV)}, look k kvs = none → put k v kvs = kvs ++ [(k, v)]
  | [], _ => rfl
  | (k', v') :: r, e => by
    simp only [VI.look] at e
    by_cases q : PV.beq k' k = true
    · rw [if_pos q] at e
      cases e
    · rw [if_neg q] at e
      simp only [put, if_neg q, List.cons_append]
      rw [look_none_put e]
theorem rl_app : ∀ {a b : List (PV × PV)} {c d : List (Leaf × Value)}, RL K ι H a c → RL K ι H b d → RL K ι H (a ++ b) (c ++ d)
  | [], _, _, _, r, q => by cases (show _ = [] from r); exact q
  | _ :: _, _, _, _, ⟨v, u, r, e, x, y, z, t, f⟩, q => by
    subst e
    exact ⟨v, u, _, rfl, x, y, z, t, rl_app f q⟩
theorem rl_put {k v : PV} {x : V} {u : Value} (hk : PV.keyOk k = true) (ht : PV.isTup k = false) (rv : RV K ι H v x) (ru : RelV x u) : ∀ {kvs : List (PV × PV)} {ls : List (Leaf × Value)}, RL K ι H kvs ls → (ls.map (·.1)).Nodup → RL K ι H (put k v kvs) (stored ls (keyL k) u) := by
  intro kvs ls r nd
  by_cases hs : (look k kvs).isSome = true
  · have ha : (ls.any fun kv => decide (kv.1 = keyL k)) = true := by
      have e := rl_any hk ht r
      rw [hs] at e
      rw [List.any_eq_true]
      obtain ⟨y, hy⟩ := Option.isSome_iff_exists.mp e
      unfold valueAt at hy
      obtain ⟨p, hp, _⟩ := Option.map_eq_some_iff.mp hy
      exact ⟨p, List.mem_of_find?_eq_some hp, by simpa using List.find?_some hp⟩
    unfold stored
    rw [if_pos ha]
    clear ha
    induction kvs generalizing ls with
    | nil => simp [VI.look] at hs
    | cons p kvs ih =>
      obtain ⟨k', v'⟩ := p
      obtain ⟨x', u', r', e, a, b, c, d, f⟩ := r
      subst e
      rw [List.map_cons, List.nodup_cons] at nd
      by_cases q : k' = k
      · subst q
        have e1 : PV.beq k' k' = true := beq_iff.mpr rfl
        simp only [VI.put, e1, if_true, List.map_cons]
        refine ⟨x, u, r', ?_, a, b, rv, ru, f⟩
        rw [PySem.map_store_of_not_mem _ _ _ nd.1]
      · have e1 : PV.beq k' k = false := beq_no q
        have e2 : ¬ keyL k' = keyL k := fun z => q (keyL_inj a hk b ht z)
        simp only [VI.look, e1, Bool.false_eq_true, if_false] at hs
        simp only [VI.put, e1, Bool.false_eq_true, if_false, List.map_cons, if_neg e2]
        exact ⟨x', u', _, rfl, a, b, c, d, ih f nd.2 hs⟩
  · have hn : look k kvs = none := by
      cases e : VI.look k kvs with
      | none => rfl
      | some v => rw [e] at hs; simp at hs
    have ha : ¬ (ls.any fun kv => decide (kv.1 = keyL k)) = true := by
      intro z
      have e := (rl_look hk ht r).2 hn
      unfold valueAt at e
      rw [Option.map_eq_none_iff, List.find?_eq_none] at e
      obtain ⟨p, hp, q⟩ := List.any_eq_true.mp z
      exact e p hp q
    unfold stored
    rw [if_neg ha, look_none_put hn]
    exact rl_app r ⟨x, u, [], rfl, hk, ht, rv, ru, rfl⟩

theorem rn_look {k : PV} (hk : PV.keyOk k = true) : ∀ {kvs : List (PV × PV)} {ls : List (NestedKey × Addr × Value)}, RN K ι H kvs ls →
    (∀ v, look k kvs = some v → ∃ p x, atKey ls (keyN k) = some p ∧ RV K ι H v x ∧ RelV x p.2) ∧ (look k kvs = none → atKey ls (keyN k) = none)
  | [], _, r => by
    cases (show _ = [] from r)
    exact ⟨fun v e => (by simp [VI.look] at e), fun _ => rfl⟩
  | (k', v') :: kvs, _, ⟨aa, x, u, r, e, a, b, dd, ka, c, d, f⟩ => by
    subst e
    have ih := rn_look hk f
    by_cases q : k' = k
    · subst q
      have e1 : PV.beq k' k' = true := beq_iff.mpr rfl
      refine ⟨fun v e => ?_, fun e => ?_⟩
      · simp only [VI.look, e1, if_true, Option.some.injEq] at e
        subst e
        exact ⟨(aa, u), x, by simp [atKey], c, d⟩
      · simp [VI.look, e1] at e
    · have e1 : PV.beq k' k = false := beq_no q
      have e2 : ¬ keyN k' = keyN k := fun z => q (keyN_inj a hk z)
      simp only [VI.look, e1, Bool.false_eq_true, if_false]
      have e3 : atKey ((keyN k', aa, u) :: r) (keyN k) = atKey r (keyN k) := by simp [atKey, List.find?_cons, e2]
      rw [e3]
      exact ih
theorem rn_any {k : PV} (hk : PV.keyOk k = true) {kvs : List (PV × PV)} {ls : List (NestedKey × Addr × Value)} (r : RN K ι H kvs ls) : (atKey ls (keyN k)).isSome = (look k kvs).isSome := by
  have q := rn_look hk r
  cases e : VI.look k kvs with
  | none => rw [q.2 e] <;> rfl
  | some v =>
    obtain ⟨u, x, e', _⟩ := q.1 v e
    rw [e'] <;> rfl
theorem rn_app : ∀ {a b : List (PV × PV)} {c d : List (NestedKey × Addr × Value)}, RN K ι H a c → RN K ι H b d → RN K ι H (a ++ b) (c ++ d)
  | [], _, _, _, r, q => by cases (show _ = [] from r); exact q
  | _ :: _, _, _, _, ⟨aa, v, u, r, e, x, y, m, n, z, t, f⟩, q => by
    subst e
    exact ⟨aa, v, u, _, rfl, x, y, m, n, z, t, rn_app f q⟩
theorem rn_put {k v : PV} {x : V} {u : Value} {aa : Addr} (hk : PV.keyOk k = true) (ht : PV.isTup k = true) (hdp : PV.deep k ≤ 8) (rk : RV K ι H k (.ref aa)) (rv : RV K ι H v x) (ru : RelV x u) : ∀ {kvs : List (PV × PV)} {ls : List (NestedKey × Addr × Value)}, RN K ι H kvs ls → (ls.map (·.1)).Nodup →
    RN K ι H (put k v kvs) (storedH ls (keyN k) aa u) := by
  intro kvs ls r nd
  by_cases hs : (look k kvs).isSome = true
  · have ha : (atKey ls (keyN k)).isSome = true := (rn_any hk r).trans hs
    unfold storedH
    rw [if_pos ha]
    clear ha
    induction kvs generalizing ls with
    | nil => simp [VI.look] at hs
    | cons p kvs ih =>
      obtain ⟨k', v'⟩ := p
      obtain ⟨a', x', u', r', e, a, b, dd, ka, c, d, f⟩ := r
      subst e
      rw [List.map_cons, List.nodup_cons] at nd
      by_cases q : k' = k
      · subst q
        have e1 : PV.beq k' k' = true := beq_iff.mpr rfl
        simp only [VI.put, e1, if_true, List.map_cons]
        refine ⟨a', x, u, r', ?_, a, b, dd, ka, rv, ru, f⟩
        rw [PySem.map_putAt_of_not_mem _ _ _ nd.1]
        simp [putAt]
      · have e1 : PV.beq k' k = false := beq_no q
        have e2 : ¬ keyN k' = keyN k := fun z => q (keyN_inj a hk z)
        simp only [VI.look, e1, Bool.false_eq_true, if_false] at hs
        simp only [VI.put, e1, Bool.false_eq_true, if_false, List.map_cons]
        exact ⟨a', x', u', _, by simp [putAt, e2], a, b, dd, ka, c, d, ih f nd.2 hs⟩
  · have hn : look k kvs = none := by
      cases e : VI.look k kvs with
      | none => rfl
      | some v => rw [e] at hs; simp at hs
    have ha : ¬ (atKey ls (keyN k)).isSome = true := by
      rw [rn_any hk r]
      exact hs
    unfold storedH
    rw [if_neg ha, look_none_put hn]
    exact rn_app r ⟨aa, x, u, [], rfl, hk, ht, hdp, rk, rv, ru, rfl⟩
/-- taking out -/
theorem rl_no {k : PV} (hk : PV.keyOk k = true) (ht : PV.isTup k = false) : ∀ {kvs : List (PV × PV)} {ls : List (Leaf × Value)}, RL K ι H kvs ls → keyL k ∉ ls.map (·.1) → without ls (keyL k) = ls := by
  intro kvs ls _ h
  exact PySem.without_of_not_mem ls (keyL k) h
theorem rl_drop {k : PV} (hk : PV.keyOk k = true) (ht : PV.isTup k = false) : ∀ {kvs : List (PV × PV)} {ls : List (Leaf × Value)}, RL K ι H kvs ls → (ls.map (·.1)).Nodup → RL K ι H (drp k kvs) (without ls (keyL k))
  | [], _, r, _ => by
    cases (show _ = [] from r)
    rfl
  | (k', v') :: kvs, _, ⟨x, u, r, e, a, b, c, d, f⟩, nd => by
    subst e
    rw [List.map_cons, List.nodup_cons] at nd
    by_cases q : k' = k
    · subst q
      have e1 : PV.beq k' k' = true := beq_iff.mpr rfl
      simp only [drp, e1, if_true]
      have z : without ((keyL k', u) :: r) (keyL k') = r := by
        have := PySem.without_of_not_mem r (keyL k') nd.1
        unfold without at this ⊢
        rw [List.filter_cons]
        simpa using this
      rw [z]
      exact f
    · have e1 : PV.beq k' k = false := beq_no q
      have e2 : ¬ keyL k' = keyL k := fun z => q (keyL_inj a hk b ht z)
      simp only [drp, e1, Bool.false_eq_true, if_false]
      have z : without ((keyL k', u) :: r) (keyL k) = (keyL k', u) :: without r (keyL k) := by
        unfold without
        rw [List.filter_cons]
        simp [e2]
      rw [z]
      exact ⟨x, u, _, rfl, a, b, c, d, rl_drop hk ht f nd.2⟩
theorem rn_drop {k : PV} (hk : PV.keyOk k = true) : ∀ {kvs : List (PV × PV)} {ls : List (NestedKey × Addr × Value)}, RN K ι H kvs ls → (ls.map (·.1)).Nodup → RN K ι H (drp k kvs) (withoutH ls (keyN k))
  | [], _, r, _ => by
    cases (show _ = [] from r)
    rfl
  | (k', v') :: kvs, _, ⟨aa, x, u, r, e, a, b, dd, ka, c, d, f⟩, nd => by
    subst e
    rw [List.map_cons, List.nodup_cons] at nd
    by_cases q : k' = k
    · subst q
      have e1 : PV.beq k' k' = true := beq_iff.mpr rfl
      simp only [drp, e1, if_true]
      have z : withoutH ((keyN k', aa, u) :: r) (keyN k') = r := by
        have := PySem.withoutH_of_not_mem r (keyN k') nd.1
        unfold withoutH at this ⊢
        rw [List.filter_cons]
        simpa using this
      rw [z]
      exact f
    · have e1 : PV.beq k' k = false := beq_no q
      have e2 : ¬ keyN k' = keyN k := fun z => q (keyN_inj a hk z)
      simp only [drp, e1, Bool.false_eq_true, if_false]
      have z : withoutH ((keyN k', aa, u) :: r) (keyN k) = (keyN k', aa, u) :: withoutH r (keyN k) := by
        unfold withoutH
        rw [List.filter_cons]
        simp [e2]
      rw [z]
      exact ⟨aa, x, u, _, rfl, a, b, dd, ka, c, d, rn_drop hk f nd.2⟩
theorem rl_len : ∀ {kvs : List (PV × PV)} {ls : List (Leaf × Value)}, RL K ι H kvs ls → ls.length = kvs.length
  | [], _, r => by cases (show _ = [] from r); rfl
  | _ :: _, _, ⟨v, u, r, e, x, y, z, t, f⟩ => by subst e; simp [rl_len f]
theorem rn_len : ∀ {kvs : List (PV × PV)} {ls : List (NestedKey × Addr × Value)}, RN K ι H kvs ls → ls.length = kvs.length
  | [], _, r => by cases (show _ = [] from r); rfl
  | _ :: _, _, ⟨aa, v, u, r, e, x, y, m, n, z, t, f⟩ => by subst e; simp [rn_len f]

/-- keys that are tuples are told as such -/
structure NDict (P : Program) (w : World) (K : PySem.W.Frag) (ι : List Addr) (H : Hp) (kvs : List (PV × PV)) (o : Obj) (xs : List (NestedKey × Addr × Value)) : Prop where
  rn : RN K ι H kvs xs
  ex : ∃ es ep, o.ExactDict ∧ o.data = .dict es ep ∧ es.toList = xs.map (entryOfKey (nestedKind P w))
  nd : (xs.map (·.1)).Nodup
theorem keyFit_ok {kvs : List (PV × PV)} {k : PV} (h : keyFit kvs k = true) : PV.keyOk k = true ∧ PV.deep k ≤ 8 ∧ (kvs = [] ∨ ∃ k' v' r, kvs = (k', v') :: r ∧ PV.isTup k' = PV.isTup k) := by
  unfold keyFit at h
  simp only [Bool.and_eq_true] at h
  refine ⟨h.1, Nat.le_of_ble_eq_true h.2.1, ?_⟩
  cases kvs with
  | nil => exact .inl rfl
  | cons p r => exact .inr ⟨p.1, p.2, r, rfl, by simpa using h.2.2⟩
theorem rd_tup {P : Program} {w : World} {a : Addr} {kvs : List (PV × PV)} {o : Obj} {k : PV} (q : RD P w K ι H a kvs o) {hp : Heap} (ho : hp.get? a = some o) (hf : keyFit kvs k = true) (ht : PV.isTup k = true) : ∃ xs, NDict P w K ι H kvs o xs := by
  obtain ⟨_, _, q⟩ := q
  rcases q with ⟨ls, rl, hd⟩ | ⟨xs, es, ep, rn, e1, e2, e3, e4⟩
  · rcases (keyFit_ok hf).2.2 with e | ⟨k', v', r, e, et⟩
    · subst e
      cases (show ls = [] from rl)
      obtain ⟨o', es, ep, ho', ex, ed, _, pr, _⟩ := hd hp ho
      rw [ho] at ho'
      cases ho'
      refine ⟨[], rfl, ⟨es, ep, ex, ed, ?_⟩, List.nodup_nil⟩
      generalize es.toList = l at pr
      cases pr
      rfl
    · subst e
      obtain ⟨_, _, _, _, _, z, _⟩ := rl
      have z' : PV.isTup k' = false := z
      rw [et, ht] at z'
      cases z'
  · exact ⟨xs, rn, ⟨es, ep, e1, e2, e3⟩, e4⟩
theorem rd_leaf {P : Program} {w : World} {a : Addr} {kvs : List (PV × PV)} {o : Obj} {k : PV} (q : RD P w K ι H a kvs o) (hf : keyFit kvs k = true) (ht : PV.isTup k = false) : ∃ ls, RL K ι H kvs ls ∧ ∀ h : Heap, h.get? a = some o → h.DictOf (pKind P w) a ls := by
  obtain ⟨_, _, q⟩ := q
  rcases q with ⟨ls, rl, hd⟩ | ⟨xs, es, ep, rn, e1, e2, e3, e4⟩
  · exact ⟨ls, rl, hd⟩
  · rcases (keyFit_ok hf).2.2 with e | ⟨k', v', r, e, et⟩
    · subst e
      cases (show xs = [] from rn)
      have el : es = #[] := Array.toList_inj.mp e3
      subst el
      exact ⟨[], rfl, fun h ho => ⟨o, #[], ep, ho, e1, e2, fun _ he => by simp at he, .nil, List.nodup_nil⟩⟩
    · subst e
      obtain ⟨_, _, _, _, _, _, z, _⟩ := rn
      have z' : PV.isTup k' = true := z
      rw [et, ht] at z'
      cases z'
/-- where all keys are tuples, the dict as the library tells it -/
theorem NDict.of (I : Inv X pins σ H s) {a : Addr} {kvs : List (PV × PV)} {o : Obj} {xs : List (NestedKey × Addr × Value)} (q : NDict X.prog X.w X.K ι H kvs o xs) (ho : s.heap.get? a = some o) : s.heap.DictOfH (nestedKind X.prog X.w) a xs := by
  obtain ⟨es, ep, e1, e2, e3⟩ := q.ex
  refine ⟨o, es, ep, ho, e1, e2, e3, fun x hx => ?_, q.nd⟩
  have key : ∀ {kvs : List (PV × PV)} {xs : List (NestedKey × Addr × Value)}, RN X.K ι H kvs xs → ∀ x ∈ xs, (nestedKind X.prog X.w).is s.heap x.1 x.2.1 := by
    intro kvs
    induction kvs with
    | nil => intro xs r x hx; cases (show xs = [] from r); simp at hx
    | cons p kvs ih =>
      intro xs r x hx
      obtain ⟨aa, v, u, r', e, a1, a2, a3, a4, a5, a6, f⟩ := r
      subst e
      rcases List.mem_cons.mp hx with e | hx
      · subst e
        exact ⟨key_is I a1 a4 rfl, Nat.le_trans (keyN_depth _) a3⟩
      · exact ih f x hx
  exact key q.rn x hx
end
end
end VI
set_option autoImplicit false
set_option linter.all false
set_option Elab.async false
set_option maxRecDepth 100000
set_option maxHeartbeats 2000000
/-! VI over the hand layer: what dicts and lists do. -/
namespace VI
open PySem PySem.Spec PyProof.Rows L2
section
variable {X : Cx} {cls : Nat → Addr} {W1 : XW} {pins : List (Addr × Obj)} {σ : L2.St} {H H' : Hp} {s : Shared} {ι ι' : List Addr} {ρ : Rho} {h : VH}
/-- a written object is no tuple and not locked -/
theorem Kp.upd {a : Addr} {o u : HO} (e : H a = some o) (n1 : ∀ xs, o ≠ .tup xs) (n2 : ∀ ob v, o ≠ .frz ob v) : Kp H (upd H a u) where
  tup := fun b xs q => by
    by_cases hb : b = a
    · subst hb
      rw [e] at q
      exact absurd (Option.some.inj q) (n1 xs)
    · rw [upd_ne hb]; exact q
  frz := fun b ob v q => by
    by_cases hb : b = a
    · subst hb
      rw [e] at q
      exact absurd (Option.some.inj q) (n2 ob v)
    · rw [upd_ne hb]; exact q
/-- a dict's object -/
theorem dct_at (I : Inv X pins σ H s) {a : Addr} {kvs : List (PV × PV)} {lk : Bool} (q : RO X.prog X.w X.K cls ι H a (.dct kvs lk)) : ∃ o, s.heap.get? a = some o ∧ RD X.prog X.w X.K ι H a kvs o := by
  cases lk with
  | false =>
    obtain ⟨o, e, r⟩ := q
    exact ⟨o, (I.hok a _ e).1, r⟩
  | true =>
    obtain ⟨od, o, e, r⟩ := q
    exact ⟨o, (I.hok a _ e).2.1, r⟩
theorem ext_ok {a : Addr} {o : Obj} {hp : Heap} (e : hp.get? a = some o) : ObjOk X.prog X.w H hp a (.ext (Is a o)) := ⟨e, ⟨o, e⟩, fun h1 h2 q k => k o q⟩
theorem no_kc {n : Nat} {a : Addr} {o : VO} {K : PySem.W.Frag} (e : h[n]? = some o) (no : ∀ xs, o ≠ .lst xs true) : ¬ KC K h n a := fun ⟨xs, vs, e', _⟩ => by
  rw [e] at e'
  exact no xs (Option.some.inj e')
/-- the room that keys ask -/
theorem key_room (hu : X.A.units + 64 < cLine) : (nestedKind X.prog X.w).room X.A.in1 := by
  show X.A.units + 1 + 8 < cLine
  omega

/-! ### in -/
theorem v_in_dct (hu : X.A.units + 64 < cLine) {n : Nat} {kvs : List (PV × PV)} {lk : Bool} {p : PV} {x y : V} {v u : Value} {c : Bool} {Q : Bool → Hp → Prop} (I : Inv X pins σ H s) (R : Rx X cls ι h H) (e : h[n]? = some (.dct kvs lk)) (hf : keyFit kvs p = true) (rx : RV X.K ι H p x) (ry : RV X.K ι H (.ref n) y) (ev : RelV x v) (eu : RelV y u)
    (hq : Q (look p kvs).isSome H) : wpAny (model X.prog X.w) X.A (compareOp .In v u) (EP X pins σ fun z H1 => ∃ b, z = .bl b ∧ Q b H1) X.xe s := by
  obtain ⟨a, ea, rfl, ro⟩ := R.at e ry
  cases eu
  obtain ⟨o, ho, rd⟩ := dct_at I ro
  have hs : (a == sysModules) = false := rd.2.1
  have hk := (keyFit_ok hf).1
  have hd8 := (keyFit_ok hf).2.1
  cases ht : PV.isTup p with
  | true =>
    obtain ⟨xs, nd⟩ := rd_tup rd ho hf ht
    cases p with
    | tup ks =>
      obtain ⟨b, vs, rfl, hq', rv⟩ := id rx
      cases ev
      refine wpAny_in_heap (knd := nestedKind X.prog X.w) (k := keyN (.tup ks)) (key_room hu) ⟨key_is I hk rx rfl, Nat.le_trans (keyN_depth _) hd8⟩ hs (nd.of I ho) ?_
      rw [rn_any hk nd.rn]
      exact ⟨.bl _, H, I.tok _, rfl, _, rfl, hq⟩
    | _ => simp [PV.isTup] at ht
  | false =>
    obtain ⟨ls, rl, hd⟩ := rd_leaf rd hf ht
    refine wpAny_in_of (knd := pKind X.prog X.w) (k := keyL p) (leaf_is hk ht rx ev) hs (hd _ ho).mapOf ?_
    rw [rl_any hk ht rl]
    exact ⟨.bl _, H, I.tok _, rfl, _, rfl, hq⟩
theorem v_nin_dct (hu : X.A.units + 64 < cLine) {n : Nat} {kvs : List (PV × PV)} {lk : Bool} {p : PV} {x y : V} {v u : Value} {c : Bool} {Q : Bool → Hp → Prop} (I : Inv X pins σ H s) (R : Rx X cls ι h H) (e : h[n]? = some (.dct kvs lk)) (hf : keyFit kvs p = true) (rx : RV X.K ι H p x) (ry : RV X.K ι H (.ref n) y) (ev : RelV x v) (eu : RelV y u)
    (hq : Q (!(look p kvs).isSome) H) : wpAny (model X.prog X.w) X.A (compareOp .NotIn v u) (EP X pins σ fun z H1 => ∃ b, z = .bl b ∧ Q b H1) X.xe s := by
  obtain ⟨a, ea, rfl, ro⟩ := R.at e ry
  cases eu
  obtain ⟨o, ho, rd⟩ := dct_at I ro
  have hs : (a == sysModules) = false := rd.2.1
  have hk := (keyFit_ok hf).1
  have hd8 := (keyFit_ok hf).2.1
  cases ht : PV.isTup p with
  | true =>
    obtain ⟨xs, nd⟩ := rd_tup rd ho hf ht
    cases p with
    | tup ks =>
      obtain ⟨b, vs, rfl, hq', rv⟩ := id rx
      cases ev
      show wpAny _ _ (do return Value.bool (!(← contains (.ref a) (.ref b)))) _ _ s
      refine wpAny_bind (wpAny_contains_heap (knd := nestedKind X.prog X.w) (k := keyN (.tup ks)) (key_room hu) ⟨key_is I hk rx rfl, Nat.le_trans (keyN_depth _) hd8⟩ hs (nd.of I ho) (wpAny_pure ?_))
      rw [rn_any hk nd.rn]
      exact ⟨.bl _, H, I.tok _, rfl, _, rfl, hq⟩
    | _ => simp [PV.isTup] at ht
  | false =>
    obtain ⟨ls, rl, hd⟩ := rd_leaf rd hf ht
    refine wpAny_notIn_of (knd := pKind X.prog X.w) (k := keyL p) (leaf_is hk ht rx ev) hs (hd _ ho).mapOf ?_
    rw [rl_any hk ht rl]
    exact ⟨.bl _, H, I.tok _, rfl, _, rfl, hq⟩
/-- of lists and tuples: by their items as data -/
theorem v_in_seq (neg : Bool) (hu : X.A.units + 65 < cLine) {ps : List PV} {p : PV} {d : PD} {ds : List PD} {x y : V} {v u : Value} {Q : Bool → Hp → Prop} (I : Inv X pins σ H s) (R : Rx X cls ι h H) (hd : toD 60 h p = some d) (hds : mapO (fun x => toD 60 h x) ps = some ds) (rx : RV X.K ι H p x) (ev : RelV x v) (eu : RelV y u)
    (hy : (∃ a vs, y = .ref a ∧ SqL X.K H a vs ∧ RVs X.K ι H ps vs) ∨ ∃ a vs, y = .ref a ∧ SqT X.K H a vs ∧ RVs X.K ι H ps vs)
    (hq : Q (if neg then !(ds.any fun e => deq e d) else ds.any fun e => deq e d) H) : wpAny (model X.prog X.w) X.A (compareOp (if neg then .NotIn else .In) v u) (EP X pins σ fun z H1 => ∃ b, z = .bl b ∧ Q b H1) X.xe s := by
  have a := toD_ok R 60 p d x hd rx
  obtain ⟨as, r1⟩ := Dp.reads I _ x v a.dp ev
  have sd : SeqAt.shaped (conv d) = true := a.shaped (by decide)
  rcases hy with ⟨b, vs, rfl, hb, rv⟩ | ⟨b, vs, rfl, hb, rv⟩
  · have c := toDs_ok 60 R (fun p d x => toD_ok R 60 p d x) ps ds vs hds rv
    obtain ⟨bs, r2⟩ := Dp.reads I (.list (convs ds)) _ u (.lst hb c.dp) eu
    cases neg with
    | true => exact SeqAt.notIn_list_reads r2 r1 c.lay a.lay (room_in_shaped sd hu) ⟨.bl _, H, I, rfl, _, rfl, by rw [any_conv]; exact hq⟩
    | false => exact SeqAt.in_list_reads r2 r1 c.lay a.lay (room_in_shaped sd hu) ⟨.bl _, H, I, rfl, _, rfl, by rw [any_conv]; exact hq⟩
  · have c := toDs_ok 60 R (fun p d x => toD_ok R 60 p d x) ps ds vs hds rv
    obtain ⟨bs, r2⟩ := Dp.reads I (.tuple (convs ds)) _ u (.tup hb c.dp) eu
    cases neg with
    | true => exact SeqAt.notIn_tuple_reads r2 r1 c.lay a.lay (room_in_shaped sd hu) ⟨.bl _, H, I, rfl, _, rfl, by rw [any_conv]; exact hq⟩
    | false => exact SeqAt.in_tuple_reads r2 r1 c.lay a.lay (room_in_shaped sd hu) ⟨.bl _, H, I, rfl, _, rfl, by rw [any_conv]; exact hq⟩
theorem v_in (hu : X.A.units + 65 < cLine) : Op2B X cls (compareOp .In) (fun h => vCmp .inn h) := by
  intro W pins s σ H ι h p q x y v u Q I R rx ry ev eu hw
  have hw : Wx X cls (REq Bool) W (vIn h p q) ι H Q := hw
  cases q with
  | ref n =>
    simp only [vIn] at hw
    split at hw
    · rename_i xs lk e
      split at hw
      · rename_i d ds hd hds
        obtain ⟨a, ea, e1, ro⟩ := R.at e ry
        obtain ⟨vs, hq, rv⟩ := RO.list ro
        exact v_in_seq false hu I R hd hds rx ev eu (.inl ⟨a, vs, e1, hq, rv⟩) (Wx.bl hw R)
      · exact hw.elim
    · rename_i kvs lk e
      split at hw
      · rename_i hf
        exact v_in_dct (c := true) (by omega) I R e hf rx ry ev eu (Wx.bl hw R)
      · exact hw.elim
    · exact hw.elim
  | tup ys =>
    simp only [vIn] at hw
    split at hw
    · rename_i d ds hd hds
      obtain ⟨a, vs, e1, hq, rv⟩ := ry
      exact v_in_seq false hu I R hd hds rx ev eu (.inr ⟨a, vs, e1, hq, rv⟩) (Wx.bl hw R)
    · exact hw.elim
  | _ => exact False.elim hw
theorem v_nin (hu : X.A.units + 65 < cLine) : Op2B X cls (compareOp .NotIn) (fun h => vCmp .nin h) := by
  intro W pins s σ H ι h p q x y v u Q I R rx ry ev eu hw
  cases hr : vIn h p q with
  | no =>
    simp only [vCmp, hr] at hw
    exact hw.elim
  | ex c p' h' =>
    simp only [vCmp, hr] at hw
    exact hw.elim
  | ok b h' =>
    simp only [vCmp, hr] at hw
    cases q with
    | ref n =>
      simp only [vIn] at hr
      split at hr
      · rename_i xs lk e
        split at hr
        · rename_i d ds hd hds
          obtain ⟨a, ea, e1, ro⟩ := R.at e ry
          obtain ⟨vs, hq, rv⟩ := RO.list ro
          cases hr
          exact v_in_seq true hu I R hd hds rx ev eu (.inl ⟨a, vs, e1, hq, rv⟩) (Wx.bl hw R)
        · cases hr
      · rename_i kvs lk e
        split at hr
        · rename_i hf
          cases hr
          exact v_nin_dct (c := true) (by omega) I R e hf rx ry ev eu (Wx.bl hw R)
        · cases hr
      · cases hr
    | tup ys =>
      simp only [vIn] at hr
      split at hr
      · rename_i d ds hd hds
        cases hr
        obtain ⟨a, vs, e1, hq, rv⟩ := ry
        exact v_in_seq true hu I R hd hds rx ev eu (.inr ⟨a, vs, e1, hq, rv⟩) (Wx.bl hw R)
      · cases hr
    | _ => cases hr

/-! ### a[i] -/
/-- a subscript by values -/
def IxV (X : Cx) (cls : Nat → Addr) (vf : VH → PV → PV → Res PV) : Prop :=
  ∀ (value slice : Expr) (W : XW) (pins : List (Addr × Obj)) (s : Shared) (σ : L2.St) (H : Hp) (ι : List Addr) (h : VH) (p q : PV) (x y : V) (v u : Value) (Q : VK), Inv X pins σ H s → Rx X cls ι h H → RV X.K ι H p x → RV X.K ι H q y → RelV x v → RelV y u →
    subscripted slice false v u = operate [v, u] (getItem v u) → Wx X cls (RV X.K) W (vf h p q) ι H Q → wpAny (model X.prog X.w) X.A (subscriptTail value slice v u) (EP X pins σ Q) X.xe s
theorem ixAt_eq (n : Nat) (i : Int) : ixN n i = ixAt n i := rfl
theorem atI_of {ps : List PV} {vs : List V} {i : Int} {p : PV} (r : RVs X.K ι H ps vs) (e : ((ixAt ps.length i).bind fun k => ps[k]?) = some p) : ∃ x, atI vs i = some x ∧ RV X.K ι H p x := by
  obtain ⟨k, e1, e2⟩ := Option.bind_eq_some_iff.mp e
  obtain ⟨x, e3, rx⟩ := r.get e2
  refine ⟨x, ?_, rx⟩
  unfold atI
  rw [r.length, ixAt_eq, e1]
  exact e3
theorem v_ix (hu : X.A.units + 64 < cLine) : IxV X cls (fun h => vSub h) := by
  intro value slice W pins s σ H ι h p q x y v u Q I R rx ry ev eu hs hw
  cases p with
  | tup ps =>
    cases q with
    | int i =>
      simp only [vSub] at hw
      split at hw
      · rename_i z e
        obtain ⟨a, vs, e1, hq, rv⟩ := rx
        obtain ⟨x', e2, rx'⟩ := atI_of rv e
        exact ix_tup value slice pins s σ H x y v u Q I ev eu ⟨a, vs, i, x', e1, ry, hq, e2, hw.val R rx'⟩ hs
      · exact hw.elim
    | _ => exact False.elim hw
  | ref n =>
    simp only [vSub] at hw
    split at hw
    · rename_i xs lk e
      cases q with
      | int i =>
        simp only at hw
        split at hw
        · rename_i z e0
          obtain ⟨a, ea, e1, ro⟩ := R.at e rx
          obtain ⟨vs, hq, rv⟩ := RO.list ro
          obtain ⟨x', e2, rx'⟩ := atI_of rv e0
          exact ix_list value slice pins s σ H x y v u Q I ev eu ⟨a, vs, i, x', e1, ry, hq, e2, hw.val R rx'⟩ hs
        · exact hw.elim
      | _ => exact False.elim hw
    · rename_i kvs lk e
      by_cases hf : keyFit kvs q = true
      · rw [if_pos hf] at hw
        cases hl : look q kvs with
        | none => rw [hl] at hw; exact hw.elim
        | some z =>
          rw [hl] at hw
          obtain ⟨a, ea, rfl, ro⟩ := R.at e rx
          cases ev
          obtain ⟨o, ho, rd⟩ := dct_at I ro
          have hk := (keyFit_ok hf).1
          have hd8 := (keyFit_ok hf).2.1
          cases ht : PV.isTup q with
          | true =>
            obtain ⟨xs, nd⟩ := rd_tup rd ho hf ht
            obtain ⟨pr, x', e1, rx', eu'⟩ := (rn_look hk nd.rn).1 z hl
            have dd := nd.of I ho
            cases q with
            | tup ks =>
              obtain ⟨b, vs, rfl, hq', rv⟩ := id ry
              cases eu
              refine subscriptTail_builtinR (x := pr.2) dd.typeIs slot_dict_getitem.lookup ?_ hs
              exact wpAny_getItem_heap (Q := fun r s' => r = pr.2 ∧ EP X pins σ Q r s') (key_room hu) ⟨key_is I hk ry rfl, Nat.le_trans (keyN_depth _) hd8⟩ dd e1 ⟨rfl, x', H, I.tok _, eu', hw.val R rx'⟩
            | _ => simp [PV.isTup] at ht
          | false =>
            obtain ⟨ls, rl, hd⟩ := rd_leaf rd hf ht
            obtain ⟨uu, x', e1, rx', eu'⟩ := (rl_look hk ht rl).1 z hl
            have dd := hd _ ho
            refine subscriptTail_builtinR (x := uu) dd.typeIs slot_dict_getitem.lookup ?_ hs
            exact wpAny_getItem_of (Q := fun r s' => r = uu ∧ EP X pins σ Q r s') (leaf_is hk ht ry eu) dd.mapOf e1 ⟨rfl, x', H, I.tok _, eu', hw.val R rx'⟩
      · rw [if_neg hf] at hw
        exact hw.elim
    · exact hw.elim
  | _ => exact False.elim hw

/-! ### a[i] = v -/
/-- a store by values: the slots stay, the own heap is the one told -/
def SetV (X : Cx) (cls : Nat → Addr) : Prop :=
  ∀ (pins : List (Addr × Obj)) (s : Shared) (σ : L2.St) (H : Hp) (ι : List Addr) (h h' : VH) (p q r : PV) (x y z : V) (v u t : Value), Inv X pins σ H s → Rx X cls ι h H → RV X.K ι H p x → RV X.K ι H q y → RV X.K ι H r z → RelV x v → RelV y u → RelV z t →
    vSet h p q r = some h' → wpAny (model X.prog X.w) X.A (setItem v u t) (fun _ s' => ∃ H', Inv X pins σ H' s' ∧ Kp H H' ∧ Rx X cls ι h' H') X.xe s
theorem put_len (k v : PV) : ∀ kvs : List (PV × PV), (put k v kvs).length ≤ kvs.length + 1
  | [] => by simp [put]
  | (k', v') :: r => by
    simp only [put]
    split
    · simp
    · have := put_len k v r
      simp only [List.length_cons]
      omega
theorem v_set (hu : X.A.units + 64 < cLine) : SetV X cls := by
  intro pins s σ H ι h h' p q r x y z v u t I R rx ry rz ev eu et hset
  cases p with
  | ref n =>
    simp only [vSet] at hset
    split at hset
    · rename_i xs e
      cases q with
      | int i =>
        simp only at hset
        split at hset
        · rename_i k ek
          cases hset
          obtain ⟨a, ea, e1, vs, hq, rv⟩ := R.at e rx
          refine wpAny_mono (set_list pins s σ H x y z v u t (fun H' => H' = upd H a (.lst (vs.set k z))) I ev eu et ⟨a, vs, i, k, e1, ry, hq, by rw [rv.length]; exact ek, rfl⟩) (fun _ s' ⟨H', I', e'⟩ => ?_) fun _ _ q => q
          subst e'
          have kp : Kp H (upd H a (.lst (vs.set k z))) := .upd hq (fun _ e => by cases e) fun _ _ e => by cases e
          exact ⟨_, I', kp, R.write ea kp (no_kc e fun _ z => by cases z) (fun ys z => by rw [e] at z; cases z) ⟨_, upd_same, RVs.set (rz.mono (.refl _) kp) k (rv.mono (.refl _) kp)⟩⟩
        · cases hset
      | _ => cases hset
    · rename_i kvs e
      split at hset
      · rename_i hc
        cases hset
        rw [Bool.and_eq_true] at hc
        obtain ⟨hf, hz⟩ := hc
        have hz : kvs.length + 1 ≤ sizeLine := by rw [← size_max]; exact Nat.le_of_ble_eq_true hz
        obtain ⟨a, ea, rfl, o, hH, rd⟩ := R.at e rx
        cases ev
        have ho : s.heap.get? a = some o := (I.hok a _ hH).1
        have hk := (keyFit_ok hf).1
        have hd8 := (keyFit_ok hf).2.1
        -- behind the store
        have fin : ∀ (h2 : Heap) (o2 : Obj) (t2 : Nat), h2.get? a = some o2 → Heap.SameBut a s.heap h2 → (∀ {H2 : Hp}, Kp H H2 → RD X.prog X.w X.K ι H2 a (put q r kvs) o2) →
            ∃ H', Inv X pins σ H' { s with heap := h2, toks := t2 } ∧ Kp H H' ∧ Rx X cls ι (h.set n (.dct (put q r kvs) false)) H' := fun h2 o2 t2 e2 sb hrd => by
          have kp : Kp H (upd H a (.ext (Is a o2))) := .upd hH (fun _ e => by cases e) fun _ _ e => by cases e
          refine ⟨_, I.write (t' := t2) (by rw [hH]; trivial) (.inl rfl) (fun b ob hb q => (sb.2 b hb).trans q) ⟨o2, e2⟩ (ext_ok e2), kp, R.write ea kp (no_kc e fun _ z => by cases z) (fun ys z => by rw [e] at z; cases z) ⟨o2, upd_same, hrd kp⟩⟩
        cases ht : PV.isTup q with
        | true =>
          obtain ⟨xs, nd⟩ := rd_tup rd ho hf ht
          have dd := nd.of I ho
          cases q with
          | tup ks =>
            obtain ⟨b, vs, rfl, hq', rv⟩ := id ry
            cases eu
            refine wpAny_setItem_heap (knd := nestedKind X.prog X.w) (k := keyN (.tup ks)) (key_room hu) ⟨key_is I hk ry rfl, Nat.le_trans (keyN_depth _) hd8⟩ dd (fun h2 hm hs' => ?_) (by rw [rn_len nd.rn]; omega)
            obtain ⟨o2, es, ep, g1, g2, g3, g4, g5, g6⟩ := hm
            refine fin h2 o2 _ g1 hs' fun {H2} kp => ⟨Nat.le_trans (put_len _ _ _) hz, rd.2.1, .inr ⟨_, es, ep, ?_, g2, g3, g4, g6⟩⟩
            exact rn_put hk ht hd8 (ry.mono (.refl _) kp) (rz.mono (.refl _) kp) et (nd.rn.mono (.refl _) kp) nd.nd
          | _ => simp [PV.isTup] at ht
        | false =>
          obtain ⟨ls, rl, hd⟩ := rd_leaf rd hf ht
          have dd := hd _ ho
          have ndl : (ls.map (·.1)).Nodup := let ⟨_, _, _, _, _, _, _, _, z⟩ := dd; z
          refine wpAny_setItem_pairs (knd := pKind X.prog X.w) (k := keyL q) (leaf_is hk ht ry eu) dd (fun h2 hm hs' => ?_) (by rw [rl_len rl]; omega)
          obtain ⟨o2, es, ep, g1, g2⟩ := hm
          refine fin h2 o2 _ g1 hs' fun {H2} kp => ⟨Nat.le_trans (put_len _ _ _) hz, rd.2.1, .inl ⟨_, rl_put hk ht (rz.mono (.refl _) kp) et (rl.mono (.refl _) kp) ndl, fun hh ehh => ⟨o2, es, ep, ehh, g2⟩⟩⟩
      · cases hset
    · cases hset
  | _ => cases hset
end
end VI
set_option autoImplicit false
set_option linter.all false
set_option Elab.async false
set_option maxRecDepth 100000
set_option maxHeartbeats 2000000
/-! VI over the hand layer: comparisons, tests, subscripts. -/
namespace VI
open PySem PySem.Spec PyProof.Rows L2
section
variable {X : Cx} {cls : Nat → Addr} {W : L2.St → XW} {W1 : XW} {pins : List (Addr × Obj)} {σ : L2.St} {H H' : Hp} {s : Shared} {ι ι' : List Addr} {ρ : Rho} {h : VH}
theorem WR.mono {P : Program} {w : World} {K : PySem.W.Frag} {α β : Type} {RA : List Addr → Hp → α → β → Prop} {r : Res α} {Q Q' : β → Hp → Prop} (q : WR P w K cls RA W1 r ι H Q) (k : ∀ b H', Q b H' → Q' b H') : WR P w K cls RA W1 r ι H Q' := by
  cases r with
  | ok a h' => exact fun ι2 H2 b l2 k2 R2 ra => k _ _ (q ι2 H2 b l2 k2 R2 ra)
  | ex c p h' => exact q
  | no => exact q
theorem tE.mono {e : EX} {Q Q' : VK} (q : tE X cls W e σ H Q) (k : ∀ b H', Q b H' → Q' b H') : tE X cls W e σ H Q' := let ⟨ι, ρ, h, a, b, c⟩ := q; ⟨ι, ρ, h, a, b, c.mono k⟩
theorem tT.mono {e : TX} {Q Q' : Bool → Hp → Prop} (q : tT X cls W e σ H Q) (k : ∀ b H', Q b H' → Q' b H') : tT X cls W e σ H Q' := let ⟨ι, ρ, h, a, b, c⟩ := q; ⟨ι, ρ, h, a, b, c.mono k⟩
theorem tA.mono {e : AX} {Q Q' : List V → Hp → Prop} (q : tA X cls W e σ H Q) (k : ∀ b H', Q b H' → Q' b H') : tA X cls W e σ H Q' := let ⟨ι, ρ, h, a, b, c⟩ := q; ⟨ι, ρ, h, a, b, c.mono k⟩
/-- a part's reading, then what follows it -/
theorem tE_bind {ea : EX} {α β : Type} {RA : List Addr → Hp → α → β → Prop} {f : PV → VH → Res α} {Q : β → Hp → Prop} (hW : XMono (W σ)) (R : Rx X cls ι h H) (rr : RR X.K ι H ρ σ) (hw : Wx X cls RA (W σ) ((ea ρ h).bind f) ι H Q) :
    tE X cls W ea σ H fun x H1 => ∃ ι1 h1 p, Le ι ι1 ∧ Kp H H1 ∧ Rx X cls ι1 h1 H1 ∧ RR X.K ι1 H1 ρ σ ∧ RV X.K ι1 H1 p x ∧ Wx X cls RA (W σ) (f p h1) ι1 H1 Q := by
  refine ⟨ι, ρ, h, R, rr, ?_⟩
  cases hr : ea ρ h with
  | ok p h1 =>
    rw [hr] at hw
    exact fun ι1 H1 b l kp R1 rv => ⟨ι1, h1, p, l, kp, R1, rr.mono l kp, rv, WR.weak hW hw l kp⟩
  | ex c p h1 => rw [hr] at hw; exact hw
  | no => rw [hr] at hw; exact hw
theorem tT_bind {ea : TX} {α β : Type} {RA : List Addr → Hp → α → β → Prop} {f : Bool → VH → Res α} {Q : β → Hp → Prop} (hW : XMono (W σ)) (R : Rx X cls ι h H) (rr : RR X.K ι H ρ σ) (hw : Wx X cls RA (W σ) ((ea ρ h).bind f) ι H Q) :
    tT X cls W ea σ H fun b H1 => ∃ ι1 h1, Le ι ι1 ∧ Kp H H1 ∧ Rx X cls ι1 h1 H1 ∧ RR X.K ι1 H1 ρ σ ∧ Wx X cls RA (W σ) (f b h1) ι1 H1 Q := by
  refine ⟨ι, ρ, h, R, rr, ?_⟩
  cases hr : ea ρ h with
  | ok p h1 =>
    rw [hr] at hw
    exact fun ι1 H1 b l kp R1 rv => ⟨ι1, h1, l, kp, R1, rr.mono l kp, by cases rv; exact WR.weak hW hw l kp⟩
  | ex c p h1 => rw [hr] at hw; exact hw
  | no => rw [hr] at hw; exact hw
theorem tA_bind {ea : AX} {α β : Type} {RA : List Addr → Hp → α → β → Prop} {f : List PV → VH → Res α} {Q : β → Hp → Prop} (hW : XMono (W σ)) (R : Rx X cls ι h H) (rr : RR X.K ι H ρ σ) (hw : Wx X cls RA (W σ) ((ea ρ h).bind f) ι H Q) :
    tA X cls W ea σ H fun xs H1 => ∃ ι1 h1 ps, Le ι ι1 ∧ Kp H H1 ∧ Rx X cls ι1 h1 H1 ∧ RR X.K ι1 H1 ρ σ ∧ RVs X.K ι1 H1 ps xs ∧ Wx X cls RA (W σ) (f ps h1) ι1 H1 Q := by
  refine ⟨ι, ρ, h, R, rr, ?_⟩
  cases hr : ea ρ h with
  | ok p h1 =>
    rw [hr] at hw
    exact fun ι1 H1 b l kp R1 rv => ⟨ι1, h1, p, l, kp, R1, rr.mono l kp, rv, WR.weak hW hw l kp⟩
  | ex c p h1 => rw [hr] at hw; exact hw
  | no => rw [hr] at hw; exact hw

/-! ### operators as the layer's rules -/
def rB (X : Cx) (cls : Nat → Addr) (W : XW) (vf : VH → PV → PV → Res Bool) : R2 := fun x y H Q => ∃ ι h p q, Rx X cls ι h H ∧ RV X.K ι H p x ∧ RV X.K ι H q y ∧ Wx X cls (REq Bool) W (vf h p q) ι H fun b H' => Q (.bl b) H'
theorem opB {f : Value → Value → Sem Value} {vf : VH → PV → PV → Res Bool} (ho : Op2B X cls f vf) : OpR X f (rB X cls W1 vf) := by
  intro pins s σ H x y v u Q I rx ry ⟨ι, h, p, q, R, r1, r2, hw⟩
  exact wpAny_mono (ho W1 pins s σ H ι h p q x y v u (fun b H' => Q (.bl b) H') I R r1 r2 rx ry hw) (fun r s' ⟨z, H1, I1, e, b, eb, q⟩ => ⟨z, H1, I1, e, by rw [eb]; exact q⟩) fun _ _ q => q
section
variable {a b c : Expr} {ea eb ec : EX} {pos : Pos} {op op' : CmpOp} {vf vf' : VH → PV → PV → Res Bool}
/-- the wish at a state -/
theorem ve_cmp (hW : ∀ σ, XMono (W σ)) (ho : Op2B X cls (compareOp op) vf) (ha : PE X a (tE X cls W ea)) (hb : PE X b (tE X cls W eb)) (hm : behindInMarks op b = false) :
    PE X (.Compare a [op] [b] pos) (tE X cls W fun r h => (ea r h).bind fun x h1 => (eb r h1).bind fun y h2 => (vf h2 x y).bind fun k h3 => .ok (.bl k) h3) := by
  refine ⟨fun pins s σ H Q I ⟨ι, ρ, h, R, rr, hw⟩ => ?_⟩
  refine (pe_cmpR (opB (W1 := W σ) ho) ha hb hm).run pins s σ H Q I ?_
  refine (tE_bind (hW σ) R rr hw).mono fun x H1 ⟨ι1, h1, p, l1, k1, R1, rr1, rv1, hw1⟩ => ?_
  refine (tE_bind (hW σ) R1 rr1 hw1).mono fun y H2 ⟨ι2, h2, q, l2, k2, R2, rr2, rv2, hw2⟩ => ?_
  refine ⟨ι2, h2, p, q, R2, rv1.mono l2 k2, rv2, ?_⟩
  cases hr : vf h2 p q with
  | ok k h3 =>
    rw [hr] at hw2
    exact fun ι3 H3 z l3 k3 R3 e => by cases e; exact hw2 ι3 H3 _ l3 k3 R3 rfl
  | ex c p h1 => rw [hr] at hw2; exact hw2
  | no => rw [hr] at hw2; exact hw2
theorem vt_cmp (hW : ∀ σ, XMono (W σ)) (ho : Op2B X cls (compareOp op) vf) (ha : PE X a (tE X cls W ea)) (hb : PE X b (tE X cls W eb)) (hm : behindInMarks op b = false) :
    PT X (.Compare a [op] [b] pos) (tT X cls W fun r h => (ea r h).bind fun x h1 => (eb r h1).bind fun y h2 => vf h2 x y) := by
  refine ⟨fun pins s σ H Q I ⟨ι, ρ, h, R, rr, hw⟩ => ?_⟩
  refine (pt_cmpR (opB (W1 := W σ) ho) ha hb hm).run pins s σ H Q I ?_
  refine (tE_bind (hW σ) R rr hw).mono fun x H1 ⟨ι1, h1, p, l1, k1, R1, rr1, rv1, hw1⟩ => ?_
  refine (tE_bind (hW σ) R1 rr1 hw1).mono fun y H2 ⟨ι2, h2, q, l2, k2, R2, rr2, rv2, hw2⟩ => ?_
  exact ⟨ι2, h2, p, q, R2, rv1.mono l2 k2, rv2, hw2.mono fun b H' q => ⟨b, rfl, q⟩⟩
theorem ve_chn (hW : ∀ σ, XMono (W σ)) (ho : Op2B X cls (compareOp op) vf) (ho' : Op2B X cls (compareOp op') vf') (ha : PE X a (tE X cls W ea)) (hb : PE X b (tE X cls W eb)) (hc : PE X c (tE X cls W ec)) (hm : lastMarks [op, op'] [b, c] = false) :
    PE X (.Compare a [op, op'] [b, c] pos) (tE X cls W fun r h => (ea r h).bind fun x h1 => (eb r h1).bind fun y h2 => (vf h2 x y).bind fun k h3 => match k with
      | false => .ok (.bl false) h3
      | true => (ec r h3).bind fun z h4 => (vf' h4 y z).bind fun d h5 => .ok (.bl d) h5) := by
  refine ⟨fun pins s σ H Q I ⟨ι, ρ, h, R, rr, hw⟩ => ?_⟩
  refine (pe_chain (opB (W1 := W σ) ho) (opB (W1 := W σ) ho') ha hb hc hm).run pins s σ H Q I ?_
  refine (tE_bind (hW σ) R rr hw).mono fun x H1 ⟨ι1, h1, p, l1, k1, R1, rr1, rv1, hw1⟩ => ?_
  refine (tE_bind (hW σ) R1 rr1 hw1).mono fun y H2 ⟨ι2, h2, q, l2, k2, R2, rr2, rv2, hw2⟩ => ?_
  refine ⟨ι2, h2, p, q, R2, rv1.mono l2 k2, rv2, ?_⟩
  cases hr : vf h2 p q with
  | ex c p h1 => rw [hr] at hw2; exact hw2
  | no => rw [hr] at hw2; exact hw2
  | ok k h3 =>
    rw [hr] at hw2
    refine fun ι3 H3 z l3 k3 R3 e => ?_
    cases e
    have hw3 := WR.weak (hW σ) hw2 l3 k3
    cases k with
    | false => exact ⟨false, rfl, by rw [if_neg Bool.false_ne_true]; exact Wx.val hw3 R3 rfl⟩
    | true =>
      refine ⟨true, rfl, ?_⟩
      rw [if_pos rfl]
      refine (tE_bind (hW σ) R3 (rr2.mono l3 k3) hw3).mono fun z H4 ⟨ι4, h4, q4, l4, k4, R4, rr4, rv4, hw4⟩ => ?_
      refine ⟨ι4, h4, q, q4, R4, (rv2.mono l3 k3).mono l4 k4, rv4, ?_⟩
      cases hr' : vf' h4 q q4 with
      | ok k h5 =>
        rw [hr'] at hw4
        exact fun ι5 H5 z l5 k5 R5 e => by cases e; exact hw4 ι5 H5 _ l5 k5 R5 rfl
      | ex c p h1 => rw [hr'] at hw4; exact hw4
      | no => rw [hr'] at hw4; exact hw4
theorem vt_chn (hW : ∀ σ, XMono (W σ)) (ho : Op2B X cls (compareOp op) vf) (ho' : Op2B X cls (compareOp op') vf') (ha : PE X a (tE X cls W ea)) (hb : PE X b (tE X cls W eb)) (hc : PE X c (tE X cls W ec)) (hm : lastMarks [op, op'] [b, c] = false) :
    PT X (.Compare a [op, op'] [b, c] pos) (tT X cls W fun r h => (ea r h).bind fun x h1 => (eb r h1).bind fun y h2 => (vf h2 x y).bind fun k h3 => match k with
      | false => .ok false h3
      | true => (ec r h3).bind fun z h4 => vf' h4 y z) := by
  refine ⟨fun pins s σ H Q I ⟨ι, ρ, h, R, rr, hw⟩ => ?_⟩
  refine (pt_chain (opB (W1 := W σ) ho) (opB (W1 := W σ) ho') ha hb hc hm).run pins s σ H Q I ?_
  refine (tE_bind (hW σ) R rr hw).mono fun x H1 ⟨ι1, h1, p, l1, k1, R1, rr1, rv1, hw1⟩ => ?_
  refine (tE_bind (hW σ) R1 rr1 hw1).mono fun y H2 ⟨ι2, h2, q, l2, k2, R2, rr2, rv2, hw2⟩ => ?_
  refine ⟨ι2, h2, p, q, R2, rv1.mono l2 k2, rv2, ?_⟩
  cases hr : vf h2 p q with
  | ex c p h1 => rw [hr] at hw2; exact hw2
  | no => rw [hr] at hw2; exact hw2
  | ok k h3 =>
    rw [hr] at hw2
    refine fun ι3 H3 z l3 k3 R3 e => ?_
    cases e
    have hw3 := WR.weak (hW σ) hw2 l3 k3
    cases k with
    | false => exact ⟨false, rfl, by rw [if_neg Bool.false_ne_true]; exact ⟨false, rfl, Wx.bl hw3 R3⟩⟩
    | true =>
      refine ⟨true, rfl, ?_⟩
      rw [if_pos rfl]
      refine (tE_bind (hW σ) R3 (rr2.mono l3 k3) hw3).mono fun z H4 ⟨ι4, h4, q4, l4, k4, R4, rr4, rv4, hw4⟩ => ?_
      exact ⟨ι4, h4, q, q4, R4, (rv2.mono l3 k3).mono l4 k4, rv4, hw4.mono fun b H' q => ⟨b, rfl, q⟩⟩
end

/-! ### and, or, not, a if t else b -/
section
variable {a b c : Expr} {ea eb ec : EX} {ta tb : TX} {pos : Pos} {rest : List Expr}
theorem ve_and (hW : ∀ σ, XMono (W σ)) (ha : PE X a (tE X cls W ea)) (hb : PE X (.BoolOp .And (b :: rest) pos) (tE X cls W eb)) :
    PE X (.BoolOp .And (a :: b :: rest) pos) (tE X cls W fun r h => (ea r h).bind fun x h1 => (match x with
      | .bl true => eb r h1
      | .bl false => .ok (.bl false) h1
      | _ => .no)) := by
  refine ⟨fun pins s σ H Q I ⟨ι, ρ, h, R, rr, hw⟩ => ?_⟩
  refine (pe_and ha hb).run pins s σ H Q I ?_
  refine (tE_bind (hW σ) R rr hw).mono fun x H1 ⟨ι1, h1, p, l1, k1, R1, rr1, rv1, hw1⟩ => ?_
  cases p with
  | bl c =>
    cases c with
    | true => exact ⟨true, rv1, by rw [if_pos rfl]; exact ⟨ι1, ρ, h1, R1, rr1, hw1⟩⟩
    | false => exact ⟨false, rv1, by rw [if_neg Bool.false_ne_true]; exact hw1.val R1 rfl⟩
  | _ => exact False.elim hw1
theorem ve_or (hW : ∀ σ, XMono (W σ)) (ha : PE X a (tE X cls W ea)) (hb : PE X (.BoolOp .Or (b :: rest) pos) (tE X cls W eb)) :
    PE X (.BoolOp .Or (a :: b :: rest) pos) (tE X cls W fun r h => (ea r h).bind fun x h1 => (match x with
      | .bl true => .ok (.bl true) h1
      | .bl false => eb r h1
      | _ => .no)) := by
  refine ⟨fun pins s σ H Q I ⟨ι, ρ, h, R, rr, hw⟩ => ?_⟩
  refine (pe_or ha hb).run pins s σ H Q I ?_
  refine (tE_bind (hW σ) R rr hw).mono fun x H1 ⟨ι1, h1, p, l1, k1, R1, rr1, rv1, hw1⟩ => ?_
  cases p with
  | bl c =>
    cases c with
    | true => exact ⟨true, rv1, by rw [if_pos rfl]; exact hw1.val R1 rfl⟩
    | false => exact ⟨false, rv1, by rw [if_neg Bool.false_ne_true]; exact ⟨ι1, ρ, h1, R1, rr1, hw1⟩⟩
  | _ => exact False.elim hw1
theorem ve_not (hW : ∀ σ, XMono (W σ)) (ha : PE X a (tE X cls W ea)) :
    PE X (.UnaryOp .Not a pos) (tE X cls W fun r h => (ea r h).bind fun x h1 => (match x with
      | .bl c => .ok (.bl (!c)) h1
      | _ => .no)) := by
  refine ⟨fun pins s σ H Q I ⟨ι, ρ, h, R, rr, hw⟩ => ?_⟩
  refine (pe_not ha).run pins s σ H Q I ?_
  refine (tE_bind (hW σ) R rr hw).mono fun x H1 ⟨ι1, h1, p, l1, k1, R1, rr1, rv1, hw1⟩ => ?_
  cases p with
  | bl c => exact ⟨c, rv1, hw1.val R1 rfl⟩
  | _ => exact False.elim hw1
theorem ve_ife (hW : ∀ σ, XMono (W σ)) (hc : PT X c (tT X cls W ta)) (ha : PE X a (tE X cls W ea)) (hb : PE X b (tE X cls W eb)) :
    PE X (.IfExp c a b pos) (tE X cls W fun r h => (ta r h).bind fun k h1 => (match k with
      | true => ea r h1
      | false => eb r h1)) := by
  refine ⟨fun pins s σ H Q I ⟨ι, ρ, h, R, rr, hw⟩ => ?_⟩
  refine (pe_ifExp hc ha hb).run pins s σ H Q I ?_
  refine (tT_bind (hW σ) R rr hw).mono fun k H1 ⟨ι1, h1, l1, k1, R1, rr1, hw1⟩ => ?_
  cases k with
  | true => rw [if_pos rfl]; exact ⟨ι1, ρ, h1, R1, rr1, hw1⟩
  | false => rw [if_neg Bool.false_ne_true]; exact ⟨ι1, ρ, h1, R1, rr1, hw1⟩
theorem vt_and (hW : ∀ σ, XMono (W σ)) (ha : PT X a (tT X cls W ta)) (hb : PW X (.BoolOp .And (b :: rest) pos) (tT X cls W tb)) :
    PW X (.BoolOp .And (a :: b :: rest) pos) (tT X cls W fun r h => (ta r h).bind fun c h1 => (match c with
      | true => tb r h1
      | false => .ok false h1)) := by
  refine ⟨fun wh pins s σ H Q I ⟨ι, ρ, h, R, rr, hw⟩ => ?_⟩
  refine (pw_and ha hb).run wh pins s σ H Q I ?_
  refine (tT_bind (hW σ) R rr hw).mono fun k H1 ⟨ι1, h1, l1, k1, R1, rr1, hw1⟩ => ?_
  cases k with
  | true => rw [if_pos rfl]; exact ⟨ι1, ρ, h1, R1, rr1, hw1⟩
  | false => rw [if_neg Bool.false_ne_true]; exact Wx.bl hw1 R1
theorem vt_or (hW : ∀ σ, XMono (W σ)) (ha : PT X a (tT X cls W ta)) (hb : PW X (.BoolOp .Or (b :: rest) pos) (tT X cls W tb)) :
    PW X (.BoolOp .Or (a :: b :: rest) pos) (tT X cls W fun r h => (ta r h).bind fun c h1 => (match c with
      | true => .ok true h1
      | false => tb r h1)) := by
  refine ⟨fun wh pins s σ H Q I ⟨ι, ρ, h, R, rr, hw⟩ => ?_⟩
  refine (pw_or ha hb).run wh pins s σ H Q I ?_
  refine (tT_bind (hW σ) R rr hw).mono fun k H1 ⟨ι1, h1, l1, k1, R1, rr1, hw1⟩ => ?_
  cases k with
  | true => rw [if_pos rfl]; exact Wx.bl hw1 R1
  | false => rw [if_neg Bool.false_ne_true]; exact ⟨ι1, ρ, h1, R1, rr1, hw1⟩
theorem vt_not (hW : ∀ σ, XMono (W σ)) (ha : PT X a (tT X cls W ta)) :
    PT X (.UnaryOp .Not a pos) (tT X cls W fun r h => (ta r h).bind fun c h1 => .ok (!c) h1) := by
  refine ⟨fun pins s σ H Q I ⟨ι, ρ, h, R, rr, hw⟩ => ?_⟩
  refine (pt_not ha).run pins s σ H Q I ?_
  exact (tT_bind (hW σ) R rr hw).mono fun k H1 ⟨ι1, h1, l1, k1, R1, rr1, hw1⟩ => Wx.bl hw1 R1
theorem vt_val {e : Expr} (hW : ∀ σ, XMono (W σ)) (he : PE X e (tE X cls W ea)) (hs : ∀ whole, isTrue e X.env whole = (do let v ← whole; standAt e.pos; holding [v] (truthy v))) :
    PT X e (tT X cls W fun r h => (ea r h).bind fun x h1 => (match x with
      | .bl c => .ok c h1
      | _ => .no)) := by
  refine ⟨fun pins s σ H Q I ⟨ι, ρ, h, R, rr, hw⟩ => ?_⟩
  refine (pt_val he hs).run pins s σ H Q I ?_
  refine (tE_bind (hW σ) R rr hw).mono fun x H1 ⟨ι1, h1, p, l1, k1, R1, rr1, rv1, hw1⟩ => ?_
  cases p with
  | bl c => exact ⟨c, rv1, Wx.bl hw1 R1⟩
  | _ => exact False.elim hw1
theorem ve_neg (hW : ∀ σ, XMono (W σ)) (ha : PE X a (tE X cls W ea)) :
    PE X (.UnaryOp .USub a pos) (tE X cls W fun r h => (ea r h).bind fun x h1 => (match x with
      | .int i => .ok (.int (-i)) h1
      | _ => .no)) := by
  refine ⟨fun pins s σ H Q I ⟨ι, ρ, h, R, rr, hw⟩ => ?_⟩
  refine (pe_un un_neg ha).run pins s σ H Q I ?_
  refine (tE_bind (hW σ) R rr hw).mono fun x H1 ⟨ι1, h1, p, l1, k1, R1, rr1, rv1, hw1⟩ => ?_
  cases p with
  | int c => exact ⟨c, rv1, hw1.val R1 rfl⟩
  | _ => exact False.elim hw1
end

/-! ### cuts -/
theorem cut_rel {K : PySem.W.Frag} {ps : List PV} {vs : List V} (r : RVs K ι H ps vs) (lo hi : Option Int) : RVs K ι H (cut ps lo hi) (cutV vs lo hi) := by
  unfold cut cutV
  have e : ∀ n d o, HT.sIx n d o = cutAt n d o := fun n d o => by cases o <;> rfl
  rw [r.length, e, e]
  exact (r.drop _).take _
theorem sl_any : SlR X (fun x lo hi H Q => (∃ a xs, x = .ref a ∧ SqL X.K H a xs ∧ ∀ p, H p = none → Q (.ref p) (upd H p (.lst (cutV xs lo hi)))) ∨ rSlT X.K x lo hi H Q) := sl_list.or sl_tup
end
end VI
set_option autoImplicit false
set_option linter.all false
set_option Elab.async false
set_option maxRecDepth 100000
set_option maxHeartbeats 2000000
/-! VI over the hand layer: subscripts, cuts, attributes, built-in functions. -/
namespace VI
open PySem PySem.Spec PyProof.Rows L2
section
variable {X : Cx} {cls : Nat → Addr} {W : L2.St → XW} {W1 : XW} {pins : List (Addr × Obj)} {σ : L2.St} {H H' : Hp} {s : Shared} {ι ι' : List Addr} {ρ : Rho} {h : VH}
section
variable {a b c : Expr} {ea eb ec : EX} {pos : Pos}
theorem ve_ix {vf : VH → PV → PV → Res PV} (hW : ∀ σ, XMono (W σ)) (ho : IxV X cls vf) (ha : PE X a (tE X cls W ea)) (hb : PE X b (tE X cls W eb)) (hs : PlainIx b) :
    PE X (.Subscript a b pos) (tE X cls W fun r h => (ea r h).bind fun x h1 => (eb r h1).bind fun y h2 => vf h2 x y) := by
  refine ⟨fun pins s σ H Q I ⟨ι, ρ, h, R, rr, hw⟩ => ?_⟩
  refine Subscript_ (runE (hW σ) ha I R rr hw fun v s1 ι1 h1 H1 p x I1 l1 k1 R1 rr1 rv e1 hw1 => ?_)
  refine runE (hW σ) hb I1 R1 rr1 hw1 fun u s2 ι2 h2 H2 q y I2 l2 k2 R2 rr2 rq e2 hw2 => ?_
  exact ho a b (W σ) pins s2 σ H2 ι2 h2 p q x y v u Q I2 R2 (rv.mono l2 k2) rq e1 e2 (hs _ _) hw2
/-- ends of a cut -/
abbrev OX := Rho → VH → Res (Option Int)
def tO (X : Cx) (cls : Nat → Addr) (W : L2.St → XW) (e : OX) : TO := fun σ H Q => ∃ ι ρ h, Rx X cls ι h H ∧ RR X.K ι H ρ σ ∧ Wx X cls (REq (Option Int)) (W σ) (e ρ h) ι H Q
theorem vo_none : PO X none (tO X cls W fun _ h => .ok none h) :=
  ⟨fun pins s σ H Q I ⟨ι, ρ, h, R, rr, hw⟩ => po_none.run pins s σ H Q I (hw ι H none (.refl _) (.refl _) R rfl)⟩
theorem vo_some (hW : ∀ σ, XMono (W σ)) (ha : PE X a (tE X cls W ea)) : PO X (some a) (tO X cls W fun r h => (ea r h).bind fun x h1 => (match x with
      | .int i => .ok (some i) h1
      | _ => .no)) := by
  refine ⟨fun pins s σ H Q I ⟨ι, ρ, h, R, rr, hw⟩ => ?_⟩
  refine (po_some ha).run pins s σ H Q I ?_
  refine (tE_bind (hW σ) R rr hw).mono fun x H1 ⟨ι1, h1, p, l1, k1, R1, rr1, rv1, hw1⟩ => ?_
  cases p with
  | int c => exact ⟨c, rv1, hw1 ι1 H1 _ (.refl _) (.refl _) R1 rfl⟩
  | _ => exact False.elim hw1
theorem tO_bind {eo : OX} {α β : Type} {RA : List Addr → Hp → α → β → Prop} {f : Option Int → VH → Res α} {Q : β → Hp → Prop} (hW : XMono (W σ)) (R : Rx X cls ι h H) (rr : RR X.K ι H ρ σ) (hw : Wx X cls RA (W σ) ((eo ρ h).bind f) ι H Q) :
    tO X cls W eo σ H fun o H1 => ∃ ι1 h1, Le ι ι1 ∧ Kp H H1 ∧ Rx X cls ι1 h1 H1 ∧ RR X.K ι1 H1 ρ σ ∧ Wx X cls RA (W σ) (f o h1) ι1 H1 Q := by
  refine ⟨ι, ρ, h, R, rr, ?_⟩
  cases hr : eo ρ h with
  | ok p h1 =>
    rw [hr] at hw
    exact fun ι1 H1 b l kp R1 rv => ⟨ι1, h1, l, kp, R1, rr.mono l kp, by cases rv; exact WR.weak hW hw l kp⟩
  | ex c p h1 => rw [hr] at hw; exact hw
  | no => rw [hr] at hw; exact hw
theorem tO.mono {e : OX} {Q Q' : Option Int → Hp → Prop} (q : tO X cls W e σ H Q) (k : ∀ b H', Q b H' → Q' b H') : tO X cls W e σ H Q' := let ⟨ι, ρ, h, a, b, c⟩ := q; ⟨ι, ρ, h, a, b, c.mono k⟩
theorem ve_slc {lo hi : Option Expr} {el eh : OX} {p2 : Pos} (hW : ∀ σ, XMono (W σ)) (ha : PE X a (tE X cls W ea)) (hl : PO X lo (tO X cls W el)) (hh : PO X hi (tO X cls W eh)) :
    PE X (.Subscript a (.Slice lo hi none p2) pos) (tE X cls W fun r h => (ea r h).bind fun x h1 => (el r h1).bind fun i h2 => (eh r h2).bind fun j h3 => vCut h3 x i j) := by
  refine ⟨fun pins s σ H Q I ⟨ι, ρ, h, R, rr, hw⟩ => ?_⟩
  refine (pe_slice (sl_list.or sl_tupA) ha hl hh).run pins s σ H Q I ?_
  refine (tE_bind (hW σ) R rr hw).mono fun x H1 ⟨ι1, h1, p, l1, k1, R1, rr1, rv1, hw1⟩ => ?_
  refine (tO_bind (hW σ) R1 rr1 hw1).mono fun i H2 ⟨ι2, h2, l2, k2, R2, rr2, hw2⟩ => ?_
  refine (tO_bind (hW σ) R2 rr2 hw2).mono fun j H3 ⟨ι3, h3, l3, k3, R3, rr3, hw3⟩ => ?_
  have rv3 := (rv1.mono l2 k2).mono l3 k3
  cases p with
  | ref n =>
    simp only [vCut] at hw3
    split at hw3
    · rename_i xs lk e
      obtain ⟨a, ea, e1, ro⟩ := R3.at e rv3
      obtain ⟨vs, hq, rv⟩ := RO.list ro
      exact .inl ⟨a, vs, e1, hq, (hw3.newL R3 (cut_rel rv i j)).2⟩
    · exact hw3.elim
  | tup xs =>
    obtain ⟨a, vs, e1, hq, rv⟩ := rv3
    have cr := cut_rel rv i j
    refine .inr ⟨a, vs, e1, hq, fun ⟨z1, z2⟩ => ?_, fun _ p np => ?_⟩
    · have e : cutV vs i j = vs := by
        unfold cutV
        rw [z1, z2, List.drop_zero, Nat.sub_zero, List.take_length]
      rw [e] at cr
      exact Wx.val hw3 R3 ⟨a, vs, rfl, hq, cr⟩
    · have sm := same_upd (o := HO.tup (cutV vs i j)) np
      exact hw3 ι3 _ (.ref p) (.refl _) (.same sm) (R3.same sm) ⟨p, _, rfl, .of upd_same, cr.mono (.refl _) (.same sm)⟩
  | _ => exact False.elim hw3
theorem ve_rvs {k : Nat} {p1 p2 p3 : Pos} (hW : ∀ σ, XMono (W σ)) (ha : PE X a (tE X cls W ea)) :
    PE X (.Subscript a (.Slice none none (some (.UnaryOp .USub (.Constant (.int 1) k p1) p2)) p3) pos) (tE X cls W fun r h => (ea r h).bind fun x h1 => match x with
      | .ref n => vRev h1 (.ref n)
      | _ => .no) := by
  refine ⟨fun pins s σ H Q I ⟨ι, ρ, h, R, rr, hw⟩ => ?_⟩
  refine (pe_revL ha).run pins s σ H Q I ?_
  refine (tE_bind (hW σ) R rr hw).mono fun x H1 ⟨ι1, h1, p, l1, k1, R1, rr1, rv1, hw1⟩ => ?_
  cases p with
  | ref n =>
    simp only [vRev] at hw1
    split at hw1
    · rename_i xs lk e
      obtain ⟨a, ea, e1, ro⟩ := R1.at e rv1
      obtain ⟨vs, hq, rv⟩ := RO.list ro
      exact ⟨a, vs, e1, hq, (hw1.newL R1 rv.reverse).2⟩
    · exact hw1.elim
  | _ => exact False.elim hw1

/-! ### attributes -/
theorem fget_rel {K : PySem.W.Frag} {f : Str} {v : PV} : ∀ {fs : List (Str × PV)} {vs : List (Str × V)}, RFs K ι H fs vs → fget f fs = some v → ∃ x, vs.lookup f = some x ∧ RV K ι H v x
  | [], _, _, e => by simp [fget] at e
  | (g, w) :: fs, _, ⟨x, r, e1, rx, rr⟩, e => by
    subst e1
    by_cases q : g = f
    · subst q
      simp only [fget, if_true, Option.some.injEq] at e
      subst e
      exact ⟨x, by simp [List.lookup], rx⟩
    · simp only [fget, if_neg q] at e
      obtain ⟨y, e2, ry⟩ := fget_rel rr e
      refine ⟨y, ?_, ry⟩
      have q' : (f == g) = false := by simpa using fun z => q z.symm
      simp only [List.lookup, q']
      exact e2
theorem fget_none {K : PySem.W.Frag} {f : Str} : ∀ {fs : List (Str × PV)} {vs : List (Str × V)}, RFs K ι H fs vs → fget f fs = none → vs.lookup f = none
  | [], _, r, _ => by cases (show _ = [] from r); rfl
  | (g, w) :: fs, _, ⟨x, r, e1, rx, rr⟩, e => by
    subst e1
    by_cases q : g = f
    · subst q
      simp [fget] at e
    · simp only [fget, if_neg q] at e
      have q' : (f == g) = false := by simpa using fun z => q z.symm
      simp only [List.lookup, q']
      exact fget_none rr e
theorem fput_rel {K : PySem.W.Frag} {f : Str} {v : PV} {x : V} (rx : RV K ι H v x) : ∀ {fs : List (Str × PV)} {vs : List (Str × V)}, RFs K ι H fs vs → RFs K ι H (fput f v fs) (putF f x vs)
  | [], _, r => by cases (show _ = [] from r); exact ⟨x, [], rfl, rx, rfl⟩
  | (g, w) :: fs, _, ⟨y, r, e1, ry, rr⟩ => by
    subst e1
    by_cases q : g = f
    · subst q
      simp only [fput, putF, if_true]
      exact ⟨x, r, rfl, rx, rr⟩
    · simp only [fput, putF, if_neg q]
      exact ⟨y, _, rfl, ry, fput_rel rx rr⟩
theorem rfs_len {K : PySem.W.Frag} : ∀ {fs : List (Str × PV)} {vs : List (Str × V)}, RFs K ι H fs vs → vs.length = fs.length
  | [], _, r => by cases (show _ = [] from r); rfl
  | _ :: _, _, ⟨y, r, e1, ry, rr⟩ => by subst e1; simp [rfs_len rr]
end

/-! ### built-in functions of one value -/
/-- a call by values -/
def Call1 (X : Cx) (cls : Nat → Addr) (f : Value) (vf : VH → PV → Res PV) : Prop :=
  ∀ (W : XW) (pins : List (Addr × Obj)) (s : Shared) (σ : L2.St) (H : Hp) (ι : List Addr) (h : VH) (p : PV) (x : V) (us : List Value) (Q : VK), Inv X pins σ H s → Rx X cls ι h H → RV X.K ι H p x → Vals [x] us → Wx X cls (RV X.K) W (vf h p) ι H Q →
    wpAny (model X.prog X.w) X.A (call f us) (EP X pins σ Q) X.xe s
theorem seqOf_rel {v : PV} {xs : List PV} {x : V} {P : Program} {w : World} {K : PySem.W.Frag} (R : Rep P w K cls ι h H) (rx : RV K ι H v x) (e : seqOf h v = some xs) : ∃ a vs, x = .ref a ∧ (SqL K H a vs ∨ SqT K H a vs) ∧ RVs K ι H xs vs := by
  cases v with
  | tup ys =>
    cases (show some ys = some xs from e)
    obtain ⟨a, vs, e1, hq, rv⟩ := rx
    exact ⟨a, vs, e1, .inr hq, rv⟩
  | ref n =>
    simp only [seqOf] at e
    split at e
    · rename_i ys lk eo
      cases e
      obtain ⟨a, ea, e1, ro⟩ := R.at eo rx
      obtain ⟨vs, hq, rv⟩ := RO.list ro
      exact ⟨a, vs, e1, .inl hq, rv⟩
    · cases e
  | _ => cases e
theorem vlist_inv {n : Nat} {xs : List PV} {lk : Bool} {x : V} {P : Program} {w : World} {K : PySem.W.Frag} (R : Rep P w K cls ι h H) (e : h[n]? = some (.lst xs lk)) (rx : RV K ι H (.ref n) x) : ∃ a vs, x = .ref a ∧ SqL K H a vs ∧ RVs K ι H xs vs := by
  obtain ⟨a, ea, e1, ro⟩ := R.at e rx
  obtain ⟨vs, hq, rv⟩ := RO.list ro
  exact ⟨a, vs, e1, hq, rv⟩
theorem c_sum (hc : X.calm = true) : Call1 X cls (.builtin "sum") (vB1 .sum) := by
  intro W pins s σ H ι h p x us Q I R rx ru hw
  cases p with
  | ref n =>
    simp only [vB1] at hw
    split at hw
    · rename_i xs lk e
      split at hw
      · rename_i ns en
        obtain ⟨a, vs, e1, hq, rv⟩ := vlist_inv R e rx
        rw [intsOf_map en rv] at hq
        exact cr_sum hc pins s σ H [x] us Q I ru ⟨a, ns, by rw [e1], hq, hw.val R rfl⟩
      · exact hw.elim
    · exact hw.elim
  | _ => exact False.elim hw
theorem c_all (hc : X.calm = true) : Call1 X cls (.builtin "all") (vB1 .all) := by
  intro W pins s σ H ι h p x us Q I R rx ru hw
  cases p with
  | ref n =>
    simp only [vB1] at hw
    split at hw
    · rename_i xs lk e
      split at hw
      · rename_i ns en
        obtain ⟨a, vs, e1, hq, rv⟩ := vlist_inv R e rx
        rw [bools_map en rv] at hq
        exact cr_all hc pins s σ H [x] us Q I ru ⟨a, ns, by rw [e1], hq, hw.val R rfl⟩
      · exact hw.elim
    · exact hw.elim
  | _ => exact False.elim hw
theorem c_any (hc : X.calm = true) : Call1 X cls (.builtin "any") (vB1 .any) := by
  intro W pins s σ H ι h p x us Q I R rx ru hw
  cases p with
  | ref n =>
    simp only [vB1] at hw
    split at hw
    · rename_i xs lk e
      split at hw
      · rename_i ns en
        obtain ⟨a, vs, e1, hq, rv⟩ := vlist_inv R e rx
        rw [bools_map en rv] at hq
        exact cr_any hc pins s σ H [x] us Q I ru ⟨a, ns, by rw [e1], hq, hw.val R rfl⟩
      · exact hw.elim
    · exact hw.elim
  | _ => exact False.elim hw
theorem maxI_spec : ∀ (ns : List Int) (i : Int), maxI i ns ∈ i :: ns ∧ ∀ y ∈ i :: ns, y ≤ maxI i ns
  | [], i => by simp [maxI]
  | j :: r, i => by
    simp only [maxI]
    obtain ⟨h1, h2⟩ := maxI_spec r (if j > i then j else i)
    refine ⟨?_, fun y hy => ?_⟩
    · rcases List.mem_cons.mp h1 with e | e
      · rw [e]
        split <;> simp
      · simp [e]
    · have h3 := h2 (if j > i then j else i) List.mem_cons_self
      have h4 : ∀ y ∈ r, y ≤ maxI (if j > i then j else i) r := fun y hy => h2 y (List.mem_cons_of_mem _ hy)
      generalize maxI (if j > i then j else i) r = m at h3 h4 ⊢
      rcases List.mem_cons.mp hy with e | hy
      · subst e
        split at h3 <;> omega
      · rcases List.mem_cons.mp hy with e | hy
        · subst e
          split at h3 <;> omega
        · exact h4 y hy
theorem minI_spec : ∀ (ns : List Int) (i : Int), minI i ns ∈ i :: ns ∧ ∀ y ∈ i :: ns, minI i ns ≤ y
  | [], i => by simp [minI]
  | j :: r, i => by
    simp only [minI]
    obtain ⟨h1, h2⟩ := minI_spec r (if j < i then j else i)
    refine ⟨?_, fun y hy => ?_⟩
    · rcases List.mem_cons.mp h1 with e | e
      · rw [e]
        split <;> simp
      · simp [e]
    · have h3 := h2 (if j < i then j else i) List.mem_cons_self
      have h4 : ∀ y ∈ r, minI (if j < i then j else i) r ≤ y := fun y hy => h2 y (List.mem_cons_of_mem _ hy)
      generalize minI (if j < i then j else i) r = m at h3 h4 ⊢
      rcases List.mem_cons.mp hy with e | hy
      · subst e
        split at h3 <;> omega
      · rcases List.mem_cons.mp hy with e | hy
        · subst e
          split at h3 <;> omega
        · exact h4 y hy
theorem c_int : Call1 X cls (.type "int") (vB1 .int) := by
  intro W pins s σ H ι h p x us Q I R rx ru hw
  cases p with
  | int i => exact call_int1 pins s σ H [x] us Q I ru (.inl ⟨i, by rw [show x = .int i from rx], hw.val R rfl⟩)
  | bl b => exact call_int1 pins s σ H [x] us Q I ru (.inr ⟨b, by rw [show x = .bl b from rx], hw.val R (by cases b <;> rfl)⟩)
  | _ => exact False.elim hw
theorem c_abs : Call1 X cls (.builtin "abs") (vB1 .abs) := by
  intro W pins s σ H ι h p x us Q I R rx ru hw
  cases p with
  | int i => exact call_abs pins s σ H [x] us Q I ru ⟨i, by rw [show x = .int i from rx], hw.val R rfl⟩
  | _ => exact False.elim hw
theorem c_tuple : Call1 X cls (.type "tuple") (vB1 .tuple) := by
  intro W pins s σ H ι h p x us Q I R rx ru hw
  cases p with
  | tup ps =>
    obtain ⟨a, vs, e1, hq, rv⟩ := rx
    exact call_tuple_of pins s σ H [x] us Q I ru ⟨a, vs, by rw [e1], .inr ⟨hq, hw.val R ⟨a, vs, rfl, hq, rv⟩⟩⟩
  | ref n =>
    simp only [vB1] at hw
    split at hw
    · rename_i xs lk e
      obtain ⟨a, vs, e1, hq, rv⟩ := vlist_inv R e rx
      refine call_tuple_of pins s σ H [x] us Q I ru ⟨a, vs, by rw [e1], .inl ⟨hq, fun p np => ?_⟩⟩
      have sm := same_upd (o := HO.tup vs) np
      exact hw ι _ (.ref p) (.refl _) (.same sm) (R.same sm) ⟨p, _, rfl, .of upd_same, rv.mono (.refl _) (.same sm)⟩
    · exact hw.elim
  | _ => exact False.elim hw
end
end VI
set_option autoImplicit false
set_option linter.all false
set_option Elab.async false
set_option maxRecDepth 100000
set_option maxHeartbeats 2000000
/-! VI over the hand layer: built-in functions that walk dicts, isinstance, attributes. -/
namespace VI
open PySem PySem.Spec PyProof.Rows L2
section
variable {X : Cx} {cls : Nat → Addr} {W : L2.St → XW} {W1 : XW} {pins : List (Addr × Obj)} {σ : L2.St} {H H' : Hp} {s : Shared} {ι ι' : List Addr} {ρ : Rho} {h : VH}

/-! ### max, min -/
theorem foldl_max : ∀ (ns : List Int) (i : Int), ns.foldl max i = maxI i ns
  | [], i => rfl
  | j :: r, i => by
    rw [List.foldl_cons, foldl_max r, maxI]
    congr 1
    split <;> omega
theorem foldl_min : ∀ (ns : List Int) (i : Int), ns.foldl min i = minI i ns
  | [], i => rfl
  | j :: r, i => by
    rw [List.foldl_cons, foldl_min r, minI]
    congr 1
    split <;> omega
theorem ints_dp {K : PySem.W.Frag} : ∀ ns : List Int, DpAll K H (ns.map V.int) (ns.map PyData.int)
  | [] => .nil
  | n :: ns => .cons (.int n) (ints_dp ns)
theorem ints_alike (ns : List Int) : PySem.W.AlikeAll (ns.map PyData.int) := by
  refine ⟨fun x hx y hy => ?_, fun x hx => ?_⟩
  · obtain ⟨a, _, rfl⟩ := List.mem_map.mp hx
    obtain ⟨b, _, rfl⟩ := List.mem_map.mp hy
    rfl
  · obtain ⟨a, _, rfl⟩ := List.mem_map.mp hx
    intro e
    cases e
theorem ints_depth : ∀ ns : List Int, PyData.depthAll (ns.map PyData.int) = 0
  | [] => rfl
  | n :: ns => by
    rw [List.map_cons]
    show max (PyData.depth (.int n)) (PyData.depthAll (ns.map PyData.int)) = 0
    rw [ints_depth ns]
    rfl
theorem max_tup (hc : X.calm = true) (hu : X.A.units + 64 < cLine) {a : Addr} {i : Int} {r : List Int} {Q : VK} {us : List Value} (I : Inv X pins σ H s) (ru : Vals [V.ref a] us) (hq : SqT X.K H a ((i :: r).map V.int)) (q : Q (.int (maxI i r)) H) :
    wpAny (model X.prog X.w) X.A (call (.builtin "max") us) (EP X pins σ Q) X.xe s := by
  rw [Vals.ref1 ru]
  obtain ⟨its, rv, hl, hz⟩ := I.tuple hq
  obtain ⟨as, hr⟩ := Dp.readsAll I _ _ _ (ints_dp (i :: r)) rv
  have ha : PySem.W.AlikeAll (PyData.int i :: r.map PyData.int) := ints_alike (i :: r)
  refine PySem.W.max_tuple_data (as := as) (I.ok.hd hc) hl (by simpa using hr) ha (by have := ints_depth (i :: r); rw [List.map_cons] at this; rw [this]; omega) fun j v h' tk bs e1 e2 k => ?_
  rw [PySem.W.maxD_ints, foldl_max] at e2
  cases e2 with
  | int _ t => exact ⟨.int _, H, I.kept k, ⟨t, rfl⟩, q⟩
theorem min_tup (hc : X.calm = true) (hu : X.A.units + 64 < cLine) {a : Addr} {i : Int} {r : List Int} {Q : VK} {us : List Value} (I : Inv X pins σ H s) (ru : Vals [V.ref a] us) (hq : SqT X.K H a ((i :: r).map V.int)) (q : Q (.int (minI i r)) H) :
    wpAny (model X.prog X.w) X.A (call (.builtin "min") us) (EP X pins σ Q) X.xe s := by
  rw [Vals.ref1 ru]
  obtain ⟨its, rv, hl, hz⟩ := I.tuple hq
  obtain ⟨as, hr⟩ := Dp.readsAll I _ _ _ (ints_dp (i :: r)) rv
  have ha : PySem.W.AlikeAll (PyData.int i :: r.map PyData.int) := ints_alike (i :: r)
  refine PySem.W.min_tuple_data (as := as) (I.ok.hd hc) hl (by simpa using hr) ha (by have := ints_depth (i :: r); rw [List.map_cons] at this; rw [this]; omega) fun j v h' tk bs e1 e2 k => ?_
  rw [PySem.W.minD_ints, foldl_min] at e2
  cases e2 with
  | int _ t => exact ⟨.int _, H, I.kept k, ⟨t, rfl⟩, q⟩
theorem c_max (hc : X.calm = true) (hu : X.A.units + 64 < cLine) : Call1 X cls (.builtin "max") (vB1 .max) := by
  intro W pins s σ H ι h p x us Q I R rx ru hw
  simp only [vB1] at hw
  split at hw
  · rename_i i r e
    cases e1 : seqOf h p with
    | none => rw [e1] at e; cases e
    | some xs =>
      rw [e1] at e
      obtain ⟨a, vs, ex, hq, rv⟩ := seqOf_rel R rx e1
      have ev := intsOf_map (show intsOf xs = some (i :: r) from e) rv
      subst ev
      subst ex
      obtain ⟨m1, m2⟩ := maxI_spec r i
      rcases hq with hq | hq
      · refine cr_max hc pins s σ H [.ref a] us Q I ru ⟨a, i :: r, rfl, hq, by simp, fun m k1 k2 => ?_⟩
        have em : m = maxI i r := by
          have := k2 _ m1
          have := m2 _ k1
          omega
        subst em
        exact hw.val R rfl
      · exact max_tup hc hu I ru hq (hw.val R rfl)
  · exact hw.elim
theorem c_min (hc : X.calm = true) (hu : X.A.units + 64 < cLine) : Call1 X cls (.builtin "min") (vB1 .min) := by
  intro W pins s σ H ι h p x us Q I R rx ru hw
  simp only [vB1] at hw
  split at hw
  · rename_i i r e
    cases e1 : seqOf h p with
    | none => rw [e1] at e; cases e
    | some xs =>
      rw [e1] at e
      obtain ⟨a, vs, ex, hq, rv⟩ := seqOf_rel R rx e1
      have ev := intsOf_map (show intsOf xs = some (i :: r) from e) rv
      subst ev
      subst ex
      obtain ⟨m1, m2⟩ := minI_spec r i
      rcases hq with hq | hq
      · refine cr_min hc pins s σ H [.ref a] us Q I ru ⟨a, i :: r, rfl, hq, by simp, fun m k1 k2 => ?_⟩
        have em : m = minI i r := by
          have := k2 _ m1
          have := m2 _ k1
          omega
        subst em
        exact hw.val R rfl
      · exact min_tup hc hu I ru hq (hw.val R rfl)
  · exact hw.elim

/-! ### a dict's entries -/
structure Ents (K : PySem.W.Frag) (ι : List Addr) (H : Hp) (kvs : List (PV × PV)) (es : Array DictEntry) : Prop where
  size : es.size = kvs.length
  at_ : ∀ (j : Nat) (k v : PV), kvs[j]? = some (k, v) → ∃ en x y, es[j]? = some en ∧ RV K ι H k x ∧ RelV x en.key ∧ RV K ι H v y ∧ RelV y en.val
theorem Ents.key {K : PySem.W.Frag} {kvs : List (PV × PV)} {es : Array DictEntry} (E : Ents K ι H kvs es) : ∀ (j : Nat) (en : DictEntry), es[j]? = some en → ∃ k v x y, kvs[j]? = some (k, v) ∧ RV K ι H k x ∧ RelV x en.key ∧ RV K ι H v y ∧ RelV y en.val := by
  intro j en e
  have hj : j < kvs.length := by
    rw [← E.size]
    exact (Array.getElem?_eq_some_iff.mp e).1
  obtain ⟨en', x, y, e1, a, b, c, d⟩ := E.at_ j kvs[j].1 kvs[j].2 (List.getElem?_eq_getElem hj)
  rw [e] at e1
  cases e1
  exact ⟨_, _, x, y, List.getElem?_eq_getElem hj, a, b, c, d⟩
theorem rl_ents {P : Program} {w : World} {K : PySem.W.Frag} : ∀ {kvs : List (PV × PV)} {ls : List (Leaf × Value)} {es : List DictEntry}, RL K ι H kvs ls → Pairs (pKind P w) es ls → es.length = kvs.length ∧ ∀ (j : Nat) (k v : PV), kvs[j]? = some (k, v) → ∃ en x y, es[j]? = some en ∧ RV K ι H k x ∧ RelV x en.key ∧ RV K ι H v y ∧ RelV y en.val
  | [], ls, es, r, p => by
    cases (show ls = [] from r)
    cases p
    exact ⟨rfl, fun j k v e => by simp at e⟩
  | kv :: kvs, ls, es, ⟨y, u, r, e, h1, h2, ry, eu, rr⟩, p => by
    subst e
    cases p with
    | cons g1 g2 g3 =>
      obtain ⟨z1, z2⟩ := rl_ents rr g3
      refine ⟨by simp [z1], fun j k v e => ?_⟩
      cases j with
      | zero =>
        simp at e
        subst e
        obtain ⟨x, rx, ex⟩ := of_leaf_is (K := K) (ι := ι) (H := H) h1 h2 g1
        exact ⟨_, x, y, rfl, rx, ex, ry, by rw [g2]; exact eu⟩
      | succ j => exact z2 j k v (by simpa using e)
theorem rn_ents {P : Program} {w : World} {K : PySem.W.Frag} : ∀ {kvs : List (PV × PV)} {ls : List (NestedKey × Addr × Value)} , RN K ι H kvs ls → ∀ (j : Nat) (k v : PV), kvs[j]? = some (k, v) → ∃ en x y, (ls.map (entryOfKey (nestedKind P w)))[j]? = some en ∧ RV K ι H k x ∧ RelV x en.key ∧ RV K ι H v y ∧ RelV y en.val
  | [], ls, r, j, k, v, e => by simp at e
  | kv :: kvs, ls, ⟨a, y, u, r, e, h1, h2, h3, ra, ry, eu, rr⟩, j, k, v, e' => by
    subst e
    cases j with
    | zero =>
      simp at e'
      subst e'
      exact ⟨_, .ref a, y, rfl, ra, rfl, ry, eu⟩
    | succ j => exact rn_ents rr j k v (by simpa using e')
theorem rd_ents {P : Program} {w : World} {K : PySem.W.Frag} {a : Addr} {kvs : List (PV × PV)} {o : Obj} (q : RD P w K ι H a kvs o) {hp : Heap} (ho : hp.get? a = some o) : ∃ es ep, o.ExactDict ∧ o.data = .dict es ep ∧ Ents K ι H kvs es := by
  obtain ⟨z, y, ⟨ls, r, q⟩ | ⟨xs, es, ep, r, g1, g2, g3, g4⟩⟩ := q
  · obtain ⟨o', es, ep, e1, e2, e3, e4, e5, e6⟩ := q hp ho
    rw [ho] at e1
    cases e1
    obtain ⟨z1, z2⟩ := rl_ents r e5
    exact ⟨es, ep, e2, e3, by rw [← Array.length_toList]; exact z1, fun j k v e => by rw [← Array.getElem?_toList]; exact z2 j k v e⟩
  · refine ⟨es, ep, g1, g2, ?_, fun j k v e => ?_⟩
    · rw [← Array.length_toList, g3, List.length_map]; exact rn_len r
    · rw [← Array.getElem?_toList, g3]; exact rn_ents r j k v e
/-- the keys, read off items that are the entries' keys -/
theorem ents_keys {K : PySem.W.Frag} {kvs : List (PV × PV)} {es : Array DictEntry} (E : Ents K ι H kvs es) {us : List Value} (hl : us.length = es.size) (hu : ∀ (j : Nat) (v : Value), us[j]? = some v → ∃ en : DictEntry, es[j]? = some en ∧ v = en.key) : ∃ xs, Vals xs us ∧ RVs K ι H (kvs.map Prod.fst) xs := by
  have key : ∀ (us : List Value) (kvs : List (PV × PV)), us.length = kvs.length → (∀ (j : Nat) (v : Value) , us[j]? = some v → ∃ k w x, kvs[j]? = some (k, w) ∧ RV K ι H k x ∧ RelV x v) → ∃ xs, Vals xs us ∧ RVs K ι H (kvs.map Prod.fst) xs := by
    intro us
    induction us with
    | nil =>
      intro kvs hl _
      cases kvs with
      | nil => exact ⟨[], .nil, rfl⟩
      | cons _ _ => simp at hl
    | cons u us ih =>
      intro kvs hl hk
      cases kvs with
      | nil => simp at hl
      | cons kv kvs =>
        obtain ⟨xs, v1, v2⟩ := ih kvs (by simpa using hl) fun j v e => by
          obtain ⟨k, w, x, e1, e2, e3⟩ := hk (j + 1) v (by simpa using e)
          exact ⟨k, w, x, by simpa using e1, e2, e3⟩
        obtain ⟨k, w, x, e1, e2, e3⟩ := hk 0 u rfl
        simp at e1
        subst e1
        exact ⟨x :: xs, .cons e3 v1, x, xs, rfl, e2, v2⟩
  refine key us kvs (by rw [hl, E.size]) fun j v e => ?_
  obtain ⟨en, e1, rfl⟩ := hu j v e
  obtain ⟨k, w, x, y, e2, rx, ex, _, _⟩ := E.key j en e1
  exact ⟨k, w, x, e2, rx, ex⟩

/-! ### list, len, sorted -/
theorem c_list (hc : X.calm = true) : Call1 X cls (.type "list") (vB1 .list) := by
  intro W pins s σ H ι h p x us Q I R rx ru hw
  cases p with
  | tup ps =>
    obtain ⟨a, vs, e1, hq, rv⟩ := rx
    exact call_list_of pins s σ H [x] us Q I ru ⟨a, vs, by rw [e1], .inr hq, (Wx.newL (X := X) hw R rv).2⟩
  | ref n =>
    simp only [vB1] at hw
    split at hw
    · rename_i xs lk e
      obtain ⟨a, vs, e1, hq, rv⟩ := vlist_inv R e rx
      exact call_list_of pins s σ H [x] us Q I ru ⟨a, vs, by rw [e1], .inl hq, (hw.newL R rv).2⟩
    · rename_i kvs lk e
      obtain ⟨a, ea, rfl, ro⟩ := R.at e rx
      obtain ⟨o, ho, rd⟩ := dct_at I ro
      obtain ⟨es, ep, hx, hd, E⟩ := rd_ents rd ho
      rw [Vals.ref1 ru]
      refine PySem.W.kdl_call (kdl_raw rd.2.1 hx hd) (I.ok.hd hc) ho (by rw [E.size]; exact rd.1) fun h' tk acc' c' kp e1 it => ?_
      obtain ⟨xs, v1, v2⟩ := ents_keys E (us := acc'.toList) (by rw [Array.length_toList]; exact it.1) fun j v e2 => it.2 j v (by rw [← Array.getElem?_toList]; exact e2)
      obtain ⟨z, q⟩ := hw.newL R v2
      have I1 : Inv X pins σ H { s with heap := h', toks := tk } := I.kept kp
      have hf : H s.heap.objs.size = none := I.hok.fresh (Nat.le_refl _)
      refine ⟨.ref s.heap.objs.size, upd H s.heap.objs.size (.lst xs), I.laid (t' := tk) kp (Nat.le_refl _) ⟨z, acc'.toList, c', v1, by rw [Array.toArray_toList]; exact e1⟩, rfl, q _ hf⟩
    · exact hw.elim
  | _ => exact False.elim hw
end
end VI
set_option autoImplicit false
set_option linter.all false
set_option Elab.async false
set_option maxRecDepth 100000
set_option maxHeartbeats 2000000
/-! VI over the hand layer: statements. -/
namespace VI
open PySem PySem.Spec PyProof.Rows L2

/-- what a statement's end must come to -/
def WS (X : Cx) (cls : Nat → Addr) (W : L2.St → XW) (r : SR) (ι : List Addr) (H : Hp) (D : Ends) : Prop := match r with
  | .nx r h' => ∀ ι' H' σ', Le ι ι' → Kp H H' → Rx X cls ι' h' H' → RR X.K ι' H' r σ' → D.nx σ' H'
  | .rt v h' => ∀ ι' H' x, Le ι ι' → Kp H H' → Rx X cls ι' h' H' → RV X.K ι' H' v x → D.rt x H'
  | .ct r h' => ∀ ι' H' σ', Le ι ι' → Kp H H' → Rx X cls ι' h' H' → RR X.K ι' H' r σ' → D.ct σ' H'
  | .ex c p r h' => ∀ ι' H' σ', Le ι ι' → Kp H H' → RR X.K ι' H' r σ' → W σ' c p h' ι' H'
  | .no => False
def tS (X : Cx) (cls : Nat → Addr) (W : L2.St → XW) (e : SX) : TS := fun D σ H => ∃ ι ρ h, Rx X cls ι h H ∧ RR X.K ι H ρ σ ∧ WS X cls W (e ρ h) ι H D
/-- .. a target's -/
def Frm (sl : List Nat) (σ0 σ' : L2.St) : Prop := σ'.length = σ0.length ∧ ∀ j, j ∉ sl → σ'[j]? = σ0[j]?
def WG (X : Cx) (cls : Nat → Addr) (sl : List Nat) (σ0 : L2.St) (r : Res Rho) (ι : List Addr) (H : Hp) (Q : L2.St → Hp → Prop) : Prop := match r with
  | .ok r' h' => ∀ ι' H' σ', Le ι ι' → Kp H H' → Rx X cls ι' h' H' → RR X.K ι' H' r' σ' → Frm sl σ0 σ' → Q σ' H'
  | .ex _ _ _ => False
  | .no => False
def tG (X : Cx) (cls : Nat → Addr) (sl : List Nat) (e : GX) : TG := fun v σ H Q => ∃ ι ρ h p, Rx X cls ι h H ∧ RR X.K ι H ρ σ ∧ RV X.K ι H p v ∧ WG X cls sl σ (e p ρ h) ι H Q
def tGs (X : Cx) (cls : Nat → Addr) (sl : List Nat) (e : List PV → Rho → VH → Res Rho) : TGs := fun vs σ H Q => ∃ ι ρ h ps, Rx X cls ι h H ∧ RR X.K ι H ρ σ ∧ RVs X.K ι H ps vs ∧ WG X cls sl σ (e ps ρ h) ι H Q

section
variable {X : Cx} {cls : Nat → Addr} {W : L2.St → XW} {W1 : XW} {pins : List (Addr × Obj)} {σ : L2.St} {H H' : Hp} {s : Shared} {ι ι' : List Addr} {ρ : Rho} {h : VH} {D : Ends}
theorem WS.weak {r : SR} (q : WS X cls W r ι H D) (l : Le ι ι') (k : Kp H H') : WS X cls W r ι' H' D := by
  cases r with
  | nx r h' => exact fun ι2 H2 b l2 k2 => q ι2 H2 b (l.trans l2) (k.trans k2)
  | rt r h' => exact fun ι2 H2 b l2 k2 => q ι2 H2 b (l.trans l2) (k.trans k2)
  | ct r h' => exact fun ι2 H2 b l2 k2 => q ι2 H2 b (l.trans l2) (k.trans k2)
  | ex c p r h' => exact fun ι2 H2 b l2 k2 => q ι2 H2 b (l.trans l2) (k.trans k2)
  | no => exact q
theorem WG.weak {sl : List Nat} {σ0 : L2.St} {r : Res Rho} {Q : L2.St → Hp → Prop} (q : WG X cls sl σ0 r ι H Q) (l : Le ι ι') (k : Kp H H') : WG X cls sl σ0 r ι' H' Q := by
  cases r with
  | ok r h' => exact fun ι2 H2 b l2 k2 => q ι2 H2 b (l.trans l2) (k.trans k2)
  | ex c p h' => exact q
  | no => exact q
theorem RR.set (rr : RR X.K ι H ρ σ) {i : Nat} {p : PV} {v : V} (rv : RV X.K ι H p v) : RR X.K ι H (ρ.set i (some p)) (σ.set i (some v)) := by
  refine ⟨by rw [List.length_set, List.length_set]; exact rr.1, fun j q e => ?_⟩
  by_cases hj : i = j
  · subst hj
    have hl : i < ρ.length := by
      have := (List.getElem?_eq_some_iff.mp e).1
      rwa [List.length_set] at this
    rw [List.getElem?_set_self hl] at e
    cases e
    exact ⟨v, by rw [List.getElem?_set_self (by rw [← rr.1]; exact hl)], rv⟩
  · rw [List.getElem?_set_ne hj] at e
    obtain ⟨v, e', r⟩ := rr.2 j q e
    exact ⟨v, by rw [List.getElem?_set_ne hj]; exact e', r⟩
/-- the wish at a state that stands -/
theorem WS.exc {c : Nat} {p : PV} {h' : VH} (q : WS X cls W (.ex c p ρ h') ι H D) (rr : RR X.K ι H ρ σ) : W σ c p h' ι H := q ι H σ (.refl _) (.refl _) rr

/-- a part's reading, then what follows it in a statement -/
theorem tE_bindS {ea : EX} {f : PV → VH → SR} (hW : XMono (W σ)) (R : Rx X cls ι h H) (rr : RR X.K ι H ρ σ) (hw : WS X cls W (match ea ρ h with
      | .ok v h1 => f v h1
      | .ex c p h1 => .ex c p ρ h1
      | .no => .no) ι H D) :
    tE X cls W ea σ H fun x H1 => ∃ ι1 h1 p, Le ι ι1 ∧ Kp H H1 ∧ Rx X cls ι1 h1 H1 ∧ RR X.K ι1 H1 ρ σ ∧ RV X.K ι1 H1 p x ∧ WS X cls W (f p h1) ι1 H1 D := by
  refine ⟨ι, ρ, h, R, rr, ?_⟩
  cases hr : ea ρ h with
  | ok p h1 =>
    rw [hr] at hw
    exact fun ι1 H1 b l kp R1 rv => ⟨ι1, h1, p, l, kp, R1, rr.mono l kp, rv, hw.weak l kp⟩
  | ex c p h1 =>
    rw [hr] at hw
    exact hw.exc rr
  | no => rw [hr] at hw; exact hw
theorem tT_bindS {ea : TX} {f : Bool → VH → SR} (hW : XMono (W σ)) (R : Rx X cls ι h H) (rr : RR X.K ι H ρ σ) (hw : WS X cls W (match ea ρ h with
      | .ok v h1 => f v h1
      | .ex c p h1 => .ex c p ρ h1
      | .no => .no) ι H D) :
    tT X cls W ea σ H fun b H1 => ∃ ι1 h1, Le ι ι1 ∧ Kp H H1 ∧ Rx X cls ι1 h1 H1 ∧ RR X.K ι1 H1 ρ σ ∧ WS X cls W (f b h1) ι1 H1 D := by
  refine ⟨ι, ρ, h, R, rr, ?_⟩
  cases hr : ea ρ h with
  | ok p h1 =>
    rw [hr] at hw
    exact fun ι1 H1 b l kp R1 rv => ⟨ι1, h1, l, kp, R1, rr.mono l kp, by cases rv; exact hw.weak l kp⟩
  | ex c p h1 =>
    rw [hr] at hw
    exact hw.exc rr
  | no => rw [hr] at hw; exact hw
theorem tA_bindS {ea : AX} {f : List PV → VH → SR} (hW : XMono (W σ)) (R : Rx X cls ι h H) (rr : RR X.K ι H ρ σ) (hw : WS X cls W (match ea ρ h with
      | .ok v h1 => f v h1
      | .ex c p h1 => .ex c p ρ h1
      | .no => .no) ι H D) :
    tA X cls W ea σ H fun xs H1 => ∃ ι1 h1 ps, Le ι ι1 ∧ Kp H H1 ∧ Rx X cls ι1 h1 H1 ∧ RR X.K ι1 H1 ρ σ ∧ RVs X.K ι1 H1 ps xs ∧ WS X cls W (f ps h1) ι1 H1 D := by
  refine ⟨ι, ρ, h, R, rr, ?_⟩
  cases hr : ea ρ h with
  | ok p h1 =>
    rw [hr] at hw
    exact fun ι1 H1 b l kp R1 rv => ⟨ι1, h1, p, l, kp, R1, rr.mono l kp, rv, hw.weak l kp⟩
  | ex c p h1 =>
    rw [hr] at hw
    exact hw.exc rr
  | no => rw [hr] at hw; exact hw

/-! ### blocks -/
section
variable {st : Stmt} {rest : List Stmt} {e : Expr} {ea : EX} {ta : TX} {fa fb : SX} {pos : Pos}
theorem vss_nil : PSs X [] (tS X cls W fun r h => .nx r h) :=
  ⟨fun pins s σ H D I ⟨ι, ρ, h, R, rr, hw⟩ => pss_nil.run pins s σ H D I (hw ι H σ (.refl _) (.refl _) R rr)⟩
theorem vss_cons (h1 : PS X st (tS X cls W fa)) (h2 : PSs X rest (tS X cls W fb)) : PSs X (st :: rest) (tS X cls W fun r h => match fa r h with
    | .nx r' h' => fb r' h'
    | o => o) := by
  refine ⟨fun pins s σ H D I ⟨ι, ρ, h, R, rr, hw⟩ => ?_⟩
  refine (pss_cons h1 h2).run pins s σ H D I ⟨ι, ρ, h, R, rr, ?_⟩
  dsimp only at hw
  cases hr : fa ρ h with
  | nx r' h' =>
    rw [hr] at hw
    exact fun ι' H' σ' l k R' rr' => ⟨ι', r', h', R', rr', WS.weak hw l k⟩
  | rt r h' => rw [hr] at hw; exact hw
  | ct r h' => rw [hr] at hw; exact hw
  | ex c p r h' => rw [hr] at hw; exact hw
  | no => rw [hr] at hw; exact hw
theorem vs_no (hf : ∀ r h, fa r h = .no) : PS X st (tS X cls W fa) := ⟨fun pins s σ H D I ⟨ι, ρ, h, R, rr, hw⟩ => by
  rw [hf] at hw
  exact hw.elim⟩
theorem ve_no (hf : ∀ r h, ea r h = .no) : PE X e (tE X cls W ea) := ⟨fun pins s σ H D I ⟨ι, ρ, h, R, rr, hw⟩ => by
  rw [hf] at hw
  exact hw.elim⟩
theorem vs_pass : PS X (.Pass pos) (tS X cls W fun r h => .nx r h) :=
  ⟨fun pins s σ H D I ⟨ι, ρ, h, R, rr, hw⟩ => ps_pass.run pins s σ H D I (hw ι H σ (.refl _) (.refl _) R rr)⟩
theorem vs_cont : PS X (.Continue pos) (tS X cls W fun r h => .ct r h) :=
  ⟨fun pins s σ H D I ⟨ι, ρ, h, R, rr, hw⟩ => ps_continue.run pins s σ H D I (hw ι H σ (.refl _) (.refl _) R rr)⟩
theorem vs_ex (hW : ∀ σ, XMono (W σ)) (he : PE X e (tE X cls W ea)) (hs : swapsWith e none pos.line X.env = pure false) : PS X (.Expr e pos) (tS X cls W fun r h => match ea r h with
    | .ok _ h1 => .nx r h1
    | .ex c p h1 => .ex c p r h1
    | .no => .no) := by
  refine ⟨fun pins s σ H D I ⟨ι, ρ, h, R, rr, hw⟩ => ?_⟩
  refine (ps_expr he hs).run pins s σ H D I ?_
  exact (tE_bindS (f := fun _ h1 => .nx ρ h1) (hW σ) R rr hw).mono fun x H1 ⟨ι1, h1, p, l1, k1, R1, rr1, rv1, hw1⟩ => hw1 ι1 H1 σ (.refl _) (.refl _) R1 rr1
theorem vs_ret (hW : ∀ σ, XMono (W σ)) (he : PE X e (tE X cls W ea)) : PS X (.Return (some e) pos) (tS X cls W fun r h => match ea r h with
    | .ok v h1 => .rt v h1
    | .ex c p h1 => .ex c p r h1
    | .no => .no) := by
  refine ⟨fun pins s σ H D I ⟨ι, ρ, h, R, rr, hw⟩ => ?_⟩
  refine (ps_ret he).run pins s σ H D I ?_
  exact (tE_bindS (f := fun v h1 => .rt v h1) (hW σ) R rr hw).mono fun x H1 ⟨ι1, h1, p, l1, k1, R1, rr1, rv1, hw1⟩ => hw1 ι1 H1 x (.refl _) (.refl _) R1 rv1
theorem vs_if {c : Expr} {a b : List Stmt} (hW : ∀ σ, XMono (W σ)) (hc : PT X c (tT X cls W ta)) (ha : PSs X a (tS X cls W fa)) (hb : PSs X b (tS X cls W fb)) : PS X (.If c a b pos) (tS X cls W fun r h => match ta r h with
    | .ok true h1 => fa r h1
    | .ok false h1 => fb r h1
    | .ex c p h1 => .ex c p r h1
    | .no => .no) := by
  refine ⟨fun pins s σ H D I ⟨ι, ρ, h, R, rr, hw⟩ => ?_⟩
  refine (ps_if hc ha hb).run pins s σ H D I ?_
  dsimp only at hw
  have hw' : WS X cls W (match ta ρ h with
      | .ok v h1 => (match v with | true => fa ρ h1 | false => fb ρ h1)
      | .ex c p h1 => .ex c p ρ h1
      | .no => .no) ι H D := by
    cases hr : ta ρ h with
    | ok b h1 => rw [hr] at hw; cases b <;> exact hw
    | ex c p h1 => rw [hr] at hw; exact hw
    | no => rw [hr] at hw; exact hw
  refine (tT_bindS (f := fun v h1 => (match v with | true => fa ρ h1 | false => fb ρ h1)) (hW σ) R rr hw').mono fun k H1 ⟨ι1, h1, l1, k1, R1, rr1, hw1⟩ => ?_
  cases k with
  | true => rw [if_pos rfl]; exact ⟨ι1, ρ, h1, R1, rr1, hw1⟩
  | false => rw [if_neg Bool.false_ne_true]; exact ⟨ι1, ρ, h1, R1, rr1, hw1⟩

/-! ### targets -/
theorem vg_name {i : Nat} {x : Str} (hN : X.N.Nodup) (hi : X.N[i]? = some x) (hx : Loc X.env.scope x) (hf : X.fn x = true ∨ X.env.scope.names.lookup x = some .local) : PG X (.Name x pos) (tG X cls [i] fun v r h => .ok (r.set i (some v)) h) := by
  refine ⟨fun pins s σ H v u Q I r ⟨ι, ρ, h, p, R, rr, rv, hw⟩ => ?_⟩
  exact (pg_name hN hi hx hf).run pins s σ H v u Q I r (hw ι H _ (.refl _) (.refl _) R (rr.set rv) ⟨List.length_set, fun j hj => List.getElem?_set_ne (fun e => hj (by rw [e]; exact List.mem_singleton.mpr rfl))⟩)
theorem vgs_nil : PGs X [] (tGs X cls [] fun vs r h => match vs with | [] => .ok r h | _ :: _ => .no) := by
  refine ⟨fun pins s σ H vs us Q I r ⟨ι, ρ, h, ps, R, rr, rv, hw⟩ => ?_⟩
  cases ps with
  | nil => exact pgs_nil.run pins s σ H vs us Q I r ⟨rv, hw ι H σ (.refl _) (.refl _) R rr ⟨rfl, fun _ _ => rfl⟩⟩
  | cons _ _ => exact hw.elim
theorem vgs_cons {sa sb : List Nat} {es : List Expr} {ga : GX} {gb : List PV → Rho → VH → Res Rho} (h1 : PG X e (tG X cls sa ga)) (h2 : PGs X es (tGs X cls sb gb))
    (hs : (assignEach (e :: es) X.env).map (·.2) = assign e X.env :: (assignEach es X.env).map (·.2)) : PGs X (e :: es) (tGs X cls (sa ++ sb) fun vs r h => match vs with
      | [] => .no
      | x :: xs => (ga x r h).bind fun r' h' => gb xs r' h') := by
  refine ⟨fun pins s σ H vs us Q I r ⟨ι, ρ, h, ps, R, rr, rv, hw⟩ => ?_⟩
  cases ps with
  | nil => exact hw.elim
  | cons p ps =>
    obtain ⟨v, vr, rfl, r1, r2⟩ := rv
    refine (pgs_cons h1 h2 hs).run pins s σ H _ us Q I r ⟨v, vr, rfl, ι, ρ, h, p, R, rr, r1, ?_⟩
    dsimp only at hw
    cases hr : ga p ρ h with
    | ok r' h' =>
      rw [hr] at hw
      refine fun ι1 H1 σ1 l1 k1 R1 rr1 fr1 => ⟨ι1, r', h', ps, R1, rr1, r2.mono l1 k1, ?_⟩
      have hw1 : WG X cls (sa ++ sb) σ (gb ps r' h') ι1 H1 Q := WG.weak hw l1 k1
      cases hr2 : gb ps r' h' with
      | ok r2 h2 =>
        rw [hr2] at hw1
        exact fun ι2 H2 σ2 l2 k2 R2 rr2 fr2 => hw1 ι2 H2 σ2 l2 k2 R2 rr2 ⟨fr2.1.trans fr1.1, fun j hj => (fr2.2 j fun z => hj (List.mem_append_right _ z)).trans (fr1.2 j fun z => hj (List.mem_append_left _ z))⟩
      | ex c p h1 => rw [hr2] at hw1; exact hw1
      | no => rw [hr2] at hw1; exact hw1
    | ex c p h1 => rw [hr] at hw; exact hw
    | no => rw [hr] at hw; exact hw
theorem vg_tup {sl : List Nat} {es : List Expr} {k : Nat} {gb : List PV → Rho → VH → Res Rho} (hc : X.calm = true) (h : PGs X es (tGs X cls sl gb)) (hl : ∀ ps r h, ps.length ≠ es.length → ∀ r' h', gb ps r h ≠ .ok r' h')
    (hn : (assignEach es X.env).length = es.length) (hst : (assignEach es X.env).findIdx? (·.1) = none) : PG X (.Tuple es k pos) (tG X cls sl fun v r h => match v with
      | .tup xs => gb xs r h
      | _ => .no) := by
  refine ⟨fun pins s σ H v u Q I r ⟨ι, ρ, h', p, R, rr, rv, hw⟩ => ?_⟩
  cases p with
  | tup ps =>
    obtain ⟨a, vs, e1, hq, rv⟩ := rv
    by_cases hz : ps.length = es.length
    · exact (pg_tup hc h hn hst).run pins s σ H v u Q I r ⟨a, vs, e1, hq, by rw [rv.length, hz], ι, ρ, h', ps, R, rr, rv, hw⟩
    · dsimp only at hw
      cases hg : gb ps ρ h' with
      | ok r' h2 => exact absurd hg (hl _ _ _ hz _ _)
      | ex c q h2 => rw [hg] at hw; exact hw.elim
      | no => rw [hg] at hw; exact hw.elim
  | _ => exact False.elim hw
/-- an end of a target's part -/
theorem tE_bindG {sl : List Nat} {σ0 : L2.St} {ea : EX} {f : PV → VH → Res Rho} {Q : L2.St → Hp → Prop} (hW : XMono (W σ)) (R : Rx X cls ι h H) (rr : RR X.K ι H ρ σ) (hw : WG X cls sl σ0 ((ea ρ h).bind f) ι H Q) :
    tE X cls W ea σ H fun x H1 => ∃ ι1 h1 p, Le ι ι1 ∧ Kp H H1 ∧ Rx X cls ι1 h1 H1 ∧ RR X.K ι1 H1 ρ σ ∧ RV X.K ι1 H1 p x ∧ WG X cls sl σ0 (f p h1) ι1 H1 Q := by
  refine ⟨ι, ρ, h, R, rr, ?_⟩
  cases hr : ea ρ h with
  | ok p h1 =>
    rw [hr] at hw
    exact fun ι1 H1 b l kp R1 rv => ⟨ι1, h1, p, l, kp, R1, rr.mono l kp, rv, WG.weak hw l kp⟩
  | ex c p h1 => rw [hr] at hw; exact hw.elim
  | no => rw [hr] at hw; exact hw.elim
theorem vg_sub {o i : Expr} {eo ei : EX} (hW : ∀ σ, XMono (W σ)) (hset : SetV X cls) (ho : PE X o (tE X cls W eo)) (hi : PE X i (tE X cls W ei))
    (ha : ∀ v, assign (.Subscript o i pos) X.env v = (do
      let ov ← holding [v] (eval o X.env)
      let iv ← holding [v, ov] (eval i X.env)
      standAt pos
      holding [v, ov, iv] (setItem ov iv v)
      release [v, ov, iv] [])) : PG X (.Subscript o i pos) (tG X cls [] fun v r h => (eo r h).bind fun x h1 => (ei r h1).bind fun y h2 => (match vSet h2 x y v with
    | some h3 => .ok r h3
    | none => .no)) := by
  refine ⟨fun pins s σ H v u Q I rv ⟨ι, ρ, h, p, R, rr, rp, hw⟩ => ?_⟩
  rw [ha]
  have q1 := tE_bindG (hW σ) R rr hw
  refine wpAny_bind (wpAny_holding (thn (ho.run pins s σ H _ I q1) fun ov s1 ⟨x, H1, I1, r1, ι1, h1, po, l1, k1, R1, rr1, rv1, hw1⟩ => ?_))
  have q2 := tE_bindG (hW σ) R1 rr1 hw1
  refine wpAny_bind (wpAny_holding (thn (hi.run pins s1 σ H1 _ I1 q2) fun iv s2 ⟨y, H2, I2, r2, ι2, h2, pi, l2, k2, R2, rr2, rv2, hw2⟩ => ?_))
  cases hr : vSet h2 po pi p with
  | none => rw [hr] at hw2; exact hw2.elim
  | some h3 =>
    rw [hr] at hw2
    refine wpAny_bind (wpAny_standAt (wpAny_bind (wpAny_holding (thn (hset pins s2 σ H2 ι2 h2 h3 po pi p x y v ov iv u I2 R2 (rv1.mono l2 k2) rv2 ((rp.mono l1 k1).mono l2 k2) r1 r2 rv hr) fun _ s3 ⟨H3, I3, k3, R3⟩ => ?_))))
    exact wpAny_release ⟨σ, H3, I3, hw2 ι2 H3 σ (.refl _) k3 R3 (rr2.mono (.refl _) k3) ⟨rfl, fun _ _ => rfl⟩⟩
/-- an attribute's store -/
theorem set_attr {n : Nat} {c : Nat} {fs : List (Str × PV)} {f : Str} {p : PV} {v : V} {u : Value} {x : V} {ov : Value} {Q : Unit → Shared → Prop} (hn : NoAttr X.K (cls c) f) (I : Inv X pins σ H s) (R : Rx X cls ι h H) (e : h[n]? = some (.ins c fs)) (rx : RV X.K ι H (.ref n) x) (ex : RelV x ov) (rp : RV X.K ι H p v) (ev : RelV v u) (hz : fs.length < 1000)
    (k : ∀ s' H', Inv X pins σ H' s' → Kp H H' → Rx X cls ι (h.set n (.ins c (fput f p fs))) H' → Q () s') : wpAny (model X.prog X.w) X.A (setAttr ov f u) Q X.xe s := by
  obtain ⟨a, ea, rfl, dx, vs, hH, rf, cl⟩ := R.at e rx
  obtain rfl : ov = Value.ref a := ex
  refine setattr_ok I hH cl hn (by rw [rfs_len rf]; exact hz) ev fun s' I' => ?_
  have kp : Kp H (upd H a (.ins (cls c) dx (putF f v vs))) := .upd hH (fun _ z => by cases z) fun _ _ z => by cases z
  exact k s' _ I' kp (R.write ea kp (no_kc e fun _ z => by cases z) (fun ys z => by rw [e] at z; cases z) ⟨dx, _, upd_same, fput_rel (rp.mono (.refl _) kp) (rf.mono (.refl _) kp), cl⟩)
theorem vg_att {o : Expr} {f : Str} {eo : EX} {T : Tb} (hW : ∀ σ, XMono (W σ)) (hp : ∀ c f, T.plain c f = true → NoAttr X.K (cls c) f) (ho : PE X o (tE X cls W eo))
    (ha : ∀ v, assign (.Attribute o f pos) X.env v = (do
      let ov ← holding [v] (eval o X.env)
      standAt pos.atName
      holding [v, ov] (setAttr ov f v)
      release [v, ov] [])) : PG X (.Attribute o f pos) (tG X cls [] fun v r h => (eo r h).bind fun x h1 => (match x with
    | .ref n => (match h1[n]? with
      | some (.ins c fs) => if T.plain c f && Nat.ble (fs.length + 1) 1000 then .ok r (h1.set n (.ins c (fput f v fs))) else .no
      | _ => .no)
    | _ => .no)) := by
  refine ⟨fun pins s σ H v u Q I rv ⟨ι, ρ, h, p, R, rr, rp, hw⟩ => ?_⟩
  rw [ha]
  have q1 := tE_bindG (hW σ) R rr hw
  refine wpAny_bind (wpAny_holding (thn (ho.run pins s σ H _ I q1) fun ov s1 ⟨x, H1, I1, r1, ι1, h1, po, l1, k1, R1, rr1, rv1, hw1⟩ => ?_))
  cases po with
  | ref n =>
    dsimp only at hw1
    split at hw1
    · rename_i c fs e
      split at hw1
      · rename_i hc
        rw [Bool.and_eq_true] at hc
        refine wpAny_bind (wpAny_standAt (wpAny_bind (wpAny_holding (set_attr (hp _ _ hc.1) I1 R1 e rv1 r1 (rp.mono l1 k1) rv (Nat.le_of_ble_eq_true hc.2) fun s2 H2 I2 k2 R2 => ?_))))
        exact wpAny_release ⟨σ, H2, I2, hw1 ι1 H2 σ (.refl _) k2 R2 (rr1.mono (.refl _) k2) ⟨rfl, fun _ _ => rfl⟩⟩
      · exact hw1.elim
    · exact hw1.elim
  | _ => exact False.elim hw1

/-! ### assignments -/
theorem WS.ofG {sl : List Nat} {r : Res Rho} (hw : WS X cls W (match r with
      | .ok r' h2 => .nx r' h2
      | _ => .no) ι H D) : WG X cls sl σ r ι H D.nx := by
  cases r with
  | ok r' h2 => exact fun ι' H' σ' l k R rr _ => hw ι' H' σ' l k R rr
  | ex c p h2 => exact hw
  | no => exact hw
theorem vs_asg {sl : List Nat} {tg : Expr} {g : GX} (hW : ∀ σ, XMono (W σ)) (he : PE X e (tE X cls W ea)) (hg : PG X tg (tG X cls sl g)) (hs : swapsWithSole [tg] e pos.line X.env = pure false) (hst : swappedStores [tg] e X.env = pure none)
    (h1 : (assignEach [tg] X.env).map (·.2) = [assign tg X.env]) : PS X (.Assign [tg] e pos) (tS X cls W fun r h => match ea r h with
    | .ok v h1 => (match g v r h1 with
      | .ok r' h2 => .nx r' h2
      | _ => .no)
    | .ex c p h1 => .ex c p r h1
    | .no => .no) := by
  refine ⟨fun pins s σ H D I ⟨ι, ρ, h, R, rr, hw⟩ => ?_⟩
  refine (ps_asg he hg hs hst h1).run pins s σ H D I ?_
  exact (tE_bindS (f := fun v h1 => (match g v ρ h1 with
      | .ok r' h2 => .nx r' h2
      | _ => .no)) (hW σ) R rr hw).mono fun x H1 ⟨ι1, h1, p, l1, k1, R1, rr1, rv1, hw1⟩ => ⟨ι1, ρ, h1, p, R1, rr1, rv1, hw1.ofG⟩
theorem vs_set {i : Nat} {x : Str} {pos' : Pos} (hW : ∀ σ, XMono (W σ)) (hN : X.N.Nodup) (hi : X.N[i]? = some x) (hx : Loc X.env.scope x) (hf : X.fn x = true ∨ X.env.scope.names.lookup x = some .local) (he : PE X e (tE X cls W ea)) (hs : swapsWith e (some (.Name x pos')) pos.line X.env = pure false) :
    PS X (.Assign [.Name x pos'] e pos) (tS X cls W fun r h => match ea r h with
    | .ok v h1 => .nx (r.set i (some v)) h1
    | .ex c p h1 => .ex c p r h1
    | .no => .no) := by
  refine ⟨fun pins s σ H D I ⟨ι, ρ, h, R, rr, hw⟩ => ?_⟩
  refine (ps_set hN hi hx he hs hf).run pins s σ H D I ?_
  exact (tE_bindS (f := fun v h1 => .nx (ρ.set i (some v)) h1) (hW σ) R rr hw).mono fun x H1 ⟨ι1, h1, p, l1, k1, R1, rr1, rv1, hw1⟩ => hw1 ι1 H1 _ (.refl _) (.refl _) R1 (rr1.set rv1)
theorem vs_aug {i : Nat} {x : Str} {pos' : Pos} {op : Operator} {o : BO} (hop : (o = .add ∧ op = .Add) ∨ (o = .sub ∧ op = .Sub)) (hW : ∀ σ, XMono (W σ)) (hN : X.N.Nodup) (hi : X.N[i]? = some x) (hx : Loc X.env.scope x) (hf : X.fn x = true ∨ X.env.scope.names.lookup x = some .local) (he : PE X e (tE X cls W ea)) :
    PS X (.AugAssign (.Name x pos') op e pos) (tS X cls W fun r h => match r[i]? with
    | some (some x) => (match ea r h with
      | .ok y h1 => (match augV o x y with
        | some v => .nx (r.set i (some v)) h1
        | none => .no)
      | .ex c p h1 => .ex c p r h1
      | .no => .no)
    | _ => .no) := by
  refine ⟨fun pins s σ H D I ⟨ι, ρ, h, R, rr, hw⟩ => ?_⟩
  dsimp only at hw
  cases e : ρ[i]? with
  | none => rw [e] at hw; exact hw.elim
  | some w =>
    cases w with
    | none => rw [e] at hw; exact hw.elim
    | some p =>
      rw [e] at hw
      obtain ⟨v, e', rv⟩ := rr.2 i p e
      have key := tE_bindS (f := fun y h1 => (match augV o p y with
        | some v => .nx (ρ.set i (some v)) h1
        | none => .no)) (hW σ) R rr hw
      rcases hop with ⟨rfl, rfl⟩ | ⟨rfl, rfl⟩
      · refine (ps_aug hN hi hx he ip_add hf).run pins s σ H D I ⟨v, e', key.mono fun x H1 ⟨ι1, h1, q, l1, k1, R1, rr1, rv1, hw1⟩ => ?_⟩
        cases p <;> try exact False.elim hw1
        cases q <;> try exact False.elim hw1
        exact ⟨_, _, rv, rv1, hw1 ι1 H1 _ (.refl _) (.refl _) R1 (rr1.set rfl)⟩
      · refine (ps_aug hN hi hx he ip_sub hf).run pins s σ H D I ⟨v, e', key.mono fun x H1 ⟨ι1, h1, q, l1, k1, R1, rr1, rv1, hw1⟩ => ?_⟩
        cases p <;> try exact False.elim hw1
        cases q <;> try exact False.elim hw1
        exact ⟨_, _, rv, rv1, hw1 ι1 H1 _ (.refl _) (.refl _) R1 (rr1.set rfl)⟩
/-- two plain names from two values -/
theorem vals2_inv {ps : List PV} {vs : List V} {p q : PV} {K : PySem.W.Frag} (r : RVs K ι H [p, q] vs) : ∃ v w, vs = [v, w] ∧ RV K ι H p v ∧ RV K ι H q w := by
  obtain ⟨v, vr, rfl, r1, w, wr, rfl, r2, rfl⟩ := r
  exact ⟨v, w, rfl, r1, r2⟩
theorem vs_par2 {i j : Nat} {x y : Str} {a b : Expr} {es : AX} {px py pt : Pos} {kt k2 : Nat} {pt2 : Pos} (hW : ∀ σ, XMono (W σ)) (hc : X.calm = true) (hN : X.N.Nodup) (hi : X.N[i]? = some x) (hj : X.N[j]? = some y) (hij : i ≠ j)
    (hx : X.env.scope.names.lookup x = some .local) (hy : X.env.scope.names.lookup y = some .local) (ha : PA X [a, b] (tA X cls W es))
    (hsw : swappedStores [.Tuple [.Name x px, .Name y py] kt pt] (.Tuple [a, b] k2 pt2) X.env = pure (some [x, y])) (hs : swapsWithSole [.Tuple [.Name x px, .Name y py] kt pt] (.Tuple [a, b] k2 pt2) pos.line X.env = pure false) :
    PS X (.Assign [.Tuple [.Name x px, .Name y py] kt pt] (.Tuple [a, b] k2 pt2) pos) (tS X cls W fun r h => match es r h with
    | .ok vs h1 => (match vs with
      | [v, w] => .nx ((r.set i (some v)).set j (some w)) h1
      | _ => .no)
    | .ex c p h1 => .ex c p r h1
    | .no => .no) := by
  refine ⟨fun pins s σ H D I ⟨ι, ρ, h, R, rr, hw⟩ => ?_⟩
  refine (ps_par hc hN hi hj hij hx hy ha hsw hs).run pins s σ H D I ?_
  refine (tA_bindS (f := fun vs h1 => (match vs with
      | [v, w] => .nx ((ρ.set i (some v)).set j (some w)) h1
      | _ => .no)) (hW σ) R rr hw).mono fun xs H1 ⟨ι1, h1, ps, l1, k1, R1, rr1, rv1, hw1⟩ => ?_
  match ps, rv1, hw1 with
  | [p, q], rv1, hw1 =>
    obtain ⟨v, w, rfl, r1, r2⟩ := vals2_inv (ps := [p, q]) rv1
    exact ⟨v, w, rfl, hw1 ι1 H1 _ (.refl _) (.refl _) R1 ((rr1.set r1).set r2)⟩
  | [], _, hw1 => exact hw1.elim
  | [_], _, hw1 => exact hw1.elim
  | _ :: _ :: _ :: _, _, hw1 => exact hw1.elim
end
end
end VI
namespace VI
open PySem PySem.Spec PyProof.Rows L2
section
variable {X : Cx} {cls : Nat → Addr} {W : L2.St → XW}
theorem vs_par3 {i j l : Nat} {x y z : Str} {a b c : Expr} {es : AX} {px py pz pt pos : Pos} {kt k2 : Nat} {pt2 : Pos} (hW : ∀ σ, XMono (W σ)) (hc : X.calm = true) (hN : X.N.Nodup) (hi : X.N[i]? = some x) (hj : X.N[j]? = some y) (hl : X.N[l]? = some z) (hij : i ≠ j) (hil : i ≠ l) (hjl : j ≠ l)
    (hx : X.env.scope.names.lookup x = some .local) (hy : X.env.scope.names.lookup y = some .local) (hz : X.env.scope.names.lookup z = some .local) (ha : PA X [a, b, c] (tA X cls W es))
    (hsw : swappedStores [.Tuple [.Name x px, .Name y py, .Name z pz] kt pt] (.Tuple [a, b, c] k2 pt2) X.env = pure (some [x, y, z])) (hs : swapsWithSole [.Tuple [.Name x px, .Name y py, .Name z pz] kt pt] (.Tuple [a, b, c] k2 pt2) pos.line X.env = pure false) :
    PS X (.Assign [.Tuple [.Name x px, .Name y py, .Name z pz] kt pt] (.Tuple [a, b, c] k2 pt2) pos) (tS X cls W fun r h => match es r h with
    | .ok vs h1 => (match vs with
      | [v, w, u] => .nx (((r.set i (some v)).set j (some w)).set l (some u)) h1
      | _ => .no)
    | .ex c p h1 => .ex c p r h1
    | .no => .no) := by
  refine ⟨fun pins s σ H D I ⟨ι, ρ, h, R, rr, hw⟩ => ?_⟩
  refine (ps_par3 hc hN hi hj hl hij hil hjl hx hy hz ha hsw hs).run pins s σ H D I ?_
  refine (tA_bindS (f := fun vs h1 => (match vs with
      | [v, w, u] => .nx (((ρ.set i (some v)).set j (some w)).set l (some u)) h1
      | _ => .no)) (hW σ) R rr hw).mono fun xs H1 ⟨ι1, h1, ps, l1, k1, R1, rr1, rv1, hw1⟩ => ?_
  match ps, rv1, hw1 with
  | [p, q, t], rv1, hw1 =>
    obtain ⟨v, vr, rfl, r1, w, wr, rfl, r2, u, ur, rfl, r3, rfl⟩ := rv1
    exact ⟨v, w, u, rfl, hw1 ι1 H1 _ (.refl _) (.refl _) R1 (((rr1.set r1).set r2).set r3)⟩
  | [], _, hw1 => exact hw1.elim
  | [_], _, hw1 => exact hw1.elim
  | [_, _], _, hw1 => exact hw1.elim
  | _ :: _ :: _ :: _ :: _, _, hw1 => exact hw1.elim
end
end VI
set_option autoImplicit false
set_option linter.all false
set_option Elab.async false
set_option maxRecDepth 100000
set_option maxHeartbeats 2000000
/-! VI over the hand layer: what is walked is locked meanwhile. -/
namespace VI
open PySem PySem.Spec PyProof.Rows L2

/-- tuples stay -/
def Mv (K : PySem.W.Frag) (H H' : Hp) : Prop := ∀ a xs, SqT K H a xs → SqT K H' a xs
section
variable {P : Program} {w : World} {K : PySem.W.Frag} {cls : Nat → Addr} {ι ι' : List Addr} {H H' : Hp}
mutual
theorem RV.move (k : Mv K H H') : ∀ {p : PV} {v : V}, RV K ι H p v → RV K ι H' p v
  | .non, _, h => h
  | .bl _, _, h => h
  | .int _, _, h => h
  | .str _, _, h => h
  | .tup _, _, ⟨a, vs, e, q, r⟩ => ⟨a, vs, e, k _ _ q, RVs.move k r⟩
  | .ref _, _, ⟨a, e, q⟩ => ⟨a, e, q⟩
  | .err _ _, _, h => h.elim
theorem RVs.move (k : Mv K H H') : ∀ {p : List PV} {v : List V}, RVs K ι H p v → RVs K ι H' p v
  | [], _, h => h
  | _ :: _, _, ⟨v, r, e, a, b⟩ => ⟨v, r, e, RV.move k a, RVs.move k b⟩
end
theorem RFs.move (k : Mv K H H') : ∀ {p : List (Str × PV)} {v : List (Str × V)}, RFs K ι H p v → RFs K ι H' p v
  | [], _, h => h
  | _ :: _, _, ⟨v, r, e, a, b⟩ => ⟨v, r, e, RV.move k a, RFs.move k b⟩
theorem RL.move (k : Mv K H H') : ∀ {p : List (PV × PV)} {v : List (Leaf × Value)}, RL K ι H p v → RL K ι H' p v
  | [], _, h => h
  | _ :: _, _, ⟨v, u, r, e, a, b, c, d, f⟩ => ⟨v, u, r, e, a, b, RV.move k c, d, RL.move k f⟩
theorem RN.move (k : Mv K H H') : ∀ {p : List (PV × PV)} {v : List (NestedKey × Addr × Value)}, RN K ι H p v → RN K ι H' p v
  | [], _, h => h
  | _ :: _, _, ⟨a, v, u, r, e, x, y, z, b, c, d, f⟩ => ⟨a, v, u, r, e, x, y, z, RV.move k b, RV.move k c, d, RN.move k f⟩
theorem RD.move (k : Mv K H H') {a : Addr} {kvs : List (PV × PV)} {o : Obj} (h : RD P w K ι H a kvs o) : RD P w K ι H' a kvs o := by
  obtain ⟨z, y, h⟩ := h
  refine ⟨z, y, ?_⟩
  rcases h with ⟨ls, r, q⟩ | ⟨xs, es, ep, r, q⟩
  · exact .inl ⟨ls, r.move k, q⟩
  · exact .inr ⟨xs, es, ep, r.move k, q⟩
theorem RO.move (k : Mv K H H') {a : Addr} (e : H' a = H a) : ∀ {o : VO}, RO P w K cls ι H a o → RO P w K cls ι H' a o
  | .lst _ false, ⟨vs, h, r⟩ => ⟨vs, e.trans h, r.move k⟩
  | .lst _ true, ⟨vs, h, r⟩ => ⟨vs, h.imp (fun ⟨od, h⟩ => ⟨od, e.trans h⟩) id, r.move k⟩
  | .dct _ false, ⟨o, h, r⟩ => ⟨o, e.trans h, r.move k⟩
  | .dct _ true, ⟨od, o, h, r⟩ => ⟨od, o, e.trans h, r.move k⟩
  | .ins _ _, ⟨dx, vs, h, r, c⟩ => ⟨dx, vs, e.trans h, r.move k, c⟩
  | .lam _ _, h => h.elim
end

section
variable {X : Cx} {cls : Nat → Addr} {W : L2.St → XW} {pins : List (Addr × Obj)} {σ : L2.St} {H H' : Hp} {s : Shared} {ι ι' : List Addr} {ρ : Rho} {h : VH}
theorem RR.move (rr : RR X.K ι H ρ σ) (k : Mv X.K H H') : RR X.K ι H' ρ σ := ⟨rr.1, fun i p e => let ⟨v, e', r⟩ := rr.2 i p e; ⟨v, e', r.move k⟩⟩
theorem kl_none (I : Inv X pins σ H s) {a : Addr} {vs : List V} (k : KLst X.K a vs) : H a = none := by
  obtain ⟨o, its, n, e, _⟩ := k
  exact (I.bs a o (I.ok.mod.kin a o e)).2
/-- it is locked, and was not so at the def's entry -/
def LkAt (X : Cx) (ι : List Addr) (H : Hp) (n : Nat) : Prop := ∃ a od u, ι[n]? = some a ∧ H a = some (.frz od u) ∧ Mut (some u) ∧ ∀ o' u', X.H_0 a ≠ some (.frz o' u')
theorem LkAt.mono {n : Nat} (q : LkAt X ι H n) (l : Le ι ι') (k : Kp H H') : LkAt X ι' H' n :=
  let ⟨a, od, u, e, f, m, z⟩ := q
  ⟨a, od, u, l.get e, k.frz _ _ _ f, m, z⟩
/-- they can be locked -/
def Opn (h : VH) (n : Nat) : Prop := (∃ xs, h[n]? = some (.lst xs false)) ∨ ∃ kvs, h[n]? = some (.dct kvs false)
theorem lock_one {n : Nat} (I : Inv X pins σ H s) (R : Rx X cls ι h H) (q : Opn h n) : ∃ H', Inv X pins σ H' s ∧ Kp H H' ∧ Rx X cls ι (lockAt h n) H' ∧ LkAt X ι H' n ∧ (∀ b, H b = none → H' b = none) ∧ ∃ a, ι[n]? = some a ∧ ∀ o u, H a ≠ some (.frz o u) := by
  rcases q with ⟨xs, e⟩ | ⟨kvs, e⟩
  · have hl : n < ι.length := by rw [R.len]; exact (List.getElem?_eq_some_iff.mp e).1
    obtain ⟨vs, hH, rv⟩ := R.ob n _ _ (List.getElem?_eq_getElem hl) e
    obtain ⟨od, I'⟩ := I.lock hH trivial
    have kp : Kp H (upd H ι[n] (.frz od (.lst vs))) := .upd hH (fun _ z => by cases z) fun _ _ z => by cases z
    refine ⟨_, I', kp, ?_, ⟨_, od, _, List.getElem?_eq_getElem hl, upd_same, trivial, I.nofrz hH trivial⟩, fun b z => ?_, _, List.getElem?_eq_getElem hl, fun o u z => by rw [hH] at z; cases z⟩
    · have el : lockAt h n = h.set n (.lst xs true) := by unfold lockAt; rw [e]
      rw [el]
      exact R.write (List.getElem?_eq_getElem hl) kp (no_kc e fun _ z => by cases z) (fun ys z => by rw [e] at z; cases z) ⟨vs, .inl ⟨od, upd_same⟩, rv.mono (.refl _) kp⟩
    · rw [upd_ne (fun z' => by rw [z', hH] at z; cases z)]; exact z
  · have hl : n < ι.length := by rw [R.len]; exact (List.getElem?_eq_some_iff.mp e).1
    obtain ⟨o, hH, rd⟩ := R.ob n _ _ (List.getElem?_eq_getElem hl) e
    obtain ⟨od, I'⟩ := I.lock hH trivial
    have kp : Kp H (upd H ι[n] (.frz od (.ext (Is ι[n] o)))) := .upd hH (fun _ z => by cases z) fun _ _ z => by cases z
    refine ⟨_, I', kp, ?_, ⟨_, od, _, List.getElem?_eq_getElem hl, upd_same, trivial, I.nofrz hH trivial⟩, fun b z => ?_, _, List.getElem?_eq_getElem hl, fun o u z => by rw [hH] at z; cases z⟩
    · have el : lockAt h n = h.set n (.dct kvs true) := by unfold lockAt; rw [e]
      rw [el]
      exact R.write (List.getElem?_eq_getElem hl) kp (no_kc e fun _ z => by cases z) (fun ys z => by rw [e] at z; cases z) ⟨od, o, upd_same, rd.mono (.refl _) kp⟩
    · rw [upd_ne (fun z' => by rw [z', hH] at z; cases z)]; exact z
theorem lockAt_ne {n m : Nat} (hne : n ≠ m) : (lockAt h n)[m]? = h[m]? := by
  unfold lockAt
  split
  · rw [List.getElem?_set_ne hne]
  · rw [List.getElem?_set_ne hne]
  · rfl
theorem unlockAt_ne {n m : Nat} (hne : n ≠ m) : (unlockAt h n)[m]? = h[m]? := by
  unfold unlockAt
  split
  · rw [List.getElem?_set_ne hne]
  · rw [List.getElem?_set_ne hne]
  · rfl
theorem lock_all : ∀ (ns : List Nat) {h : VH} {H : Hp}, Inv X pins σ H s → Rx X cls ι h H → ns.Nodup → (∀ n ∈ ns, Opn h n) → ∃ H', Inv X pins σ H' s ∧ Kp H H' ∧ Rx X cls ι (lockAll h ns) H' ∧ (∀ n ∈ ns, LkAt X ι H' n) ∧ (∀ b, H b = none → H' b = none) ∧ ∀ n ∈ ns, ∃ a, ι[n]? = some a ∧ ∀ o u, H a ≠ some (.frz o u)
  | [], h, H, I, R, _, _ => ⟨H, I, .refl _, R, by simp, fun _ z => z, by simp⟩
  | n :: ns, h, H, I, R, nd, q => by
    obtain ⟨H1, I1, k1, R1, l1, f1, z1⟩ := lock_one I R (q n List.mem_cons_self)
    have nd' := List.nodup_cons.mp nd
    obtain ⟨H2, I2, k2, R2, l2, f2, z2⟩ := lock_all ns I1 R1 nd'.2 fun m hm => by
      have hne : n ≠ m := fun e => nd'.1 (e ▸ hm)
      rcases q m (List.mem_cons_of_mem _ hm) with ⟨xs, e⟩ | ⟨xs, e⟩
      · exact .inl ⟨xs, by rw [lockAt_ne hne]; exact e⟩
      · exact .inr ⟨xs, by rw [lockAt_ne hne]; exact e⟩
    refine ⟨H2, I2, k1.trans k2, R2, fun m hm => ?_, fun b z => f2 b (f1 b z), fun m hm => ?_⟩
    · rcases List.mem_cons.mp hm with e | hm
      · subst e
        exact l1.mono (.refl _) k2
      · exact l2 m hm
    · rcases List.mem_cons.mp hm with e | hm
      · subst e
        exact z1
      · obtain ⟨a, ea, z⟩ := z2 m hm
        exact ⟨a, ea, fun o u e => z o u (k1.frz _ _ _ e)⟩
theorem mv_unlock {a : Addr} {od : Obj} {u : HO} (e : H a = some (.frz od u)) (mu : Mut (some u)) : Mv X.K H (upd H a u) := by
  intro b xs q
  rcases q with (q | ⟨o, q⟩) | q
  · exact .inl (.inl (by rw [upd_ne (fun z => by rw [z, e] at q; cases q)]; exact q))
  · refine .inl (.inr ⟨o, ?_⟩)
    rw [upd_ne (fun z => by rw [z, e] at q; cases q; exact mu)]
    exact q
  · exact .inr q
theorem unlock_one {n : Nat} (I : Inv X pins σ H s) (R : Rx X cls ι h H) (q : LkAt X ι H n) : ∃ H' a, ι[n]? = some a ∧ (∃ od u, H a = some (.frz od u)) ∧ Inv X pins σ H' s ∧ Rx X cls ι (unlockAt h n) H' ∧ Mv X.K H H' ∧ ∀ b, b ≠ a → H' b = H b := by
  obtain ⟨a, od, u, ea, e, mu, z⟩ := q
  have mv : Mv X.K H (upd H a u) := mv_unlock e mu
  have nk : ∀ m, ¬ KC X.K h m a := fun m ⟨xs, vs, _, k⟩ => by
    have := kl_none I k
    rw [e] at this
    cases this
  have hl : n < h.length := by rw [← R.len]; exact (List.getElem?_eq_some_iff.mp ea).1
  refine ⟨upd H a u, a, ea, ⟨od, u, e⟩, I.unlock e z, ?_, mv, fun b hb => upd_ne hb⟩
  have ro := R.ob n a h[n] ea (List.getElem?_eq_getElem hl)
  have main : ∀ o, unlockAt h n = h.set n o → RO X.prog X.w X.K cls ι (upd H a u) a o → Rx X cls ι (unlockAt h n) (upd H a u) := fun o eo ho => by
    rw [eo]
    refine ⟨by simp [R.len], fun i j b e1 e2 => ?_, fun i b o' e1 e2 => ?_⟩
    · have key : ∀ i, KC X.K h i b → i ≠ n → KC X.K (h.set n o) i b := fun i ⟨xs, vs, e, q⟩ hi => ⟨xs, vs, by rw [List.getElem?_set_ne (Ne.symm hi)]; exact e, q⟩
      by_cases hb : b = a
      · subst hb
        rcases R.nd i j b e1 e2 with z | z | z
        · exact .inl z
        · exact absurd z (nk i)
        · exact absurd z (nk j)
      · have hi : ∀ i, ι[i]? = some b → i ≠ n := fun i e1 z => by subst z; rw [ea] at e1; cases e1; exact hb rfl
        rcases R.nd i j b e1 e2 with z | z | z
        · exact .inl z
        · exact .inr (.inl (key i z (hi i e1)))
        · exact .inr (.inr (key j z (hi j e2)))
    · by_cases hi : n = i
      · subst hi
        rw [ea] at e1
        cases e1
        rw [List.getElem?_set_self hl] at e2
        cases e2
        exact ho
      · rw [List.getElem?_set_ne hi] at e2
        have hb : b ≠ a := fun z => by
          subst z
          rcases R.nd n i b ea e1 with z | z | z
          · exact hi z
          · exact nk _ z
          · exact nk _ z
        exact (R.ob i b o' e1 e2).move mv (upd_ne hb)
  match ho : h[n], ro with
  | .lst xs false, ro => obtain ⟨vs, hH, rv⟩ := ro; rw [e] at hH; cases hH
  | .lst xs true, ro =>
    obtain ⟨vs, hH, rv⟩ := ro
    rcases hH with ⟨od', hH⟩ | k
    · rw [e] at hH
      cases hH
      exact main (.lst xs false) (by unfold unlockAt; rw [List.getElem?_eq_getElem hl, ho]) ⟨vs, upd_same, rv.move mv⟩
    · exact absurd (kl_none I k) (by rw [e]; simp)
  | .dct kvs false, ro => obtain ⟨o, hH, rv⟩ := ro; rw [e] at hH; cases hH
  | .dct kvs true, ro =>
    obtain ⟨od', o, hH, rd⟩ := ro
    rw [e] at hH
    cases hH
    exact main (.dct kvs false) (by unfold unlockAt; rw [List.getElem?_eq_getElem hl, ho]) ⟨o, upd_same, rd.move mv⟩
  | .ins c fs, ro => obtain ⟨dx, vs, hH, rv⟩ := ro; rw [e] at hH; cases hH
  | .lam _ _, ro => exact ro.elim
theorem unlock_all : ∀ (ns : List Nat) {h : VH} {H : Hp}, Inv X pins σ H s → Rx X cls ι h H → ns.Nodup → (∀ n ∈ ns, LkAt X ι H n) → ∃ H', Inv X pins σ H' s ∧ Rx X cls ι (unlockAll h ns) H' ∧ Mv X.K H H' ∧ (∀ b, H b = none → H' b = none) ∧
    ∀ H0, Kp H0 H → (∀ n ∈ ns, ∃ a, ι[n]? = some a ∧ ∀ o u, H0 a ≠ some (.frz o u)) → Kp H0 H'
  | [], h, H, I, R, _, _ => ⟨H, I, R, fun _ _ q => q, fun _ z => z, fun _ k _ => k⟩
  | n :: ns, h, H, I, R, nd, q => by
    obtain ⟨H1, a, ea, ⟨od, u, ef⟩, I1, R1, m1, f1⟩ := unlock_one I R (q n List.mem_cons_self)
    have nd' := List.nodup_cons.mp nd
    obtain ⟨H2, I2, R2, m2, f2, k2⟩ := unlock_all ns I1 R1 nd'.2 fun m hm => by
      have hne : n ≠ m := fun e => nd'.1 (e ▸ hm)
      obtain ⟨b, od', u', eb, e, mu, z⟩ := q m (List.mem_cons_of_mem _ hm)
      have hb : b ≠ a := fun z => by
        subst z
        rcases R.nd n m b ea eb with z | ⟨_, _, _, k⟩ | ⟨_, _, _, k⟩
        · exact hne z
        · exact absurd (kl_none I k) (by rw [e]; simp)
        · exact absurd (kl_none I k) (by rw [e]; simp)
      exact ⟨b, od', u', eb, by rw [f1 b hb]; exact e, mu, z⟩
    refine ⟨H2, I2, R2, fun b xs q => m2 _ _ (m1 _ _ q), fun b z => f2 b (by rw [f1 b (fun e => by rw [e, ef] at z; cases z)]; exact z), fun H0 k0 z => k2 H0 ?_ fun m hm => z m (List.mem_cons_of_mem _ hm)⟩
    obtain ⟨a', ea', z0⟩ := z n List.mem_cons_self
    rw [ea] at ea'
    cases ea'
    refine ⟨fun b xs e => ?_, fun b o v e => ?_⟩
    · have := k0.tup _ _ e
      rw [f1 b (fun z => by rw [z, ef] at this; cases this)]
      exact this
    · rw [f1 b (fun z' => by rw [z'] at e; exact z0 _ _ e)]
      exact k0.frz _ _ _ e
end
end VI
set_option autoImplicit false
set_option linter.all false
set_option Elab.async false
set_option maxRecDepth 100000
set_option maxHeartbeats 2000000
/-! VI over the hand layer: loops. -/
namespace VI
open PySem PySem.Spec PyProof.Rows L2
section
variable {X : Cx} {cls : Nat → Addr} {W : L2.St → XW} {pins : List (Addr × Obj)} {σ : L2.St} {H H' : Hp} {s : Shared} {ι ι' : List Addr} {ρ : Rho} {h : VH} {D : Ends}
/-- J yields what xs says, from ι, H on -/
structure ItFor (K : PySem.W.Frag) (ι : List Addr) (H : Hp) (xs : List PV) (J : It) : Prop where
  stop : ∀ ι' H', Le ι ι' → Kp H H' → J.stop xs.length H'
  go : ∀ i ι' H', Le ι ι' → Kp H H' → i < xs.length → J.go i H'
  yld : ∀ i ι' H' x H2 p, Le ι ι' → Kp H H' → J.yld i H' x H2 → xs[i]? = some p → Same H' H2 ∧ RV K ι' H2 p x
def WI (X : Cx) (cls : Nat → Addr) (W : XW) (r : Res (List PV × List Nat)) (ι : List Addr) (H : Hp) (R : It → Hp → Prop) : Prop := match r with
  | .ok (xs, ls) h1 => ∀ ι' H1 J, Le ι ι' → Kp H H1 → Rx X cls ι' (lockAll h1 ls) H1 → ls.Nodup → (∀ n ∈ ls, LkAt X ι' H1 n) → (∀ n ∈ ls, ∃ a, ι'[n]? = some a ∧ ∀ o u, H a ≠ some (.frz o u)) → ItFor X.K ι' H1 xs J → R J H1
  | .ex c p h' => W c p h' ι H
  | .no => False
def tI (X : Cx) (cls : Nat → Addr) (W : L2.St → XW) (e : IX) : TI := fun σ H R => ∃ ι ρ h, Rx X cls ι h H ∧ RR X.K ι H ρ σ ∧ WI X cls (W σ) (e ρ h) ι H R
/-- once it may be unlocked -/
def Shut (X : Cx) (D : Ends) : Ends where
  nx := fun σ' H' => ∀ pins s, Inv X pins σ' H' s → ∃ H2, Inv X pins σ' H2 s ∧ D.nx σ' H2
  rt := fun x H' => ∀ pins σ' s, Inv X pins σ' H' s → ∃ H2, Inv X pins σ' H2 s ∧ D.rt x H2
  bk := fun σ' H' => ∀ pins s, Inv X pins σ' H' s → ∃ H2, Inv X pins σ' H2 s ∧ D.bk σ' H2
  ct := fun σ' H' => ∀ pins s, Inv X pins σ' H' s → ∃ H2, Inv X pins σ' H2 s ∧ D.ct σ' H2
theorem unshut {f : Flow} {s' : Shared} (q : SP X pins (Shut X D) f s') : SP X pins D f s' := by
  cases f with
  | next => obtain ⟨σ', H', I, q⟩ := q; obtain ⟨H2, I2, q2⟩ := q _ _ I; exact ⟨σ', H2, I2, q2⟩
  | brk => obtain ⟨σ', H', I, q⟩ := q; obtain ⟨H2, I2, q2⟩ := q _ _ I; exact ⟨σ', H2, I2, q2⟩
  | cont => obtain ⟨σ', H', I, q⟩ := q; obtain ⟨H2, I2, q2⟩ := q _ _ I; exact ⟨σ', H2, I2, q2⟩
  | ret v => obtain ⟨x, σ', H', I, r, q⟩ := q; obtain ⟨H2, I2, q2⟩ := q _ _ _ I; exact ⟨x, σ', H2, I2, r, q2⟩
/-- what was wanted behind the unlocking -/
theorem WS.done {ls : List Nat} {o : SR} {H1 : Hp} {ι1 : List Addr} (hF : ∀ σ c p h ι H, ¬ W σ c p h ι H) (hw : WS X cls W (o.done ls) ι H D) (l1 : Le ι ι1) (k1 : Kp H H1) (nd : ls.Nodup) (lk : ∀ n ∈ ls, LkAt X ι1 H1 n) (nf : ∀ n ∈ ls, ∃ a, ι1[n]? = some a ∧ ∀ o u, H a ≠ some (.frz o u)) :
    WS X cls W o ι1 H1 (Shut X D) := by
  have core : ∀ {ι' : List Addr} {H' : Hp} {σ' : L2.St} {pins : List (Addr × Obj)} {s : Shared} {h' : VH}, Le ι1 ι' → Kp H1 H' → Rx X cls ι' h' H' → Inv X pins σ' H' s → ∃ H2, Inv X pins σ' H2 s ∧ Rx X cls ι' (unlockAll h' ls) H2 ∧ Mv X.K H' H2 ∧ Kp H H2 := fun {ι' H' σ' pins s h'} l k R I => by
    obtain ⟨H2, I2, R2, m2, _, k2⟩ := unlock_all ls I R nd fun n hn => (lk n hn).mono l k
    exact ⟨H2, I2, R2, m2, k2 H (k1.trans k) fun n hn => let ⟨a, ea, z⟩ := nf n hn; ⟨a, l.get ea, z⟩⟩
  cases o with
  | nx r h' =>
    exact fun ι' H' σ' l k R rr pins s I => by
      obtain ⟨H2, I2, R2, m2, k2⟩ := core l k R I
      exact ⟨H2, I2, hw ι' H2 σ' (l1.trans l) k2 R2 (rr.move m2)⟩
  | rt v h' =>
    exact fun ι' H' x l k R rv pins σ' s I => by
      obtain ⟨H2, I2, R2, m2, k2⟩ := core l k R I
      exact ⟨H2, I2, hw ι' H2 x (l1.trans l) k2 R2 (rv.move m2)⟩
  | ct r h' =>
    exact fun ι' H' σ' l k R rr pins s I => by
      obtain ⟨H2, I2, R2, m2, k2⟩ := core l k R I
      exact ⟨H2, I2, hw ι' H2 σ' (l1.trans l) k2 R2 (rr.move m2)⟩
  | ex c p r h' => exact fun ι' H' σ' l k rr => (hF _ _ _ _ _ _ (hw ι' H' σ' (l1.trans l) (k1.trans k) rr)).elim
  | no => exact hw
/-- the loop's turns -/
theorem forL_cons (g : GX) (b : SX) (x : PV) (xs : List PV) (r : Rho) (h : VH) : forL g b (x :: xs) r h = (match g x r h with
    | .ok r' h' => (match b r' h' with
      | .nx r'' h'' => forL g b xs r'' h''
      | .ct r'' h'' => forL g b xs r'' h''
      | o => o)
    | _ => .no) := rfl
theorem vs_for {tg iter : Expr} {body : List Stmt} {pos : Pos} {ei : IX} {sl : List Nat} {g : GX} {b : SX} (hF : ∀ σ c p h ι H, ¬ W σ c p h ι H) (hp : PassesOwn (model X.prog X.w) X.A X.env X.xe) (hc : X.calm = true) (hi : PI X tg iter (tI X cls W ei)) (hg : PG X tg (tG X cls sl g)) (hb : PSs X body (tS X cls W b))
    (hs : ∀ x, foldedSetIterable iter X.env x = pure x) : PS X (.For tg iter body [] pos) (tS X cls W fun r h => match ei r h with
    | .ok (xs, ls) h1 => (forL g b xs r (lockAll h1 ls)).done ls
    | .ex c p h1 => .ex c p r h1
    | .no => .no) := by
  refine ⟨fun pins s σ H D I ⟨ι, ρ, h, R, rr, hw⟩ => ?_⟩
  refine thn ((ps_for hp hc hi hg hb hs).run pins s σ H (Shut X D) I ⟨ι, ρ, h, R, rr, ?_⟩) fun f s' q => unshut q
  dsimp only at hw
  cases hr : ei ρ h with
  | ex c p h1 => rw [hr] at hw; exact (hF _ _ _ _ _ _ (hw.exc rr)).elim
  | no => rw [hr] at hw; exact hw.elim
  | ok xl h1 =>
    obtain ⟨xs, ls⟩ := xl
    rw [hr] at hw
    refine fun ι1 H1 J l1 k1 R1 nd lk nf it => ?_
    have hw1 := WS.done hF hw l1 k1 nd lk nf
    refine ⟨fun i m σ H => m = xs.length - i ∧ i ≤ xs.length ∧ ∃ ι' ρ' h', Le ι1 ι' ∧ Kp H1 H ∧ Rx X cls ι' h' H ∧ RR X.K ι' H ρ' σ ∧ WS X cls W (forL g b (xs.drop i) ρ' h') ι' H (Shut X D), ⟨xs.length, by simp, Nat.zero_le _, ι1, ρ, lockAll h1 ls, .refl _, .refl _, R1, rr.mono l1 k1, hw1⟩, ?_⟩
    rintro i m σ2 H2 ⟨rfl, hi, ι2, ρ2, h2, l2, k2, R2, rr2, hw2⟩
    by_cases hlt : i < xs.length
    · right
      refine ⟨it.go i ι2 H2 l2 k2 hlt, fun σ H => ∃ ι' ρ' h', Le ι1 ι' ∧ Kp H1 H ∧ Rx X cls ι' h' H ∧ RR X.K ι' H ρ' σ ∧ WS X cls W (forL g b (xs.drop (i + 1)) ρ' h') ι' H (Shut X D), fun σ' H' q => ⟨xs.length - (i + 1), by omega, rfl, hlt, q⟩, fun x H3 y => ?_⟩
      obtain ⟨sm, rv⟩ := it.yld i ι2 H2 x H3 xs[i] l2 k2 y (List.getElem?_eq_getElem hlt)
      have kp := Kp.same sm
      refine ⟨ι2, ρ2, h2, xs[i], R2.same sm, rr2.mono (.refl _) kp, rv, ?_⟩
      rw [List.drop_eq_getElem_cons hlt, forL_cons] at hw2
      cases hr2 : g xs[i] ρ2 h2 with
      | ex c p h3 => rw [hr2] at hw2; exact hw2.elim
      | no => rw [hr2] at hw2; exact hw2.elim
      | ok r3 h3 =>
        rw [hr2] at hw2
        dsimp only at hw2
        refine fun ι4 H4 σ4 l4 k4 R4 rr4 _ => ⟨ι4, r3, h3, R4, rr4, ?_⟩
        have l14 := l2.trans l4
        have k14 := k2.trans (kp.trans k4)
        cases hr3 : b r3 h3 with
        | nx r5 h5 =>
          rw [hr3] at hw2
          exact fun ι5 H5 σ5 l5 k5 R5 rr5 => ⟨ι5, r5, h5, l14.trans l5, k14.trans k5, R5, rr5, WS.weak hw2 (l4.trans l5) ((kp.trans k4).trans k5)⟩
        | ct r5 h5 =>
          rw [hr3] at hw2
          exact fun ι5 H5 σ5 l5 k5 R5 rr5 => ⟨ι5, r5, h5, l14.trans l5, k14.trans k5, R5, rr5, WS.weak hw2 (l4.trans l5) ((kp.trans k4).trans k5)⟩
        | rt v h5 =>
          rw [hr3] at hw2
          exact fun ι5 H5 x5 l5 k5 R5 rv5 => hw2 ι5 H5 x5 (l4.trans l5) ((kp.trans k4).trans k5) R5 rv5
        | ex c p r5 h5 =>
          rw [hr3] at hw2
          exact fun ι5 H5 σ5 l5 k5 rr5 => hw2 ι5 H5 σ5 (l4.trans l5) ((kp.trans k4).trans k5) rr5
        | no => rw [hr3] at hw2; exact hw2.elim
    · left
      have e : i = xs.length := by omega
      subst e
      refine ⟨it.stop ι2 H2 l2 k2, ?_⟩
      rw [List.drop_length] at hw2
      exact hw2 ι2 H2 σ2 (.refl _) (.refl _) R2 rr2
theorem whileL_succ (t : TX) (b : SX) (n : Nat) (r : Rho) (h : VH) : whileL t b (n + 1) r h = (match t r h with
    | .ok true h' => (match b r h' with
      | .nx r'' h'' => whileL t b n r'' h''
      | .ct r'' h'' => whileL t b n r'' h''
      | o => o)
    | .ok false h' => .nx r h'
    | .ex c p h' => .ex c p r h'
    | .no => .no) := rfl
theorem vs_while {c : Expr} {body : List Stmt} {pos : Pos} {t : TX} {b : SX} (hW : ∀ σ, XMono (W σ)) (hp : PassesOwn (model X.prog X.w) X.A X.env X.xe) (hc : PT X c (tT X cls W t)) (hb : PSs X body (tS X cls W b)) (fu : Nat) :
    PS X (.While c body [] pos) (tS X cls W fun r h => whileL t b fu r h) := by
  refine ⟨fun pins s σ H D I ⟨ι, ρ, h, R, rr, hw⟩ => ?_⟩
  refine (ps_while hp hc hb).run pins s σ H D I ?_
  refine ⟨fun m σ H => ∃ ι ρ h, Rx X cls ι h H ∧ RR X.K ι H ρ σ ∧ WS X cls W (whileL t b m ρ h) ι H D, ⟨fu, ι, ρ, h, R, rr, hw⟩, ?_⟩
  rintro m σ1 H1 ⟨ι1, ρ1, h1, R1, rr1, hw1⟩
  cases m with
  | zero => exact hw1.elim
  | succ m =>
    rw [whileL_succ] at hw1
    have hw' : WS X cls W (match t ρ1 h1 with
        | .ok v h2 => (match v with
          | true => (match b ρ1 h2 with
            | .nx r'' h'' => whileL t b m r'' h''
            | .ct r'' h'' => whileL t b m r'' h''
            | o => o)
          | false => .nx ρ1 h2)
        | .ex c p h2 => .ex c p ρ1 h2
        | .no => .no) ι1 H1 D := by
      cases hr : t ρ1 h1 with
      | ok b h1 => rw [hr] at hw1; cases b <;> exact hw1
      | ex c p h1 => rw [hr] at hw1; exact hw1
      | no => rw [hr] at hw1; exact hw1
    refine (tT_bindS (f := fun v h2 => (match v with
          | true => (match b ρ1 h2 with
            | .nx r'' h'' => whileL t b m r'' h''
            | .ct r'' h'' => whileL t b m r'' h''
            | o => o)
          | false => .nx ρ1 h2)) (hW σ1) R1 rr1 hw').mono fun k H2 ⟨ι2, h2, l2, k2, R2, rr2, hw2⟩ => ?_
    cases k with
    | false => rw [if_neg Bool.false_ne_true]; exact hw2 ι2 H2 σ1 (.refl _) (.refl _) R2 rr2
    | true =>
      rw [if_pos rfl]
      refine ⟨fun σ H => ∃ ι ρ h, Rx X cls ι h H ∧ RR X.K ι H ρ σ ∧ WS X cls W (whileL t b m ρ h) ι H D, fun σ' H' q => ⟨m, Nat.lt_succ_self _, q⟩, ι2, ρ1, h2, R2, rr2, ?_⟩
      dsimp only at hw2
      cases hr3 : b ρ1 h2 with
      | nx r5 h5 =>
        rw [hr3] at hw2
        exact fun ι5 H5 σ5 l5 k5 R5 rr5 => ⟨ι5, r5, h5, R5, rr5, WS.weak hw2 l5 k5⟩
      | ct r5 h5 =>
        rw [hr3] at hw2
        exact fun ι5 H5 σ5 l5 k5 R5 rr5 => ⟨ι5, r5, h5, R5, rr5, WS.weak hw2 l5 k5⟩
      | rt v h5 => rw [hr3] at hw2; exact hw2
      | ex c p r5 h5 => rw [hr3] at hw2; exact hw2
      | no => rw [hr3] at hw2; exact hw2.elim
end
end VI
set_option autoImplicit false
set_option linter.all false
set_option Elab.async false
set_option maxRecDepth 100000
set_option maxHeartbeats 2000000
/-! VI over the hand layer: what is walked. -/
namespace VI
open PySem PySem.Spec PyProof.Rows L2
section
variable {P : Program} {w : World} {K : PySem.W.Frag} {tg : Expr} {d : Addr} {o : Obj} {es : Array DictEntry} {ep : Nat}
/-- the dict's keys, values, entries; it is locked -/
def ItKy (d : Addr) (o : Obj) (es : Array DictEntry) : It :=
  ⟨fun i H => (∃ u, H d = some (.frz o u)) ∧ i < es.size, fun i H x H' => H' = H ∧ ∃ en, es[i]? = some en ∧ RelV x en.key, fun i H => (∃ u, H d = some (.frz o u)) ∧ es.size ≤ i⟩
def ItVl (d : Addr) (o : Obj) (es : Array DictEntry) : It :=
  ⟨fun i H => (∃ u, H d = some (.frz o u)) ∧ i < es.size, fun i H x H' => H' = H ∧ ∃ en, es[i]? = some en ∧ RelV x en.val, fun i H => (∃ u, H d = some (.frz o u)) ∧ es.size ≤ i⟩
def ItIm (d : Addr) (o : Obj) (es : Array DictEntry) : It :=
  ⟨fun i H => (∃ u, H d = some (.frz o u)) ∧ i < es.size, fun i H x H' => ∃ t en y z, es[i]? = some en ∧ RelV y en.key ∧ RelV z en.val ∧ x = .ref t ∧ H t = none ∧ H' = upd H t (.tup [y, z]), fun i H => (∃ u, H d = some (.frz o u)) ∧ es.size ≤ i⟩
theorem raw_at {X : Cx} {pins : List (Addr × Obj)} {σ : L2.St} {H : Hp} {s : Shared} (I : Inv X pins σ H s) (hx : o.ExactDict) (hd : o.data = .dict es ep) (h : ∃ u, H d = some (.frz o u)) : s.heap.DictRaw d es ep := by
  obtain ⟨u, h⟩ := h
  exact ⟨o, (I.hok d _ h).1, hx, hd⟩
theorem turn_ky (it : Addr) (hx : o.ExactDict) (hod : o.data = .dict es ep) (hk : ∀ (i : Nat) (en : DictEntry), es[i]? = some en → ∃ x, RelV x en.key) : Turn P w K tg (ItKy d o es) [it] it (fun i h => h.IsKeyIter it d i es.size ep) where
  mem := by simp
  obj := fun i h st b hb => by
    obtain rfl : b = it := by simpa using hb
    obtain ⟨oi, e, c, dd⟩ := st
    exact ⟨oi, e, fun v z => by rw [dd] at z; cases z⟩
  keep := fun i h h' st k => st.at fun oi e => k it (by simp) oi e
  item := by
    intro X hP hw hK hc i pins s σ H E I hf st hg
    subst hP hw hK
    obtain ⟨hfr, hi⟩ := hg
    obtain ⟨f0, f1, f2, f3, f4, f5⟩ := hf it (by simp)
    obtain ⟨x, rx⟩ := hk i es[i] (Array.getElem?_eq_getElem hi)
    refine wpAny_pyNext_keys_item_raw st (raw_at I hx hod hfr) hi fun h2 st2 sb => ?_
    have I1 : Inv X pins σ H { s with heap := h2 } := I.turned (t' := s.toks) (fun b ob hb e => (sb.2 b hb).trans e) f0 f1 f3 f4 f5
    obtain ⟨oi, e, c, dd⟩ := id st2
    exact ⟨_, rfl, go_of (s := { s with heap := h2 }) e c dd (by decide) ⟨x, H, I1, rx, ⟨rfl, _, Array.getElem?_eq_getElem hi, rx⟩, st2, fun b hb => (hf b hb).1⟩⟩
  done := by
    intro X hP hw hK hc i pins s σ H E I hf st hg
    subst hP hw hK
    obtain ⟨f0, f1, f2, f3, f4, f5⟩ := hf it (by simp)
    exact wpAny_pyNext_keys_end_raw (I.ok.hd hc) st (raw_at I hx hod hg.1) hg.2 fun h2 eb => ⟨rfl, I.turned (t' := s.toks) (fun b ob hb e => eb b ob hb e) f0 f1 f3 f4 f5⟩
  self := fun A i s Q E st h => wpAny_pyIter_keyiter st h
theorem turn_vl (it : Addr) (hx : o.ExactDict) (hod : o.data = .dict es ep) (hk : ∀ (i : Nat) (en : DictEntry), es[i]? = some en → ∃ x, RelV x en.val) : Turn P w K tg (ItVl d o es) [it] it (fun i h => h.IsValIter it d i es.size ep) where
  mem := by simp
  obj := fun i h st b hb => by
    obtain rfl : b = it := by simpa using hb
    obtain ⟨oi, e, c, dd⟩ := st
    exact ⟨oi, e, fun v z => by rw [dd] at z; cases z⟩
  keep := fun i h h' st k => st.at fun oi e => k it (by simp) oi e
  item := by
    intro X hP hw hK hc i pins s σ H E I hf st hg
    subst hP hw hK
    obtain ⟨hfr, hi⟩ := hg
    obtain ⟨f0, f1, f2, f3, f4, f5⟩ := hf it (by simp)
    obtain ⟨x, rx⟩ := hk i es[i] (Array.getElem?_eq_getElem hi)
    refine wpAny_pyNext_values_item_raw st (raw_at I hx hod hfr) hi fun h2 st2 sb => ?_
    have I1 : Inv X pins σ H { s with heap := h2 } := I.turned (t' := s.toks) (fun b ob hb e => (sb.2 b hb).trans e) f0 f1 f3 f4 f5
    obtain ⟨oi, e, c, dd⟩ := id st2
    exact ⟨_, rfl, go_of (s := { s with heap := h2 }) e c dd (by decide) ⟨x, H, I1, rx, ⟨rfl, _, Array.getElem?_eq_getElem hi, rx⟩, st2, fun b hb => (hf b hb).1⟩⟩
  done := by
    intro X hP hw hK hc i pins s σ H E I hf st hg
    subst hP hw hK
    obtain ⟨f0, f1, f2, f3, f4, f5⟩ := hf it (by simp)
    exact wpAny_pyNext_values_end_raw (I.ok.hd hc) st (raw_at I hx hod hg.1) hg.2 fun h2 eb => ⟨rfl, I.turned (t' := s.toks) (fun b ob hb e => eb b ob hb e) f0 f1 f3 f4 f5⟩
  self := fun A i s Q E st h => wpAny_pyIter_valiter st h
theorem turn_im {elts : List Expr} {kk : Nat} {tpos : Pos} (it : Addr) (hx : o.ExactDict) (hod : o.data = .dict es ep) (hk : ∀ (i : Nat) (en : DictEntry), es[i]? = some en → (∃ x, RelV x en.key) ∧ ∃ x, RelV x en.val) :
    Turn P w K (.Tuple elts kk tpos) (ItIm d o es) [it] it (fun i h => ∃ a b, IsItemIter h it d i es.size ep a b) where
  mem := by simp
  obj := fun i h st b hb => by
    obtain rfl : b = it := by simpa using hb
    obtain ⟨_, _, e⟩ := st
    exact ⟨_, e, fun v z => nomatch z⟩
  keep := fun i h h' st k => let ⟨a, b, e⟩ := st; ⟨a, b, k it (by simp) _ e⟩
  item := by
    intro X hP hw hK hc i pins s σ H E I hf st hg
    subst hP hw hK
    obtain ⟨hfr, hi⟩ := hg
    obtain ⟨⟨y, ry⟩, z, rz⟩ := hk i es[i] (Array.getElem?_eq_getElem hi)
    obtain ⟨a, b, he⟩ := st
    have hlt : it < s.heap.objs.size := Heap.lt_size he
    refine wpAny_pyNext_items_item_raw he (raw_at I hx hod hfr) hi fun h2 ho hT hz hk => ?_
    refine ⟨_, rfl, wpAny_letOwnedTupleGo_items (s := { s with heap := h2 }) ho fun h3 he3 sb => ?_⟩
    have hT2 : h3.get? s.heap.objs.size = some { cls := .type "tuple", data := .seq #[es[i].key, es[i].val] } := (sb.2 _ (Nat.ne_of_gt hlt)).trans hT
    have new : ObjOk X.prog X.w (upd H s.heap.objs.size (.tup [y, z])) h3 s.heap.objs.size (.tup [y, z]) := ⟨by show 2 ≤ sizeLine; decide, [es[i].key, es[i].val], .cons ry (.cons rz .nil), ⟨_, hT2, rfl, _, rfl⟩⟩
    have I1 : Inv X pins σ (upd H s.heap.objs.size (.tup [y, z])) { s with heap := h3 } := I.turnedNew (t' := s.toks) (ch := [it]) (fun c ob hb e => (sb.2 c (by simpa using hb)).trans (hk c ob (by simpa using hb) e)) hf (Nat.le_refl _) new
    refine ⟨.ref s.heap.objs.size, _, I1, rfl, ⟨_, _, y, z, Array.getElem?_eq_getElem hi, ry, rz, rfl, I.hok.fresh (Nat.le_refl _), rfl⟩, ⟨_, _, he3⟩, fun c hb => ?_⟩
    obtain rfl : c = it := by simpa using hb
    rw [upd_ne (Nat.ne_of_lt hlt)]
    exact (hf c hb).1
  done := by
    intro X hP hw hK hc i pins s σ H E I hf st hg
    subst hP hw hK
    obtain ⟨f0, f1, f2, f3, f4, f5⟩ := hf it (by simp)
    obtain ⟨a, b, he⟩ := st
    exact wpAny_pyNext_items_end_raw (I.ok.hd hc) he (raw_at I hx hod hg.1) hg.2 fun h2 eb => ⟨rfl, I.turned (t' := s.toks) (fun c ob hb e => eb c ob hb e) f0 f1 f3 f4 f5⟩
  self := fun A i s Q E st h => let ⟨_, _, e⟩ := st; wpAny_pyIter_itemiter e h
end

section
variable {X : Cx} {cls : Nat → Addr} {W : L2.St → XW} {pins : List (Addr × Obj)} {σ : L2.St} {H H' : Hp} {s : Shared} {ι ι' : List Addr} {ρ : Rho} {h : VH} {tg : Expr}
/-- its items, and what of it must be locked -/
structure Wk (X : Cx) (cls : Nat → Addr) (h : VH) (ls : List Nat) (ι : List Addr) (H : Hp) (ι' : List Addr) (H1 : Hp) : Prop where
  le : Le ι ι'
  kp : Kp H H1
  rx : Rx X cls ι' (lockAll h ls) H1
  lk : ∀ n ∈ ls, LkAt X ι' H1 n
  nf : ∀ n ∈ ls, ∃ a, ι'[n]? = some a ∧ ∀ o u, H a ≠ some (.frz o u)
  ok : ∃ hp : Heap, HOk X.prog X.w H1 hp
/-- a part runs; what it tells of is locked at its end -/
def tEL (X : Cx) (cls : Nat → Addr) (W : L2.St → XW) (e : EX) (ls : PV → VH → List Nat) : TE := fun σ H Q => ∃ ι ρ h, Rx X cls ι h H ∧ RR X.K ι H ρ σ ∧ match e ρ h with
  | .ok p h1 => (ls p h1).Nodup ∧ (∀ n ∈ ls p h1, Opn h1 n) ∧ ∀ ι' H1 x, Wk X cls h1 (ls p h1) ι H ι' H1 → RV X.K ι' H1 p x → Q x H1
  | .ex c p h1 => W σ c p h1 ι H
  | .no => False
theorem pe_lk {e : Expr} {ea : EX} {ls : PV → VH → List Nat} (he : PE X e (tE X cls W ea)) : PE X e (tEL X cls W ea ls) := by
  refine ⟨fun pins s σ H Q I ⟨ι, ρ, h, R, rr, hw⟩ => ?_⟩
  have key : tE X cls W ea σ H fun x H1 => ∀ s, Inv X pins σ H1 s → ∃ H2, Inv X pins σ H2 s ∧ Q x H2 := by
    refine ⟨ι, ρ, h, R, rr, ?_⟩
    cases hr : ea ρ h with
    | ok p h1 =>
      rw [hr] at hw
      intro ι1 H1 x l1 k1 R1 rv s I1
      obtain ⟨H2, I2, k2, R2, lk, _, nf⟩ := lock_all (ls p h1) I1 R1 hw.1 hw.2.1
      exact ⟨H2, I2, hw.2.2 ι1 H2 x ⟨l1, k1.trans k2, R2, lk, fun n hn => let ⟨a, ea, z⟩ := nf n hn; ⟨a, ea, fun o u e => z o u (k1.frz _ _ _ e)⟩, _, I2.hok⟩ (rv.mono (.refl _) k2)⟩
    | ex c p h1 => rw [hr] at hw; exact hw
    | no => rw [hr] at hw; exact hw.elim
  refine thn (he.run pins s σ H _ I key) fun v s1 ⟨x, H1, I1, r, q⟩ => ?_
  obtain ⟨H2, I2, q2⟩ := q s1 I1
  exact ⟨x, H2, I2, r, q2⟩
theorem walkV_inv {p : PV} {xs : List PV} {ls : List Nat} (e : walkV h p = some (xs, ls)) : ls.Nodup ∧ (∀ n ∈ ls, Opn h n) ∧
    ((p = .tup xs ∧ ls = []) ∨ (∃ n, p = .ref n ∧ (lockAll h ls)[n]? = some (.lst xs true)) ∨ ∃ n kvs, p = .ref n ∧ xs = kvs.map Prod.fst ∧ (lockAll h ls)[n]? = some (.dct kvs true)) := by
  cases p with
  | tup ys =>
    cases (show some (ys, []) = some (xs, ls) from e)
    exact ⟨by simp, by simp, .inl ⟨rfl, rfl⟩⟩
  | ref n =>
    simp only [walkV] at e
    split at e
    · rename_i ys lk en
      cases lk with
      | true =>
        cases e
        exact ⟨by simp, by simp, .inr (.inl ⟨n, rfl, en⟩)⟩
      | false =>
        cases e
        refine ⟨by simp, fun m hm => ?_, .inr (.inl ⟨n, rfl, ?_⟩)⟩
        · obtain rfl : m = n := by simpa using hm
          exact .inl ⟨_, en⟩
        · show (lockAt h n)[n]? = _
          unfold lockAt
          rw [en]
          rw [List.getElem?_set_self (List.getElem?_eq_some_iff.mp en).1]
    · rename_i kvs lk en
      cases lk with
      | true =>
        cases e
        exact ⟨by simp, by simp, .inr (.inr ⟨n, kvs, rfl, rfl, en⟩)⟩
      | false =>
        cases e
        refine ⟨by simp, fun m hm => ?_, .inr (.inr ⟨n, kvs, rfl, rfl, ?_⟩)⟩
        · obtain rfl : m = n := by simpa using hm
          exact .inr ⟨_, en⟩
        · show (lockAt h n)[n]? = _
          unfold lockAt
          rw [en]
          rw [List.getElem?_set_self (List.getElem?_eq_some_iff.mp en).1]
    · cases e
  | _ => cases e
/-- a locked list stays what it is -/
theorem lst_stays {K : PySem.W.Frag} {P : Program} {w : World} (R : Rep P w K cls ι h H) {n : Nat} {xs : List PV} {x : V} (e : h[n]? = some (.lst xs true)) (rx : RV K ι H (.ref n) x) : ∃ a vs, x = .ref a ∧ RVs K ι H xs vs ∧ ∀ H', Kp H H' → SqL K H' a vs := by
  obtain ⟨a, ea, ex, vs, hq, rv⟩ := R.at e rx
  refine ⟨a, vs, ex, rv, fun H' k => ?_⟩
  rcases hq with ⟨od, hq⟩ | hq
  · exact .inl (.inr ⟨od, k.frz _ _ _ hq⟩)
  · exact hq.seq
theorem dct_stays {K : PySem.W.Frag} {P : Program} {w : World} (R : Rep P w K cls ι h H) {n : Nat} {kvs : List (PV × PV)} {x : V} (e : h[n]? = some (.dct kvs true)) (rx : RV K ι H (.ref n) x) : ∃ a od o, x = .ref a ∧ RD P w K ι H a kvs o ∧ H a = some (.frz od (.ext (Is a o))) := by
  obtain ⟨a, ea, ex, od, o, hq, rd⟩ := R.at e rx
  exact ⟨a, od, o, ex, rd, hq⟩
/-- lists have one reading -/
theorem seq_at {a : Addr} {vs : List V} (one : ∀ {ys : List V}, SqL X.K H a ys → ys = vs) {i : Nat} {x : V} (q : ∀ ys, SqL X.K H a ys → ys[i]? = some x) (hq : SqL X.K H a vs) : vs[i]? = some x := q vs hq
theorem it_list {K : PySem.W.Frag} {a : Addr} {xs : List PV} {vs : List V} (rv : RVs K ι H xs vs) (st : ∀ H', Kp H H' → SqL K H' a vs) : ItFor K ι H xs (Itl K a) where
  stop := fun ι' H' l k => ⟨vs, st H' k, by rw [rv.length]; exact Nat.le_refl _⟩
  go := fun i ι' H' l k hi => by
    obtain ⟨x, e, _⟩ := rv.get (List.getElem?_eq_getElem hi)
    exact ⟨vs, x, st H' k, e⟩
  yld := fun i ι' H' x H2 p l k y e => by
    obtain ⟨rfl, y⟩ := y
    obtain ⟨x', e', r⟩ := rv.get e
    have := y vs (st _ k)
    rw [e'] at this
    cases this
    exact ⟨fun _ _ q => q, r.mono l k⟩
theorem it_tup {K : PySem.W.Frag} {a : Addr} {xs : List PV} {vs : List V} (rv : RVs K ι H xs vs) (hq : SqT K H a vs) : ItFor K ι H xs (Itt K a) where
  stop := fun ι' H' l k => ⟨vs, k.seqT hq, by rw [rv.length]; exact Nat.le_refl _⟩
  go := fun i ι' H' l k hi => by
    obtain ⟨x, e, _⟩ := rv.get (List.getElem?_eq_getElem hi)
    exact ⟨vs, x, k.seqT hq, e⟩
  yld := fun i ι' H' x H2 p l k y e => by
    obtain ⟨rfl, y⟩ := y
    obtain ⟨x', e', r⟩ := rv.get e
    have := y vs (k.seqT hq)
    rw [e'] at this
    cases this
    exact ⟨fun _ _ q => q, r.mono l k⟩
theorem it_ky {K : PySem.W.Frag} {a : Addr} {kvs : List (PV × PV)} {es : Array DictEntry} {o : Obj} {u : HO} (E : Ents K ι H kvs es) (hq : H a = some (.frz o u)) : ItFor K ι H (kvs.map Prod.fst) (ItKy a o es) where
  stop := fun ι' H' l k => ⟨⟨u, k.frz _ _ _ hq⟩, by rw [E.size, List.length_map]; exact Nat.le_refl _⟩
  go := fun i ι' H' l k hi => ⟨⟨u, k.frz _ _ _ hq⟩, by rw [List.length_map] at hi; rw [E.size]; exact hi⟩
  yld := fun i ι' H' x H2 p l k y e => by
    obtain ⟨rfl, en, e1, rx⟩ := y
    obtain ⟨k', v', x', y', e2, r1, r2, _, _⟩ := E.key i en e1
    rw [List.getElem?_map, e2] at e
    cases e
    cases rx.inj r2
    exact ⟨fun _ _ q => q, r1.mono l k⟩
theorem it_vl {K : PySem.W.Frag} {a : Addr} {kvs : List (PV × PV)} {es : Array DictEntry} {o : Obj} {u : HO} (E : Ents K ι H kvs es) (hq : H a = some (.frz o u)) : ItFor K ι H (kvs.map Prod.snd) (ItVl a o es) where
  stop := fun ι' H' l k => ⟨⟨u, k.frz _ _ _ hq⟩, by rw [E.size, List.length_map]; exact Nat.le_refl _⟩
  go := fun i ι' H' l k hi => ⟨⟨u, k.frz _ _ _ hq⟩, by rw [List.length_map] at hi; rw [E.size]; exact hi⟩
  yld := fun i ι' H' x H2 p l k y e => by
    obtain ⟨rfl, en, e1, rx⟩ := y
    obtain ⟨k', v', x', y', e2, _, _, r1, r2⟩ := E.key i en e1
    rw [List.getElem?_map, e2] at e
    cases e
    cases rx.inj r2
    exact ⟨fun _ _ q => q, r1.mono l k⟩
theorem it_im {K : PySem.W.Frag} {a : Addr} {kvs : List (PV × PV)} {es : Array DictEntry} {o : Obj} {u : HO} (E : Ents K ι H kvs es) (hq : H a = some (.frz o u)) : ItFor K ι H (kvs.map fun kv => .tup [kv.1, kv.2]) (ItIm a o es) where
  stop := fun ι' H' l k => ⟨⟨u, k.frz _ _ _ hq⟩, by rw [E.size, List.length_map]; exact Nat.le_refl _⟩
  go := fun i ι' H' l k hi => ⟨⟨u, k.frz _ _ _ hq⟩, by rw [List.length_map] at hi; rw [E.size]; exact hi⟩
  yld := fun i ι' H' x H2 p l k y e => by
    obtain ⟨t, en, y, z, e1, ry, rz, rfl, ht, rfl⟩ := y
    obtain ⟨k', v', x', y', e2, a1, a2, b1, b2⟩ := E.key i en e1
    rw [List.getElem?_map, e2] at e
    cases e
    cases ry.inj a2
    cases rz.inj b2
    have sm := same_upd (o := HO.tup [y, z]) ht
    have kp := k.trans (.same sm)
    exact ⟨sm, t, [y, z], rfl, .of upd_same, y, [z], rfl, a1.mono l kp, z, [], rfl, b1.mono l kp, rfl⟩
theorem it_rng {K : PySem.W.Frag} (a : Int) (n : Nat) : ItFor K ι H (rangeL a n) (Itr a n) where
  stop := fun ι' H' l k => by
    show n ≤ (rangeL a n).length
    simp [rangeL]
  go := fun i ι' H' l k hi => by
    show i < n
    simpa [rangeL] using hi
  yld := fun i ι' H' x H2 p l k y e => by
    obtain ⟨rfl, rfl⟩ := y
    refine ⟨fun _ _ q => q, ?_⟩
    unfold rangeL at e
    rw [List.getElem?_map] at e
    cases hr : (List.range n)[i]? with
    | none => rw [hr] at e; cases e
    | some j =>
      rw [hr] at e
      cases e
      have : j = i := by
        have := List.getElem?_eq_some_iff.mp hr
        obtain ⟨h1, h2⟩ := this
        simpa using h2.symm
      subst this
      rfl

/-! ### the rules -/
structure DctAt (H : Hp) (x : V) (d : Addr) (o : Obj) (es : Array DictEntry) : Prop where
  ref : x = .ref d
  sys : (d == sysModules) = false
  frz : ∃ u, H d = some (.frz o u)
  exact_ : o.ExactDict
  data : ∃ ep, o.data = .dict es ep
  keys : ∀ (i : Nat) (en : DictEntry), es[i]? = some en → (∃ x, RelV x en.key) ∧ ∃ x, RelV x en.val
def iKy (td : TE) : TI := fun σ H R => td σ H fun x H1 => ∃ d o es, DctAt H1 x d o es ∧ R (ItKy d o es) H1
def iVl (td : TE) : TI := fun σ H R => td σ H fun x H1 => ∃ d o es, DctAt H1 x d o es ∧ R (ItVl d o es) H1
def iIm (td : TE) : TI := fun σ H R => td σ H fun x H1 => ∃ d o es, DctAt H1 x d o es ∧ R (ItIm d o es) H1
theorem pi_ky {e : Expr} {td : TE} (he : PE X e td) : PI X tg e (iKy td) := by
  refine ⟨fun pins s σ H R I h => ?_⟩
  refine thn (he.run pins s σ H _ I h) fun u s1 ⟨x, H1, I1, rx, d, o, es, D, q⟩ => ?_
  obtain ⟨rfl, hs, hf, hx, ⟨ep, hd⟩, hk⟩ := D
  obtain rfl : u = Value.ref d := rx
  exact wpAny_pyIter_dict_raw hs (raw_at I1 hx hd hf) (pi_one (tk := s1.toks) I1 _ (turn_ky _ hx hd fun i en e => (hk i en e).1) ⟨_, Heap.get?_push_size _ rfl, rfl, rfl⟩ q)
theorem pi_vl {e : Expr} {td : TE} {apos cpos : Pos} (he : PE X e td) (hbase : attributeBase e "values" X.env (eval e X.env) = eval e X.env) (hline : (apos.endLine == cpos.line) = true) : PI X tg (.Call (.Attribute e "values" apos) [] [] cpos) (iVl td) := by
  refine ⟨fun pins s σ H R I h => ?_⟩
  refine wpAny_Call_method (T := "dict") (id := "dict.values") hbase rfl hline F.plainAttrs_dict F.slot_dict_values F.type_dict_values (thn (he.run pins s σ H _ I h) fun u s1 ⟨x, H1, I1, rx, d, o, es, D, q⟩ => ?_)
  obtain ⟨rfl, hs, hf, hx, ⟨ep, hd⟩, hk⟩ := D
  obtain rfl : u = Value.ref d := rx
  have hr := raw_at I1 hx hd hf
  obtain ⟨o', ho', hx', _⟩ := id hr
  refine ⟨hr.typeIs, fun c e => by cases e; exact ⟨o', ho', hx'.2.1⟩, ?_⟩
  have I2 : Inv X pins σ H1 { s1 with heap := s1.heap.push { cls := .type "dict_values", data := .fields #[.ref d] } } := I1.kept (t' := s1.toks) fun b ob q => Heap.get?_push_of_some _ q
  have fin : wpAny (model X.prog X.w) X.A (pyIter (.ref s1.heap.objs.size)) (PIE X pins σ tg R) X.xe { s1 with heap := s1.heap.push { cls := .type "dict_values", data := .fields #[.ref d] } } :=
    wpAny_pyIter_values_raw (d := d) ⟨_, Heap.get?_push_size _ rfl, rfl, rfl⟩ (raw_at I2 hx hd hf) (pi_one (tk := s1.toks) I2 _ (turn_vl _ hx hd fun i en e => (hk i en e).2) ⟨_, Heap.get?_push_size _ rfl, rfl, rfl⟩ q)
  show wpAny _ _ (callWith cpos (.builtin "dict.values") [.ref d] [] []) _ X.xe s1
  exact method_meetsIn F.slot_dict_values F.entry_dict_values rfl (PySem.evalArgs_none ⟨rfl, hr.typeIs, F.args_dict_values_1 _, _, meets_dict_values_raw d hs, ⟨_, _, hr⟩, fin⟩)
theorem pi_im {e : Expr} {td : TE} {apos cpos : Pos} {elts : List Expr} {kk : Nat} {tpos : Pos} (he : PE X e td) (hbase : attributeBase e "items" X.env (eval e X.env) = eval e X.env) (hline : (apos.endLine == cpos.line) = true) : PI X (.Tuple elts kk tpos) (.Call (.Attribute e "items" apos) [] [] cpos) (iIm td) := by
  refine ⟨fun pins s σ H R I h => ?_⟩
  refine wpAny_Call_method (T := "dict") (id := "dict.items") hbase rfl hline F.plainAttrs_dict F.slot_dict_items F.type_dict_items (thn (he.run pins s σ H _ I h) fun u s1 ⟨x, H1, I1, rx, d, o, es, D, q⟩ => ?_)
  obtain ⟨rfl, hs, hf, hx, ⟨ep, hd⟩, hk⟩ := D
  obtain rfl : u = Value.ref d := rx
  have hr := raw_at I1 hx hd hf
  obtain ⟨o', ho', hx', _⟩ := id hr
  refine ⟨hr.typeIs, fun c e => by cases e; exact ⟨o', ho', hx'.2.1⟩, ?_⟩
  have I2 : Inv X pins σ H1 { s1 with heap := s1.heap.push { cls := .type "dict_items", data := .fields #[.ref d] } } := I1.kept (t' := s1.toks) fun b ob q => Heap.get?_push_of_some _ q
  have fin : wpAny (model X.prog X.w) X.A (pyIter (.ref s1.heap.objs.size)) (PIE X pins σ (.Tuple elts kk tpos) R) X.xe { s1 with heap := s1.heap.push { cls := .type "dict_items", data := .fields #[.ref d] } } :=
    wpAny_pyIter_items_raw (d := d) ⟨_, Heap.get?_push_size _ rfl, rfl, rfl⟩ (raw_at I2 hx hd hf) (pi_one (tk := s1.toks) I2 _ (turn_im _ hx hd hk) ⟨.none, .none, Heap.get?_push_size _ rfl⟩ q)
  show wpAny _ _ (callWith cpos (.builtin "dict.items") [.ref d] [] []) _ X.xe s1
  exact method_meetsIn F.slot_dict_items F.entry_dict_items rfl (PySem.evalArgs_none ⟨rfl, hr.typeIs, F.args_dict_items_1 _, _, meets_dict_items_raw d hs, ⟨_, _, hr⟩, fin⟩)
theorem dctAt_of {P : Program} {w : World} {K : PySem.W.Frag} {a : Addr} {kvs : List (PV × PV)} {o od : Obj} (ok : ∃ hp : Heap, HOk P w H hp) (rd : RD P w K ι H a kvs o) (hq : H a = some (.frz od (.ext (Is a o)))) : ∃ es, DctAt H (.ref a) a o es ∧ Ents K ι H kvs es ∧ H a = some (.frz o (.ext (Is a o))) := by
  obtain ⟨hp, ok⟩ := ok
  obtain ⟨e1, e2, _⟩ := ok a _ hq
  have eo : od = o := Option.some.inj (e1.symm.trans e2)
  subst eo
  obtain ⟨es, ep, hx, hd, E⟩ := rd_ents rd e1
  refine ⟨es, ⟨rfl, rd.2.1, ⟨_, hq⟩, hx, ⟨ep, hd⟩, fun i en e => ?_⟩, E, hq⟩
  obtain ⟨k, v, x, y, _, _, r1, _, r2⟩ := E.key i en e
  exact ⟨⟨x, r1⟩, y, r2⟩
/-- what is walked as it stands -/
def eVal (ea : EX) : IX := fun r h => (ea r h).bind fun x h1 => (match walkV h1 x with
    | some p => .ok p h1
    | none => .no)
def lsV (p : PV) (h : VH) : List Nat := match walkV h p with
  | some (_, ls) => ls
  | none => []
theorem vi_val {e : Expr} {ea : EX} (he : PE X e (tE X cls W ea)) : PI X tg e (tI X cls W (eVal ea)) := by
  refine ⟨fun pins s σ H R I ⟨ι, ρ, h, Rr, rr, hw⟩ => ?_⟩
  unfold eVal at hw
  cases hr : ea ρ h with
  | no => rw [hr] at hw; exact hw.elim
  | ex c p h1 =>
    rw [hr] at hw
    exact (pi_list (pe_lk (ls := lsV) he)).run pins s σ H R I ⟨ι, ρ, h, Rr, rr, by rw [hr]; exact hw⟩
  | ok p h1 =>
    rw [hr] at hw
    simp only [Res.bind] at hw
    cases hwk : walkV h1 p with
    | none => rw [hwk] at hw; exact hw.elim
    | some q =>
      obtain ⟨xs, ls⟩ := q
      rw [hwk] at hw
      obtain ⟨nd, op, c⟩ := walkV_inv hwk
      have els : lsV p h1 = ls := by unfold lsV; rw [hwk]
      rcases c with ⟨rfl, rfl⟩ | ⟨n, rfl, en⟩ | ⟨n, kvs, rfl, rfl, en⟩
      · refine (pi_tup (pe_lk (ls := lsV) he)).run pins s σ H R I ⟨ι, ρ, h, Rr, rr, ?_⟩
        rw [hr]
        refine ⟨by rw [els]; exact nd, by rw [els]; exact op, fun ι1 H1 x wk rx => ?_⟩
        rw [els] at wk
        obtain ⟨a, vs, rfl, hq, rv⟩ := rx
        exact ⟨a, rfl, ⟨vs, hq⟩, hw ι1 H1 _ wk.le wk.kp wk.rx nd wk.lk wk.nf (it_tup rv hq)⟩
      · refine (pi_list (pe_lk (ls := lsV) he)).run pins s σ H R I ⟨ι, ρ, h, Rr, rr, ?_⟩
        rw [hr]
        refine ⟨by rw [els]; exact nd, by rw [els]; exact op, fun ι1 H1 x wk rx => ?_⟩
        rw [els] at wk
        obtain ⟨a, vs, rfl, rv, st⟩ := lst_stays wk.rx en rx
        exact ⟨a, rfl, ⟨vs, st H1 (.refl _)⟩, hw ι1 H1 _ wk.le wk.kp wk.rx nd wk.lk wk.nf (it_list rv st)⟩
      · refine (pi_ky (pe_lk (ls := lsV) he)).run pins s σ H R I ⟨ι, ρ, h, Rr, rr, ?_⟩
        rw [hr]
        refine ⟨by rw [els]; exact nd, by rw [els]; exact op, fun ι1 H1 x wk rx => ?_⟩
        rw [els] at wk
        obtain ⟨a, od, o, rfl, rd, hq⟩ := dct_stays wk.rx en rx
        obtain ⟨es, D, E, hq'⟩ := dctAt_of wk.ok rd hq
        exact ⟨a, o, es, D, hw ι1 H1 _ wk.le wk.kp wk.rx nd wk.lk wk.nf (it_ky E hq')⟩
/-- d.items(), d.values() -/
def eItm (ea : EX) : IX := fun r h => (ea r h).bind fun x h1 => (match x with
    | .ref n => (match h1[n]? with
      | some (.dct kvs lk) => .ok (kvs.map fun kv => .tup [kv.1, kv.2], if lk then [] else [n]) h1
      | _ => .no)
    | _ => .no)
def eVls (ea : EX) : IX := fun r h => (ea r h).bind fun x h1 => (match x with
    | .ref n => (match h1[n]? with
      | some (.dct kvs lk) => .ok (kvs.map Prod.snd, if lk then [] else [n]) h1
      | _ => .no)
    | _ => .no)
theorem dct_walk {n : Nat} {kvs : List (PV × PV)} {lk : Bool} (e : h[n]? = some (.dct kvs lk)) : walkV h (.ref n) = some (kvs.map Prod.fst, if lk then [] else [n]) := by
  show (match h[n]? with
    | some (.lst xs lk) => some (xs, if lk then [] else [n])
    | some (.dct kvs lk) => some (kvs.map Prod.fst, if lk then [] else [n])
    | _ => none) = _
  rw [e]
theorem vi_dct {tg iter e : Expr} {ea : EX} {ti : TE → TI} {f : List (PV × PV) → List PV} {J : Addr → Obj → Array DictEntry → It} (hW : ∀ td : TE, PE X e td → PI X tg iter (ti td)) (ht : ∀ td, ti td = fun σ H R => td σ H fun x H1 => ∃ d o es, DctAt H1 x d o es ∧ R (J d o es) H1)
    (hJ : ∀ {ι : List Addr} {H : Hp} {a : Addr} {kvs : List (PV × PV)} {es : Array DictEntry} {o : Obj} {u : HO}, Ents X.K ι H kvs es → H a = some (.frz o u) → ItFor X.K ι H (f kvs) (J a o es)) (he : PE X e (tE X cls W ea)) :
    PI X tg iter (tI X cls W fun r h => (ea r h).bind fun x h1 => (match x with
    | .ref n => (match h1[n]? with
      | some (.dct kvs lk) => .ok (f kvs, if lk then [] else [n]) h1
      | _ => .no)
    | _ => .no)) := by
  refine ⟨fun pins s σ H R I ⟨ι, ρ, h, Rr, rr, hw⟩ => ?_⟩
  refine (hW _ (pe_lk (ls := lsV) he)).run pins s σ H R I ?_
  rw [ht]
  refine ⟨ι, ρ, h, Rr, rr, ?_⟩
  dsimp only at hw
  cases hr : ea ρ h with
  | no => rw [hr] at hw; exact hw.elim
  | ex c p h1 => rw [hr] at hw; exact hw
  | ok p h1 =>
    rw [hr] at hw
    simp only [Res.bind] at hw
    cases p with
    | ref n =>
      dsimp only at hw
      split at hw
      · rename_i kvs lk e
        have hwk := dct_walk e
        obtain ⟨nd, op, c⟩ := walkV_inv hwk
        have els : lsV (.ref n) h1 = if lk then [] else [n] := by unfold lsV; rw [hwk]
        refine ⟨by rw [els]; exact nd, by rw [els]; exact op, fun ι1 H1 x wk rx => ?_⟩
        rw [els] at wk
        have en : (lockAll h1 (if lk then [] else [n]))[n]? = some (.dct kvs true) := by
          cases lk with
          | true => exact e
          | false =>
            show (lockAt h1 n)[n]? = _
            unfold lockAt
            rw [e]
            rw [List.getElem?_set_self (List.getElem?_eq_some_iff.mp e).1]
        obtain ⟨a, od, o, rfl, rd, hq⟩ := dct_stays wk.rx en rx
        obtain ⟨es, D, E, hq'⟩ := dctAt_of wk.ok rd hq
        exact ⟨a, o, es, D, hw ι1 H1 _ wk.le wk.kp wk.rx nd wk.lk wk.nf (hJ E hq')⟩
      · exact hw.elim
    | _ => exact False.elim hw
theorem vi_itm {e : Expr} {ea : EX} {apos cpos : Pos} {elts : List Expr} {kk : Nat} {tpos : Pos} (he : PE X e (tE X cls W ea)) (hbase : attributeBase e "items" X.env (eval e X.env) = eval e X.env) (hline : (apos.endLine == cpos.line) = true) : PI X (.Tuple elts kk tpos) (.Call (.Attribute e "items" apos) [] [] cpos) (tI X cls W (eItm ea)) :=
  vi_dct (ti := iIm) (f := fun kvs => kvs.map fun kv => .tup [kv.1, kv.2]) (J := ItIm) (fun td h => pi_im h hbase hline) (fun _ => rfl) it_im he
theorem vi_vls {e : Expr} {ea : EX} {apos cpos : Pos} (he : PE X e (tE X cls W ea)) (hbase : attributeBase e "values" X.env (eval e X.env) = eval e X.env) (hline : (apos.endLine == cpos.line) = true) : PI X tg (.Call (.Attribute e "values" apos) [] [] cpos) (tI X cls W (eVls ea)) :=
  vi_dct (ti := iVl) (f := fun kvs => kvs.map Prod.snd) (J := ItVl) (fun td h => pi_vl h hbase hline) (fun _ => rfl) it_vl he
/-- range -/
theorem vi_rng1 {a : Expr} {ea : EX} {p pos : Pos} (hW : ∀ σ, XMono (W σ)) (hg : Gl X "range") (hm : X.mg "range" = none) (ha : PA X [a] (tA X cls W fun r h => (ea r h).bind fun x h1 => .ok [x] h1)) (hs : starEach [a] X.env = [(false, eval a X.env)]) :
    PI X tg (.Call (.Name "range" p) [a] [] pos) (tI X cls W fun r h => (ea r h).bind fun y h2 => (match y with
    | .int j => if inRange j then .ok (rangeL 0 (j - 0).toNat, []) h2 else .no
    | _ => .no)) := by
  refine ⟨fun pins s σ H R I ⟨ι, ρ, h, Rr, rr, hw⟩ => ?_⟩
  refine (pi_range1 hg hm ha hs).run pins s σ H R I ⟨ι, ρ, h, Rr, rr, ?_⟩
  dsimp only at hw ⊢
  cases hr : ea ρ h with
  | no => rw [hr] at hw; exact hw.elim
  | ex c p h1 => rw [hr] at hw; exact hw
  | ok p h1 =>
    rw [hr] at hw
    simp only [Res.bind] at hw ⊢
    cases p with
    | int j =>
      dsimp only at hw
      split at hw
      · rename_i hz
        unfold inRange two62 at hz
        simp only [Bool.and_eq_true, decide_eq_true_eq] at hz
        intro ι1 H1 vs l1 k1 R1 rv
        obtain ⟨v, vr, rfl, r1, rfl⟩ := rv
        refine ⟨j, by rw [show v = .int j from r1], by omega, by omega, ?_⟩
        have := hw ι1 H1 (Itr 0 (j - 0).toNat) l1 k1 R1 (by simp) (by simp) (by simp) (it_rng 0 _)
        simpa using this
      · exact hw.elim
    | _ => exact False.elim hw
theorem vi_rng2 {a b : Expr} {ea eb : EX} {p pos : Pos} (hW : ∀ σ, XMono (W σ)) (hg : Gl X "range") (hm : X.mg "range" = none) (ha : PA X [a, b] (tA X cls W fun r h => (ea r h).bind fun x h1 => (eb r h1).bind fun y h2 => .ok [x, y] h2))
    (hs : starEach [a, b] X.env = [(false, eval a X.env), (false, eval b X.env)]) (hs2 : starEach [b] X.env = [(false, eval b X.env)]) :
    PI X tg (.Call (.Name "range" p) [a, b] [] pos) (tI X cls W fun r h => (ea r h).bind fun x h1 => (eb r h1).bind fun y h2 => (match x, y with
    | .int i, .int j => if inRange i && inRange j then .ok (rangeL i (j - i).toNat, []) h2 else .no
    | _, _ => .no)) := by
  refine ⟨fun pins s σ H R I ⟨ι, ρ, h, Rr, rr, hw⟩ => ?_⟩
  refine (pi_range2 hg hm ha hs hs2).run pins s σ H R I ⟨ι, ρ, h, Rr, rr, ?_⟩
  dsimp only at hw ⊢
  cases hr : ea ρ h with
  | no => rw [hr] at hw; exact hw.elim
  | ex c p h1 => rw [hr] at hw; exact hw
  | ok x h1 =>
    rw [hr] at hw
    simp only [Res.bind] at hw ⊢
    cases hr2 : eb ρ h1 with
    | no => rw [hr2] at hw; exact hw.elim
    | ex c p h2 => rw [hr2] at hw; exact hw
    | ok y h2 =>
      rw [hr2] at hw
      simp only at hw ⊢
      cases x <;> try exact False.elim hw
      cases y <;> try exact False.elim hw
      rename_i i j
      dsimp only at hw
      split at hw
      · rename_i hz
        unfold inRange two62 at hz
        simp only [Bool.and_eq_true, decide_eq_true_eq] at hz
        intro ι1 H1 vs l1 k1 R1 rv
        obtain ⟨v, vr, rfl, r1, w, wr, rfl, r2, rfl⟩ := rv
        refine ⟨i, j, by rw [show v = .int i from r1, show w = .int j from r2], by omega, ?_⟩
        exact hw ι1 H1 _ l1 k1 R1 (by simp) (by simp) (by simp) (it_rng i _)
      · exact hw.elim
end
end VI
set_option autoImplicit false
set_option linter.all false
set_option Elab.async false
set_option maxRecDepth 100000
set_option maxHeartbeats 2000000
/-! VI over the hand layer: enumerate, zip. -/
namespace VI
open PySem PySem.Spec PyProof.Rows L2 RZ
section
variable {X : Cx} {cls : Nat → Addr} {W : L2.St → XW} {pins : List (Addr × Obj)} {σ : L2.St} {H H' : Hp} {s : Shared} {ι ι' : List Addr} {ρ : Rho} {h : VH} {tg : Expr}
/-- arguments run; what they tell of is locked at their end -/
def tAL (X : Cx) (cls : Nat → Addr) (W : L2.St → XW) (e : AX) (ls : List PV → VH → List Nat) : TA := fun σ H Q => ∃ ι ρ h, Rx X cls ι h H ∧ RR X.K ι H ρ σ ∧ match e ρ h with
  | .ok p h1 => (ls p h1).Nodup ∧ (∀ n ∈ ls p h1, Opn h1 n) ∧ ∀ ι' H1 x, Wk X cls h1 (ls p h1) ι H ι' H1 → RVs X.K ι' H1 p x → Q x H1
  | .ex c p h1 => W σ c p h1 ι H
  | .no => False
theorem pa_lk {e : List Expr} {ea : AX} {ls : List PV → VH → List Nat} (he : PA X e (tA X cls W ea)) : PA X e (tAL X cls W ea ls) := by
  refine ⟨fun pos pins s σ H Q I ⟨ι, ρ, h, R, rr, hw⟩ => ?_⟩
  have key : tA X cls W ea σ H fun x H1 => ∀ s, Inv X pins σ H1 s → ∃ H2, Inv X pins σ H2 s ∧ Q x H2 := by
    refine ⟨ι, ρ, h, R, rr, ?_⟩
    cases hr : ea ρ h with
    | ok p h1 =>
      rw [hr] at hw
      intro ι1 H1 x l1 k1 R1 rv s I1
      obtain ⟨H2, I2, k2, R2, lk, _, nf⟩ := lock_all (ls p h1) I1 R1 hw.1 hw.2.1
      exact ⟨H2, I2, hw.2.2 ι1 H2 x ⟨l1, k1.trans k2, R2, lk, fun n hn => let ⟨a, ea, z⟩ := nf n hn; ⟨a, ea, fun o u e => z o u (k1.frz _ _ _ e)⟩, _, I2.hok⟩ (rv.mono (.refl _) k2)⟩
    | ex c p h1 => rw [hr] at hw; exact hw
    | no => rw [hr] at hw; exact hw.elim
  refine thn (he.run pos pins s σ H _ I key) fun v s1 ⟨x, H1, I1, r, q⟩ => ?_
  obtain ⟨H2, I2, q2⟩ := q s1 I1
  exact ⟨x, H2, I2, r, q2⟩
theorem enumL_get : ∀ (xs : List PV) (k i : Nat) (p : PV), (enumL k xs)[i]? = some p → ∃ x, xs[i]? = some x ∧ p = .tup [.int ((k + i : Nat) : Int), x]
  | [], _, _, _, e => by simp [enumL] at e
  | x :: xs, k, 0, p, e => by
    simp [enumL] at e
    subst e
    exact ⟨x, rfl, by simp⟩
  | x :: xs, k, i + 1, p, e => by
    obtain ⟨y, e1, e2⟩ := enumL_get xs (k + 1) i p (by simpa [enumL] using e)
    exact ⟨y, by simpa using e1, by rw [e2]; congr 3; omega⟩
theorem enumL_len : ∀ (xs : List PV) (k : Nat), (enumL k xs).length = xs.length
  | [], _ => rfl
  | x :: xs, k => by simp [enumL, enumL_len xs (k + 1)]
theorem pair_rv {K : PySem.W.Frag} {t : Addr} {y z : V} {p q : PV} (ht : H t = none) (r1 : RV K ι H p y) (r2 : RV K ι H q z) : Same H (upd H t (.tup [y, z])) ∧ RV K ι (upd H t (.tup [y, z])) (.tup [p, q]) (.ref t) := by
  have sm := same_upd (o := HO.tup [y, z]) ht
  exact ⟨sm, t, [y, z], rfl, .of upd_same, y, [z], rfl, r1.mono (.refl _) (.same sm), z, [], rfl, r2.mono (.refl _) (.same sm), rfl⟩
theorem it_enum {K : PySem.W.Frag} {a : Addr} {xs : List PV} {vs : List V} (rv : RVs K ι H xs vs) (st : ∀ H', Kp H H' → SqL K H' a vs) : ItFor K ι H (enumL 0 xs) (Ite K a) where
  stop := fun ι' H' l k => ⟨vs, st H' k, by rw [rv.length, enumL_len]; exact Nat.le_refl _⟩
  go := fun i ι' H' l k hi => by
    rw [enumL_len] at hi
    obtain ⟨x, e, _⟩ := rv.get (List.getElem?_eq_getElem hi)
    exact ⟨vs, x, st H' k, e⟩
  yld := fun i ι' H' x H2 p l k y e => by
    obtain ⟨t, z, rfl, ht, rfl, y⟩ := y
    obtain ⟨x', e1, rfl⟩ := enumL_get xs 0 i p e
    obtain ⟨z', e2, r⟩ := rv.get e1
    have := y vs (st _ k)
    rw [e2] at this
    cases this
    obtain ⟨sm, r2⟩ := pair_rv (p := .int ((0 + i : Nat) : Int)) (y := .int (i : Nat)) ht (by rw [Nat.zero_add]; rfl) (r.mono l k)
    exact ⟨sm, r2⟩
theorem zipL_get : ∀ (xs ys : List PV) (i : Nat) (p : PV), (zipL xs ys)[i]? = some p → ∃ x y, xs[i]? = some x ∧ ys[i]? = some y ∧ p = .tup [x, y]
  | [], _, _, _, e => by simp [zipL] at e
  | _ :: _, [], _, _, e => by simp [zipL] at e
  | x :: xs, y :: ys, 0, p, e => by
    simp [zipL] at e
    exact ⟨x, y, rfl, rfl, e.symm⟩
  | x :: xs, y :: ys, i + 1, p, e => by
    obtain ⟨a, b, e1, e2, e3⟩ := zipL_get xs ys i p (by simpa [zipL] using e)
    exact ⟨a, b, by simpa using e1, by simpa using e2, e3⟩
theorem zipL_len : ∀ (xs ys : List PV), (zipL xs ys).length = min xs.length ys.length
  | [], _ => by simp [zipL]
  | _ :: _, [] => by simp [zipL]
  | x :: xs, y :: ys => by simp [zipL, zipL_len xs ys]
theorem it_zip {K : PySem.W.Frag} {a b : Addr} {xs ys : List PV} {vs ws : List V} (rv : RVs K ι H xs vs) (rw' : RVs K ι H ys ws) (st : ∀ H', Kp H H' → SqL K H' a vs) (st2 : ∀ H', Kp H H' → SqL K H' b ws) : ItFor K ι H (zipL xs ys) (Itz K a b) where
  stop := fun ι' H' l k => ⟨vs, ws, st H' k, st2 H' k, by rw [rv.length, rw'.length, zipL_len]; omega⟩
  go := fun i ι' H' l k hi => by
    rw [zipL_len] at hi
    obtain ⟨x, e, _⟩ := rv.get (List.getElem?_eq_getElem (show i < xs.length by omega))
    obtain ⟨y, e', _⟩ := rw'.get (List.getElem?_eq_getElem (show i < ys.length by omega))
    exact ⟨vs, ws, x, y, st H' k, st2 H' k, e, e'⟩
  yld := fun i ι' H' x H2 p l k y e => by
    obtain ⟨t, z, z2, rfl, ht, rfl, y, y2⟩ := y
    obtain ⟨a1, a2, e1, e2, rfl⟩ := zipL_get xs ys i p e
    obtain ⟨z', f1, r1⟩ := rv.get e1
    obtain ⟨z2', f2, r2⟩ := rw'.get e2
    have q1 := y vs (st _ k)
    have q2 := y2 ws (st2 _ k)
    rw [f1] at q1
    rw [f2] at q2
    cases q1
    cases q2
    exact pair_rv ht (r1.mono l k) (r2.mono l k)
theorem it_zipT {K : PySem.W.Frag} {a b : Addr} {xs ys : List PV} {vs ws : List V} (rv : RVs K ι H xs vs) (rw' : RVs K ι H ys ws) (hq : SqT K H a vs) (hq2 : SqT K H b ws) : ItFor K ι H (zipL xs ys) (ItzT K a b) where
  stop := fun ι' H' l k => ⟨vs, ws, k.seqT hq, k.seqT hq2, by rw [rv.length, rw'.length, zipL_len]; omega⟩
  go := fun i ι' H' l k hi => by
    rw [zipL_len] at hi
    obtain ⟨x, e, _⟩ := rv.get (List.getElem?_eq_getElem (show i < xs.length by omega))
    obtain ⟨y, e', _⟩ := rw'.get (List.getElem?_eq_getElem (show i < ys.length by omega))
    exact ⟨vs, ws, x, y, k.seqT hq, k.seqT hq2, e, e'⟩
  yld := fun i ι' H' x H2 p l k y e => by
    obtain ⟨t, z, z2, rfl, ht, rfl, y, y2⟩ := y
    obtain ⟨a1, a2, e1, e2, rfl⟩ := zipL_get xs ys i p e
    obtain ⟨z', f1, r1⟩ := rv.get e1
    obtain ⟨z2', f2, r2⟩ := rw'.get e2
    have q1 := y vs (k.seqT hq)
    have q2 := y2 ws (k.seqT hq2)
    rw [f1] at q1
    rw [f2] at q2
    cases q1
    cases q2
    exact pair_rv ht (r1.mono l k) (r2.mono l k)

theorem lock_get {n : Nat} {xs : List PV} {ls : List Nat} (e : h[n]? = some (.lst xs true)) (nd : n ∉ ls) : (lockAll h ls)[n]? = some (.lst xs true) := by
  induction ls generalizing h with
  | nil => exact e
  | cons m ls ih =>
    simp only [List.mem_cons, not_or] at nd
    exact ih (h := lockAt h m) (by rw [lockAt_ne (fun z => nd.1 z.symm)]; exact e) nd.2
theorem lockAt_lst {n : Nat} {xs : List PV} {lk : Bool} (e : h[n]? = some (.lst xs lk)) : (lockAt h n)[n]? = some (.lst xs true) := by
  unfold lockAt
  rw [e]
  exact List.getElem?_set_self (List.getElem?_eq_some_iff.mp e).1
def eEnm (ea : EX) : IX := fun r h => (ea r h).bind fun x h1 => (match enmW h1 x with
    | some (xs, ls) => .ok (enumL 0 xs, ls) h1
    | none => .no)
def lsE (p : List PV) (h : VH) : List Nat := match p with
  | [x] => (match enmW h x with
    | some (_, ls) => ls
    | none => [])
  | _ => []
theorem vi_enmL {e : Expr} {ea : EX} {p pos tpos : Pos} {elts : List Expr} {kk : Nat} (hg : Gl X "enumerate") (hm : X.mg "enumerate" = none) (ha : PA X [e] (tA X cls W fun r h => (ea r h).bind fun x h1 => .ok [x] h1)) (hs : starEach [e] X.env = [(false, eval e X.env)]) (hT : ∀ pins s σ H R, Inv X pins σ H s → (∃ ι ρ h, Rx X cls ι h H ∧ RR X.K ι H ρ σ ∧ (∃ xs h1, ea ρ h = .ok (.tup xs) h1) ∧ WI X cls (W σ) (eEnm ea ρ h) ι H R) → wpAny (model X.prog X.w) X.A (eval (.Call (.Name "enumerate" p) [e] [] pos) X.env) (fun v s1 => wpAny (model X.prog X.w) X.A (pyIter v) (PIE X pins σ (.Tuple elts kk tpos) R) X.xe s1) X.xe s) :
    PI X (.Tuple elts kk tpos) (.Call (.Name "enumerate" p) [e] [] pos) (tI X cls W (eEnm ea)) := by
  refine ⟨fun pins s σ H R I ⟨ι, ρ, h, Rr, rr, hw⟩ => ?_⟩
  have hw0 := hw
  unfold eEnm at hw
  have go := (pi_enum (p := p) (pos := pos) (elts := elts) (kk := kk) (tpos := tpos) hg hm (pa_lk (ls := lsE) ha) hs).run pins s σ H R I
  cases hr : ea ρ h with
  | no => rw [hr] at hw; exact hw.elim
  | ex c p h1 =>
    rw [hr] at hw
    refine go ⟨ι, ρ, h, Rr, rr, ?_⟩
    dsimp only
    rw [hr]
    exact hw
  | ok x h1 =>
    rw [hr] at hw
    simp only [Res.bind] at hw
    cases x with
    | tup xs => exact hT pins s σ H R I ⟨ι, ρ, h, Rr, rr, ⟨xs, h1, hr⟩, hw0⟩
    | ref n =>
      simp only [enmW] at hw
      split at hw
      · rename_i xs ls ez
        split at ez
        · rename_i ys lk en
          have ez' : enumL 0 xs = enumL 0 xs := rfl
          obtain ⟨rfl, rfl⟩ : ys = xs ∧ (if lk then [] else [n] : List Nat) = ls := by
            have q := Option.some.inj ez
            exact ⟨congrArg Prod.fst q, congrArg Prod.snd q⟩
          refine go ⟨ι, ρ, h, Rr, rr, ?_⟩
          dsimp only
          rw [hr]
          simp only [Res.bind]
          have els : lsE [.ref n] h1 = if lk then [] else [n] := by simp only [lsE, enmW]; rw [en]
          rw [els]
          have nd : (if lk then [] else [n] : List Nat).Nodup := by cases lk <;> simp
          refine ⟨nd, fun m hm => ?_, fun ι1 H1 x wk rv => ?_⟩
          · cases lk with
            | true => simp at hm
            | false =>
              obtain rfl : m = n := by simpa using hm
              exact .inl ⟨_, en⟩
          · have en2 : (lockAll h1 (if lk then [] else [n]))[n]? = some (.lst ys true) := by
              cases lk with
              | true => exact en
              | false => exact lockAt_lst en
            obtain ⟨v, vr, rfl, r1, rfl⟩ := rv
            obtain ⟨a, vs, rfl, rv, st⟩ := lst_stays wk.rx en2 r1
            exact ⟨a, vs, rfl, st H1 (.refl _), hw ι1 H1 _ wk.le wk.kp wk.rx nd wk.lk wk.nf (it_enum rv st)⟩
        · cases ez
      · exact hw.elim
    | _ => exact False.elim hw
def lsZ (p : List PV) (h : VH) : List Nat := match p with
  | [x, y] => (match zipW h x y with
    | some (_, ls) => ls
    | none => [])
  | _ => []
theorem zipW_inv {x y : PV} {xs : List PV} {ls : List Nat} (e : zipW h x y = some (xs, ls)) : ls.Nodup ∧ (∀ n ∈ ls, Opn h n) ∧
    ((∃ a b, x = .tup a ∧ y = .tup b ∧ xs = zipL a b) ∨ ∃ n m a b, x = .ref n ∧ y = .ref m ∧ xs = zipL a b ∧ (lockAll h ls)[n]? = some (.lst a true) ∧ (lockAll h ls)[m]? = some (.lst b true)) := by
  cases x <;> cases y <;> try cases e
  case tup.tup a b => exact ⟨by simp, by simp, .inl ⟨a, b, rfl, rfl, rfl⟩⟩
  case ref.ref n m =>
    simp only [zipW] at e
    split at e
    · rename_i a k b l en em
      cases e
      by_cases hnm : n = m
      · subst hnm
        rw [en] at em
        cases em
        have eb : (k || Nat.beq n n) = true := by rw [show Nat.beq n n = true from Nat.beq_refl n, Bool.or_true]
        rw [eb]
        cases k with
        | true => exact ⟨by simp, by simp, .inr ⟨n, n, a, a, rfl, rfl, rfl, en, en⟩⟩
        | false => exact ⟨by simp, fun j hj => by obtain rfl : j = n := by simpa using hj
                                                  exact .inl ⟨_, en⟩, .inr ⟨n, n, a, a, rfl, rfl, rfl, lockAt_lst en, lockAt_lst en⟩⟩
      · have eb : Nat.beq n m = false := by
          cases q : Nat.beq n m with
          | false => rfl
          | true => exact absurd (Nat.eq_of_beq_eq_true q) hnm
        rw [eb, Bool.or_false]
        cases k with
        | true =>
          cases l with
          | true => exact ⟨by simp, by simp, .inr ⟨n, m, a, b, rfl, rfl, rfl, en, em⟩⟩
          | false => exact ⟨by simp, fun j hj => by obtain rfl : j = m := by simpa using hj
                                                    exact .inl ⟨_, em⟩, .inr ⟨n, m, a, b, rfl, rfl, rfl, (lockAt_ne (Ne.symm hnm)).trans en, lockAt_lst em⟩⟩
        | false =>
          cases l with
          | true => exact ⟨by simp, fun j hj => by obtain rfl : j = n := by simpa using hj
                                                   exact .inl ⟨_, en⟩, .inr ⟨n, m, a, b, rfl, rfl, rfl, lockAt_lst en, (lockAt_ne hnm).trans em⟩⟩
          | false =>
            refine ⟨by simp [hnm], fun j hj => ?_, .inr ⟨n, m, a, b, rfl, rfl, rfl, ?_, ?_⟩⟩
            · have : j = n ∨ j = m := by simpa using hj
              rcases this with rfl | rfl
              · exact .inl ⟨_, en⟩
              · exact .inl ⟨_, em⟩
            · exact (lockAt_ne (h := lockAt h n) (Ne.symm hnm)).trans (lockAt_lst en)
            · exact lockAt_lst (h := lockAt h n) ((lockAt_ne hnm).trans em)
    · cases e
theorem vi_zip {e e2 : Expr} {ea eb : EX} {p pos tpos : Pos} {elts : List Expr} {kk : Nat} (hg : Gl X "zip") (hm : X.mg "zip" = none) (ha : PA X [e, e2] (tA X cls W fun r h => (ea r h).bind fun x h1 => (eb r h1).bind fun y h2 => .ok [x, y] h2))
    (hs : starEach [e, e2] X.env = (false, eval e X.env) :: starEach [e2] X.env) (hpl : (backTo pos (starEach [e2] X.env)).any (·.1) = false) :
    PI X (.Tuple elts kk tpos) (.Call (.Name "zip" p) [e, e2] [] pos) (tI X cls W fun r h => (ea r h).bind fun x h1 => (eb r h1).bind fun y h2 => (match zipW h2 x y with
    | some p => .ok p h2
    | none => .no)) := by
  refine ⟨fun pins s σ H R I ⟨ι, ρ, h, Rr, rr, hw⟩ => ?_⟩
  refine (pi_zipA hg hm (pa_lk (ls := lsZ) ha) hs hpl).run pins s σ H R I ⟨ι, ρ, h, Rr, rr, ?_⟩
  dsimp only at hw ⊢
  cases hr : ea ρ h with
  | no => rw [hr] at hw; exact hw.elim
  | ex c p h1 => rw [hr] at hw; exact hw
  | ok x h1 =>
    rw [hr] at hw
    simp only [Res.bind] at hw ⊢
    cases hr2 : eb ρ h1 with
    | no => rw [hr2] at hw; exact hw.elim
    | ex c p h2 => rw [hr2] at hw; exact hw
    | ok y h2 =>
      rw [hr2] at hw
      simp only at hw ⊢
      cases hz : zipW h2 x y with
      | none => rw [hz] at hw; exact hw.elim
      | some q =>
        obtain ⟨xs, ls⟩ := q
        rw [hz] at hw
        obtain ⟨nd, op, c⟩ := zipW_inv hz
        have els : lsZ [x, y] h2 = ls := by simp only [lsZ]; rw [hz]
        rw [els]
        refine ⟨nd, op, fun ι1 H1 vs wk rv => ?_⟩
        obtain ⟨v, vr, rfl, r1, u, ur, rfl, r2, rfl⟩ := rv
        rcases c with ⟨a, b, rfl, rfl, rfl⟩ | ⟨n, m, a, b, rfl, rfl, rfl, en, em⟩
        · obtain ⟨a', vs, rfl, hq, rv⟩ := r1
          obtain ⟨b', ws, rfl, hq2, rv2⟩ := r2
          exact ⟨a', b', vs, ws, rfl, .inr ⟨hq, hq2, hw ι1 H1 _ wk.le wk.kp wk.rx nd wk.lk wk.nf (it_zipT rv rv2 hq hq2)⟩⟩
        · obtain ⟨a', vs, rfl, rv, st⟩ := lst_stays wk.rx en r1
          obtain ⟨b', ws, rfl, rv2, st2⟩ := lst_stays wk.rx em r2
          exact ⟨a', b', vs, ws, rfl, .inl ⟨st H1 (.refl _), st2 H1 (.refl _), hw ι1 H1 _ wk.le wk.kp wk.rx nd wk.lk wk.nf (it_zip rv rv2 st st2)⟩⟩
end
end VI
set_option autoImplicit false
set_option linter.all false
set_option Elab.async false
set_option maxRecDepth 100000
set_option maxHeartbeats 2000000
/-! VI over the hand layer: comprehensions. -/
namespace VI
open PySem PySem.Spec PyProof.Rows L2
/-- no error is looked for -/
abbrev W0 : L2.St → XW := fun _ _ _ _ _ _ => False
theorem hW0 : ∀ σ, XMono (W0 σ) := fun _ _ _ _ _ _ _ _ q _ _ => q
section
variable {X : Cx} {cls : Nat → Addr} {W : L2.St → XW} {pins : List (Addr × Obj)} {σ σ' : L2.St} {H H' : Hp} {s : Shared} {ι ι' : List Addr} {ρ : Rho} {h : VH} {tg : Expr}
theorem wipe_get (σ : L2.St) (j : Nat) : ∀ vs : List Nat, (L2.wipe σ vs)[j]? = if j ∈ vs then (if j < σ.length then some none else none) else σ[j]?
  | [] => by simp [L2.wipe]
  | v :: vs => by
    unfold L2.wipe
    by_cases hv : v = j
    · subst hv
      rw [List.getElem?_set]
      simp [L2.wipe_length]
    · rw [List.getElem?_set_ne hv, wipe_get σ j vs]
      have : (j ∈ v :: vs) = (j ∈ vs) := by simp [List.mem_cons, Ne.symm hv]
      simp only [this]
theorem wipe_frm {sl vs : List Nat} (hs : ∀ j ∈ sl, j ∈ vs) (f : Frm sl (L2.wipe σ vs) σ') : L2.wipe σ' vs = L2.wipe σ vs := by
  apply List.ext_getElem?
  intro j
  rw [wipe_get, wipe_get]
  have hl : σ'.length = σ.length := by rw [f.1, L2.wipe_length]
  by_cases hj : j ∈ vs
  · rw [if_pos hj, if_pos hj, hl]
  · rw [if_neg hj, if_neg hj, f.2 j fun z => hj (hs j z), wipe_get, if_neg hj]
theorem vwipe_get (ρ : Rho) (j : Nat) : ∀ vs : List Nat, (wipe ρ vs)[j]? = if j ∈ vs then (if j < ρ.length then some none else none) else ρ[j]?
  | [] => by simp [wipe]
  | v :: vs => by
    have hlen : ∀ vs : List Nat, (wipe ρ vs).length = ρ.length := fun vs => by
      induction vs with
      | nil => rfl
      | cons a b ih => simp [wipe, ih]
    unfold wipe
    by_cases hv : v = j
    · subst hv
      rw [List.getElem?_set]
      simp [hlen]
    · rw [List.getElem?_set_ne hv, vwipe_get ρ j vs]
      have : (j ∈ v :: vs) = (j ∈ vs) := by simp [List.mem_cons, Ne.symm hv]
      simp only [this]
theorem RR.wipe (rr : RR X.K ι H ρ σ) (vs : List Nat) : RR X.K ι H (wipe ρ vs) (L2.wipe σ vs) := by
  refine ⟨?_, fun i p e => ?_⟩
  · rw [L2.wipe_length, ← rr.1]
    induction vs with
    | nil => rfl
    | cons a b ih => simp [VI.wipe, ih]
  · rw [vwipe_get] at e
    rw [wipe_get]
    by_cases hi : i ∈ vs
    · rw [if_pos hi] at e
      split at e <;> cases e
    · rw [if_neg hi] at e
      rw [if_neg hi]
      exact rr.2 i p e
/-- once it may be unlocked -/
def ShutE (X : Cx) (σf : V → L2.St) (Q : VK) : VK := fun x H' => ∀ pins s, Inv X pins (σf x) H' s → ∃ H2, Inv X pins (σf x) H2 s ∧ Q x H2
theorem unshutE {Q : VK} {v : Value} (q : EP X pins σ (ShutE X (fun _ => σ) Q) v s) : EP X pins σ Q v s := by
  obtain ⟨x, H1, I1, r, q⟩ := q
  obtain ⟨H2, I2, q2⟩ := q _ _ I1
  exact ⟨x, H2, I2, r, q2⟩
theorem lcL_cons (D : Nat) (g : GX) (t : TX) (e : EX) (r : Rho) (x : PV) (xs : List PV) (h : VH) : lcL D g t e r (x :: xs) h = (match g x r h with
    | .ok r' h' => (match t r' h' with
      | .ok true h2 => (match e r' h2 with
        | .ok v h3 => (match h3[D]? with
          | some (.lst acc false) => if Nat.ble (acc.length + 1) sizeMax then lcL D g t e r xs (h3.set D (.lst (acc ++ [v]) false)) else .no
          | _ => .no)
        | .ex _ _ _ => .no
        | .no => .no)
      | .ok false h2 => lcL D g t e r xs h2
      | .ex _ _ _ => .no
      | .no => .no)
    | .ex _ _ _ => .no
    | .no => .no) := rfl
/-- [e for .. in .. if ..] -/
def eLc (own : List Nat) (ei : IX) (g : GX) (t : TX) (e : EX) : EX := fun r h => (ei r h).bind fun xl h1 =>
  (lcL (lockAll h1 xl.2).length g t e (wipe r own) xl.1 (lockAll h1 xl.2 ++ [.lst [] false])).bind fun _ h3 => .ok (.ref (lockAll h1 xl.2).length) (unlockAll h3 xl.2)
theorem lc_reads {σf : V → L2.St} {own : List Nat} {ei : IX} {g : GX} {t : TX} {e : EX} {sl : List Nat} {Q : VK} (hsl : ∀ j ∈ sl, j ∈ own) (R : Rx X cls ι h H) (rr : RR X.K ι H ρ σ) (hw : Wx X cls (RV X.K) (W σ) (eLc own ei g t e ρ h) ι H Q) :
    tLc (tI X cls W ei) (tG X cls sl g) (tT X cls W0 t) (tE X cls W0 e) own σ H (ShutE X σf Q) := by
  refine ⟨ι, ρ, h, R, rr, ?_⟩
  unfold eLc at hw
  cases hr : ei ρ h with
  | ex c p h1 => rw [hr] at hw; exact hw
  | no => rw [hr] at hw; exact hw.elim
  | ok xl h1 =>
    obtain ⟨xs, ls⟩ := xl
    rw [hr] at hw
    simp only [Res.bind] at hw
    generalize hL : lockAll h1 ls = L at hw
    intro ι1 H1 J l1 k1 R1 nd lk nf it D hD
    rw [hL] at R1
    have sm0 := same_upd (o := HO.lst []) hD
    have l0 : Le ι1 (ι1 ++ [D]) := ⟨[D], rfl⟩
    have k0 : Kp H1 (upd H1 D (.lst [])) := .same sm0
    have R2 : Rx X cls (ι1 ++ [D]) (L ++ [.lst [] false]) (upd H1 D (.lst [])) := R1.new hD sm0 ⟨[], upd_same, rfl⟩
    have hDn : (ι1 ++ [D])[L.length]? = some D := by rw [← R1.len]; simp
    refine ⟨fun i m H2 => m = xs.length - i ∧ i ≤ xs.length ∧ ∃ ι' h', Le (ι1 ++ [D]) ι' ∧ Kp (upd H1 D (.lst [])) H2 ∧ Rx X cls ι' h' H2 ∧
      Wx X cls (RV X.K) (W σ) ((lcL L.length g t e (wipe ρ own) (xs.drop i) h').bind fun _ h3 => .ok (.ref L.length) (unlockAll h3 ls)) ι H Q, ⟨xs.length, by simp, Nat.zero_le _, ι1 ++ [D], _, .refl _, .refl _, R2, hw⟩, ?_⟩
    rintro i m H2 ⟨rfl, hi, ι2, h2, l2, k2, R2, hw2⟩
    have l12 : Le ι1 ι2 := l0.trans l2
    have k12 : Kp H1 H2 := k0.trans k2
    by_cases hlt : i < xs.length
    · right
      refine ⟨it.go i ι2 H2 l12 k12 hlt, fun H3 => ∃ ι' h', Le (ι1 ++ [D]) ι' ∧ Kp (upd H1 D (.lst [])) H3 ∧ Rx X cls ι' h' H3 ∧
        Wx X cls (RV X.K) (W σ) ((lcL L.length g t e (wipe ρ own) (xs.drop (i + 1)) h').bind fun _ h3 => .ok (.ref L.length) (unlockAll h3 ls)) ι H Q, fun H' q => ⟨xs.length - (i + 1), by omega, rfl, hlt, q⟩, fun x H3 y => ?_⟩
      obtain ⟨sm, rv⟩ := it.yld i ι2 H2 x H3 xs[i] l12 k12 y (List.getElem?_eq_getElem hlt)
      have kp := Kp.same sm
      refine ⟨ι2, wipe ρ own, h2, xs[i], R2.same sm, ((rr.mono (l1.trans l12) (k1.trans (k12.trans kp))).wipe own), rv, ?_⟩
      rw [List.drop_eq_getElem_cons hlt, lcL_cons] at hw2
      cases hr2 : g xs[i] (wipe ρ own) h2 with
      | ex c p h3 => rw [hr2] at hw2; exact hw2.elim
      | no => rw [hr2] at hw2; exact hw2.elim
      | ok r3 h3 =>
        rw [hr2] at hw2
        dsimp only at hw2
        refine fun ι4 H4 σ4 l4 k4 R4 rr4 fr => ⟨wipe_frm hsl fr, ι4, r3, h3, R4, rr4, ?_⟩
        cases hr3 : t r3 h3 with
        | ex c p h5 => rw [hr3] at hw2; exact hw2.elim
        | no => rw [hr3] at hw2; exact hw2.elim
        | ok b h5 =>
          rw [hr3] at hw2
          intro ι5 H5 b' l5 k5 R5 eb
          cases eb
          cases b with
          | false =>
            rw [if_neg Bool.false_ne_true]
            exact ⟨ι5, h5, l2.trans (l4.trans l5), k2.trans (kp.trans (k4.trans k5)), R5, hw2⟩
          | true =>
            rw [if_pos rfl]
            dsimp only at hw2
            refine ⟨ι5, r3, h5, R5, rr4.mono l5 k5, ?_⟩
            cases hr4 : e r3 h5 with
            | ex c p h6 => rw [hr4] at hw2; exact hw2.elim
            | no => rw [hr4] at hw2; exact hw2.elim
            | ok v h6 =>
              rw [hr4] at hw2
              intro ι6 H6 y' l6 k6 R6 ry
              dsimp only at hw2
              have l06 : Le (ι1 ++ [D]) ι6 := l2.trans (l4.trans (l5.trans l6))
              have eD : ι6[L.length]? = some D := l06.get hDn
              split at hw2
              · rename_i acc eacc
                split at hw2
                · rename_i hz
                  obtain ⟨vs, hH, rvs⟩ := R6.ob _ _ _ eD eacc
                  have kw : Kp H6 (upd H6 D (.lst (vs ++ [y']))) := .upd hH (fun _ z => by cases z) fun _ _ z => by cases z
                  refine ⟨vs, hH, ?_, ι6, _, l06, k2.trans (kp.trans (k4.trans (k5.trans (k6.trans kw)))), R6.write (o := .lst (acc ++ [v]) false) eD kw (no_kc eacc fun _ z => by cases z) (fun ys z => by rw [eacc] at z; cases z) ⟨_, upd_same, (rvs.mono (.refl _) kw).append (.one (ry.mono (.refl _) kw))⟩, hw2⟩
                  rw [rvs.length]
                  have := Nat.le_of_ble_eq_true hz
                  rw [size_max] at this
                  omega
                · exact hw2.elim
              · exact hw2.elim
    · left
      have e : i = xs.length := by omega
      subst e
      refine ⟨it.stop ι2 H2 l12 k12, fun pins s I => ?_⟩
      rw [List.drop_length] at hw2
      obtain ⟨H3, I3, R3, m3, _, k3⟩ := unlock_all ls I R2 nd fun n hn => (lk n hn).mono l12 k12
      refine ⟨H3, I3, hw2 ι2 H3 (.ref D) (l1.trans l12) (k3 H (k1.trans k12) fun n hn => let ⟨a, ea, z⟩ := nf n hn; ⟨a, l12.get ea, z⟩) R3 ⟨D, l2.get hDn, rfl⟩⟩
theorem ve_lc {elt iter : Expr} {ifs : List Expr} {scope : Scope} {own : List (Str × Nat)} {pos : Pos} {ei : IX} {g : GX} {t : TX} {e : EX} {sl : List Nat} (hc : X.calm = true) (hN : X.N.Nodup) (hi : PI X tg iter (tI X cls W ei)) (ok : BlkOk X.N X.env.scope scope own) (hsl : ∀ j ∈ sl, j ∈ own.map (·.2))
    (hg : ∀ (s : Shared) (H : Hp) (C : Addr) (cl : List (Str × Addr)) (fp : List Addr), PG (X.blk s H scope (compEnvC scope cl C X.env) fp) tg (tG (X.blk s H scope (compEnvC scope cl C X.env) fp) cls sl g))
    (ht : ∀ (s : Shared) (H : Hp) (C : Addr) (cl : List (Str × Addr)) (fp : List Addr), PTs (X.blk s H scope (compEnvC scope cl C X.env) fp) ifs (tT (X.blk s H scope (compEnvC scope cl C X.env) fp) cls W0 t))
    (he : ∀ (s : Shared) (H : Hp) (C : Addr) (cl : List (Str × Addr)) (fp : List Addr), PE (X.blk s H scope (compEnvC scope cl C X.env) fp) elt (tE (X.blk s H scope (compEnvC scope cl C X.env) fp) cls W0 e)) (hs : ∀ x, foldedSetIterable iter X.env x = pure x) :
    PE X (.ListComp elt [⟨tg, iter, ifs, 0⟩] scope pos) (tE X cls W (eLc (own.map (·.2)) ei g t e)) :=
  ⟨fun pins s σ H Q I ⟨ι, ρ, h, R, rr, hw⟩ => thn ((pe_lc (g := tG X cls sl g) (tt := tT X cls W0 t) (te := tE X cls W0 e) hc hN hi ok hg ht he hs).run pins s σ H (ShutE X (fun _ => σ) Q) I (lc_reads hsl R rr hw)) fun _ _ q => unshutE q⟩
/-- name = [..] on one line -/
theorem vs_setLc {i : Nat} {y : Str} {py : Pos} {elt iter : Expr} {ifs : List Expr} {scope : Scope} {own : List (Str × Nat)} {pos spos : Pos} {ei : IX} {g : GX} {t : TX} {e : EX} {sl : List Nat} (hW : ∀ σ, XMono (W σ)) (hc : X.calm = true) (hN : X.N.Nodup) (hy : X.N[i]? = some y) (hyl : X.env.scope.names.lookup y = some .local)
    (hsw : swapsWith (.ListComp elt [⟨tg, iter, ifs, 0⟩] scope pos) (some (.Name y py)) spos.line X.env = pure true) (hi : PI X tg iter (tI X cls W ei)) (ok : BlkOk X.N X.env.scope scope own) (hsl : ∀ j ∈ sl, j ∈ own.map (·.2))
    (hg : ∀ (s : Shared) (H : Hp) (C : Addr) (cl : List (Str × Addr)) (fp : List Addr), PG (X.blk s H scope (compEnvC scope cl C X.env) fp) tg (tG (X.blk s H scope (compEnvC scope cl C X.env) fp) cls sl g))
    (ht : ∀ (s : Shared) (H : Hp) (C : Addr) (cl : List (Str × Addr)) (fp : List Addr), PTs (X.blk s H scope (compEnvC scope cl C X.env) fp) ifs (tT (X.blk s H scope (compEnvC scope cl C X.env) fp) cls W0 t))
    (he : ∀ (s : Shared) (H : Hp) (C : Addr) (cl : List (Str × Addr)) (fp : List Addr), PE (X.blk s H scope (compEnvC scope cl C X.env) fp) elt (tE (X.blk s H scope (compEnvC scope cl C X.env) fp) cls W0 e)) (hs : ∀ x, foldedSetIterable iter X.env x = pure x) :
    PS X (.Assign [.Name y py] (.ListComp elt [⟨tg, iter, ifs, 0⟩] scope pos) spos) (tS X cls W fun r h => match eLc (own.map (·.2)) ei g t e r h with
    | .ok v h1 => .nx (r.set i (some v)) h1
    | .ex c p h1 => .ex c p r h1
    | .no => .no) := by
  refine ⟨fun pins s σ H D I ⟨ι, ρ, h, R, rr, hw⟩ => ?_⟩
  obtain ⟨_, _, _, _, _, q⟩ := tE_bindS (f := fun v h1 => .nx (ρ.set i (some v)) h1) (hW σ) R rr hw
  have key := (tE_bindS (f := fun v h1 => .nx (ρ.set i (some v)) h1) (hW σ) R rr hw).mono fun x H1 ⟨ι1, h1, p, l1, k1, R1, rr1, rv1, hw1⟩ => hw1 ι1 H1 _ (.refl _) (.refl _) R1 (rr1.set (v := x) rv1)
  obtain ⟨ι', ρ', h', R', rr', hw'⟩ := key
  refine thn ((ps_setLc (g := tG X cls sl g) (tt := tT X cls W0 t) (te := tE X cls W0 e) hc hN hy hyl hsw hi ok hg ht he hs).run pins s σ H (Shut X D) I ?_) fun f s' q => unshut q
  exact lc_reads (σf := fun x => σ.set i (some x)) (Q := fun x H1 => D.nx (σ.set i (some x)) H1) hsl R' rr' hw'
end
end VI
set_option autoImplicit false
set_option linter.all false
set_option Elab.async false
set_option maxRecDepth 100000
set_option maxHeartbeats 2000000
/-! VI over the hand layer: dict comprehensions, dict displays. -/
namespace VI
open PySem PySem.Spec PyProof.Rows L2
/-- the empty dict's object -/
abbrev noD : Obj := { cls := .type "dict", data := .dict #[] }
section
variable {X : Cx} {cls : Nat → Addr} {W : L2.St → XW} {pins : List (Addr × Obj)} {σ σ' : L2.St} {H H' : Hp} {s : Shared} {ι ι' : List Addr} {ρ : Rho} {h : VH} {tg : Expr}
theorem rd_none {P : Program} {w : World} {K : PySem.W.Frag} {a : Addr} (hs : (a == sysModules) = false) : RD P w K ι H a [] noD := by
  refine ⟨Nat.zero_le _, hs, .inl ⟨[], rfl, fun hp e => ⟨noD, #[], 0, e, ⟨rfl, rfl, rfl⟩, rfl, ?_, .nil, by simp⟩⟩⟩
  intro e he
  simp at he
/-- a new empty dict -/
theorem new_dict (I : Inv X pins σ H s) (R : Rx X cls ι h H) (t : Nat) : Inv X pins σ (upd H s.heap.objs.size (.ext (Is s.heap.objs.size noD))) { s with heap := s.heap.push noD, toks := t } ∧
    Rx X cls (ι ++ [s.heap.objs.size]) (h ++ [.dct [] false]) (upd H s.heap.objs.size (.ext (Is s.heap.objs.size noD))) := by
  have hf : H s.heap.objs.size = none := I.hok.fresh (Nat.le_refl _)
  refine ⟨I.laid (t' := t) (fun b u e => Heap.get?_push_of_some _ e) (Nat.le_refl _) (ext_ok (Heap.get?_push_size _ rfl)), R.new hf (same_upd hf) ⟨noD, upd_same, rd_none ?_⟩⟩
  have := I.big
  exact beq_eq_false_iff_ne.mpr (Nat.ne_of_gt this)
/-- D[k] = v inside a comprehension -/
theorem v_dset (hu : X.A.units + 64 < cLine) {n : Nat} {a : Addr} {kvs : List (PV × PV)} {q r : PV} {y z : V} {u t : Value} {E : Value → Shared → Prop} (I : Inv X pins σ H s) (R : Rx X cls ι h H) (ea : ι[n]? = some a) (e : h[n]? = some (.dct kvs false)) (hf : keyFit kvs q = true) (hz : kvs.length + 1 ≤ sizeLine)
    (ry : RV X.K ι H q y) (rz : RV X.K ι H r z) (eu : RelV y u) (et : RelV z t) : wpAny (model X.prog X.w) X.A (dictSet a u t) (fun _ s' => ∃ H', Inv X pins σ H' s' ∧ Kp H H' ∧ Rx X cls ι (h.set n (.dct (put q r kvs) false)) H') E s := by
  obtain ⟨o, hH, rd⟩ := R.ob n a _ ea e
  have ho : s.heap.get? a = some o := (I.hok a _ hH).1
  have hk := (keyFit_ok hf).1
  have hd8 := (keyFit_ok hf).2.1
  have fin : ∀ (h2 : Heap) (o2 : Obj) (t2 : Nat), h2.get? a = some o2 → Heap.SameBut a s.heap h2 → (∀ {H2 : Hp}, Kp H H2 → RD X.prog X.w X.K ι H2 a (put q r kvs) o2) →
      ∃ H', Inv X pins σ H' { s with heap := h2, toks := t2 } ∧ Kp H H' ∧ Rx X cls ι (h.set n (.dct (put q r kvs) false)) H' := fun h2 o2 t2 e2 sb hrd => by
    have kp : Kp H (upd H a (.ext (Is a o2))) := .upd hH (fun _ e => by cases e) fun _ _ e => by cases e
    refine ⟨_, I.write (t' := t2) (by rw [hH]; trivial) (.inl rfl) (fun b ob hb q => (sb.2 b hb).trans q) ⟨o2, e2⟩ (ext_ok e2), kp, R.write ea kp (no_kc e fun _ z => by cases z) (fun ys z => by rw [e] at z; cases z) ⟨o2, upd_same, hrd kp⟩⟩
  cases ht : PV.isTup q with
  | true =>
    obtain ⟨xs, nd⟩ := rd_tup rd ho hf ht
    have dd := nd.of I ho
    cases q with
    | tup ks =>
      obtain ⟨b, vs, rfl, hq', rv⟩ := id ry
      cases eu
      refine wpAny_dictSet_heap (knd := nestedKind X.prog X.w) (k := keyN (.tup ks)) (show X.A.units + 8 < cLine by omega) ⟨key_is I hk ry rfl, Nat.le_trans (keyN_depth _) hd8⟩ dd (fun h2 hm hs' => ?_) (by rw [rn_len nd.rn]; omega)
      obtain ⟨o2, es, ep, g1, g2, g3, g4, g5, g6⟩ := hm
      refine fin h2 o2 _ g1 hs' fun {H2} kp => ⟨Nat.le_trans (put_len _ _ _) hz, rd.2.1, .inr ⟨_, es, ep, ?_, g2, g3, g4, g6⟩⟩
      exact rn_put hk ht hd8 (ry.mono (.refl _) kp) (rz.mono (.refl _) kp) et (nd.rn.mono (.refl _) kp) nd.nd
    | _ => simp [PV.isTup] at ht
  | false =>
    obtain ⟨ls, rl, hd⟩ := rd_leaf rd hf ht
    have dd := hd _ ho
    have ndl : (ls.map (·.1)).Nodup := let ⟨_, _, _, _, _, _, _, _, z⟩ := dd; z
    refine wpAny_dictSet_pairs (knd := pKind X.prog X.w) (k := keyL q) (leaf_is hk ht ry eu) dd (fun h2 hm hs' => ?_) (by rw [rl_len rl]; omega)
    obtain ⟨o2, es, ep, g1, g2⟩ := hm
    exact fin h2 o2 _ g1 hs' fun {H2} kp => ⟨Nat.le_trans (put_len _ _ _) hz, rd.2.1, .inl ⟨_, rl_put hk ht (rz.mono (.refl _) kp) et (rl.mono (.refl _) kp) ndl, fun hh ehh => ⟨o2, es, ep, ehh, g2⟩⟩⟩
/-- one more entry, whatever stands -/
def DStep (X : Cx) (cls : Nat → Addr) (D : Addr) (y z : V) (H : Hp) (Nx : Hp → Prop) : Prop := ∃ ι h n kvs q r, Rx X cls ι h H ∧ ι[n]? = some D ∧ h[n]? = some (.dct kvs false) ∧ keyFit kvs q = true ∧ kvs.length + 1 ≤ sizeLine ∧ RV X.K ι H q y ∧ RV X.K ι H r z ∧
  ∀ H', Kp H H' → Rx X cls ι (h.set n (.dct (put q r kvs) false)) H' → Nx H'
def tDx (X : Cx) (cls : Nat → Addr) (wi : TI) (g : TG) (tt : TT) (tk tv : TE) (vs : List Nat) : TE := fun σ H Q => wi σ H fun J H1 => ∀ D, H1 D = none → (D == sysModules) = false → ∃ W : Nat → Nat → Hp → Prop, (∃ m, W 0 m (upd H1 D (.ext (Is D noD)))) ∧ ∀ i m H, W i m H →
  (J.stop i H ∧ Q (.ref D) H) ∨ (J.go i H ∧ ∃ Nx : Hp → Prop, (∀ H', Nx H' → ∃ m', m' < m ∧ W (i + 1) m' H') ∧ ∀ x H', J.yld i H x H' → g x (L2.wipe σ vs) H' fun σ2 H2 => L2.wipe σ2 vs = L2.wipe σ vs ∧ tt σ2 H2 fun b H3 =>
    if b = true then tk σ2 H3 fun y H4 => tv σ2 H4 fun z H5 => DStep X cls D y z H5 Nx else Nx H3)
/-- whatever block of X it is -/
abbrev Blk (X : Cx) (scope : Scope) (Pr : Cx → Prop) : Prop := ∀ (s : Shared) (H : Hp) (C : Addr) (cl : List (Str × Addr)) (fp : List Addr), Pr (X.blk s H scope (compEnvC scope cl C X.env) fp)
theorem dx_core {Q : VK} {kx vx tg iter : Expr} {ifs : List Expr} {scope : Scope} {own : List (Str × Nat)} {pos pos' : Pos} {wi : TI} {g : TG} {tt : TT} {tk tv : TE} {use : Option (Value → Sem Unit)} {Qf : Value → Shared → Prop}
    (hu : X.A.units + 64 < cLine) (hc : X.calm = true) (hN : X.N.Nodup) (I : Inv X pins σ H s) (hi : PI X tg iter wi) (ok : BlkOk X.N X.env.scope scope own) (hg : Blk X scope fun Y => PG Y tg g) (ht : Blk X scope fun Y => PTs Y ifs tt) (hk : Blk X scope fun Y => PE Y kx tk) (he : Blk X scope fun Y => PE Y vx tv)
    (hs : ∀ x, foldedSetIterable iter X.env x = pure x) (h : tDx X cls wi g tt tk tv (own.map (·.2)) σ H Q)
    (back : ∀ D C s' m H', Inv X pins σ H' s' → Q (.ref D) H' → s'.heap.Ns C m → FpOk X pins H' C → compPost (model X.prog X.w) X.A X.xe use Qf (.ref D) C (.ok .next) s') :
    wpAny (model X.prog X.w) X.A (comprehension (.DictComp kx vx [⟨tg, iter, ifs, 0⟩] scope pos) scope X.env pos' newDict false (eval iter X.env) use) Qf X.xe s := by
  have hfree : ∀ y ∈ scope.names, y.2 = .free → ∃ c, X.env.cells.lookup y.1 = some c := fun y hy e => (ok.free y hy e).elim (fun k => I.ok.has _ (.inl k)) fun k => I.ok.has _ (.inr k)
  refine wpAny_comprehension_free (use := use) rfl hs (closure_ok hfree) ok.kind (fun y hy e => by rw [ok.uniq y hy, e]) (thn (hi.run pins s σ H _ I h) fun xv t1 hx => thn hx fun itv t2 h2 => ?_)
  obtain ⟨it, fp, tn, J, H2, e, I2, T, st2, f2, q⟩ := h2
  subst e
  refine wpAny_newObj_type (newEnv_comp ?_)
  generalize hD : t2.heap.objs.size = D
  have hDn : H2 D = none := I2.hok.fresh (Nat.le_of_eq hD)
  have hDs : (D == sysModules) = false := by
    have := I2.big
    rw [← hD]
    exact beq_eq_false_iff_ne.mpr (Nat.ne_of_gt this)
  obtain ⟨W, ⟨m0, w0⟩, turn⟩ := q D hDn hDs
  generalize hs3 : ({ t2 with heap := t2.heap.push { cls := .type "dict", data := .dict #[] } } : Shared) = t3
  have I3 : Inv X pins σ (upd H2 D (.ext (Is D noD))) t3 := by
    rw [← hs3]
    refine I2.laid (t' := t2.toks) (fun b o e => Heap.get?_push_of_some _ e) (Nat.le_of_eq hD) ?_
    rw [← hD]
    exact ext_ok (Heap.get?_push_size _ rfl)
  have h3 : t3.heap = t2.heap.push { cls := .type "dict", data := .dict #[] } := by rw [← hs3]
  have f3 : ∀ b ∈ fp, FpOk X pins (upd H2 D (.ext (Is D noD))) b ∧ b < t3.heap.objs.size := fun b hb => by
    obtain ⟨o, e, _⟩ := T.obj _ _ st2 b hb
    have hlt := Heap.lt_size e
    refine ⟨⟨?_, (f2 b hb).2⟩, by rw [h3, Heap.size_push]; exact Nat.lt_succ_of_lt hlt⟩
    rw [upd_ne (by rw [← hD]; exact Nat.ne_of_lt hlt)]
    exact (f2 b hb).1
  have st3 : tn 0 t3.heap := T.keep _ _ _ st2 fun b _ o e => by rw [h3]; exact Heap.get?_push_of_some _ e
  have I4 := block_start I3 ok hN f3
  generalize hcs : cellsFrom (t3.heap.objs.size + 1) scope.names (cloFrom X.env.cells scope.names []) = cs at I4
  have pg := hg t3 (upd H2 D (.ext (Is D noD))) t3.heap.objs.size cs fp
  have pt := ht t3 (upd H2 D (.ext (Is D noD))) t3.heap.objs.size cs fp
  have pk := hk t3 (upd H2 D (.ext (Is D noD))) t3.heap.objs.size cs fp
  have pe := he t3 (upd H2 D (.ext (Is D noD))) t3.heap.objs.size cs fp
  show codeAny _ _ (.compStart (.DictComp kx vx [⟨tg, iter, ifs, 0⟩] scope pos) 0 (.ref it) (.ref D) (compEnvC scope cs t3.heap.objs.size X.env)) (compPost (model X.prog X.w) X.A X.xe use Qf (.ref D) t3.heap.objs.size) { t3 with heap := pushCells (t3.heap.push { cls := .type "dict", data := .dict #[] }) scope.names }
  have nfp : ∀ b ∈ fp, (upd H2 D (.ext (Is D noD))) b = none := fun b hb => (f3 b hb).1.1
  generalize hce : compEnvC scope cs t3.heap.objs.size X.env = ce at I4 pg pt pk pe ⊢
  have cL : ce.locals = t3.heap.objs.size := by subst hce; rfl
  generalize hH3 : upd H2 D (.ext (Is D noD)) = H3 at I3 I4 pg pt pk pe w0 nfp f3
  generalize hs4 : ({ t3 with heap := pushCells (t3.heap.push { cls := .type "dict", data := .dict #[] }) scope.names } : Shared) = t4 at I4 ⊢
  have st4 : tn 0 t4.heap := T.keep _ _ _ st3 fun b _ o e => by rw [← hs4]; exact pushCells_keeps _ _ _ _ (Heap.get?_push_of_some _ e)
  have stat : ∀ {σ' : L2.St} {H' : Hp} {s' : Shared}, Inv (X.blk t3 H3 scope ce fp) [] σ' H' s' → (∀ b ∈ fp, H' b = none) → ∀ b ∈ fp, FpOk (X.blk t3 H3 scope ce fp) [] H' b := fun {σ' H' s'} I' hn b hb =>
    ⟨hn b hb, (I'.ok.exf b hb).1, I'.ok.exfs b hb, .inl hb, fun x c e => (I'.ok.exf b hb).2 x c e, fun p hp => absurd (show p ∈ ([] : List (Addr × Obj)) ++ [] from hp) (by simp)⟩
  have loop : codeAny (model X.prog X.w) X.A (.compLoop (.DictComp kx vx [⟨tg, iter, ifs, 0⟩] scope pos) 0 (.ref it) (.ref D) ce) (compPost (model X.prog X.w) X.A X.xe use Qf (.ref D) t3.heap.objs.size) t4 := by
    refine compLoop_anyD (fun n s' => ∃ i H', Inv (X.blk t3 H3 scope ce fp) [] (L2.wipe σ (own.map (·.2))) H' s' ∧ tn i s'.heap ∧ (∀ b ∈ fp, H' b = none) ∧ W i n H') ?_ m0 ⟨0, H3, I4, st4, nfp, w0⟩
    rintro n t5 ⟨i, H5, I5, st5, n5, w5⟩
    rcases turn i n H5 w5 with ⟨stop, qq⟩ | ⟨go, Nx, hNx, step⟩
    · refine thnF (T.done (X.blk t3 H3 scope ce fp) rfl rfl rfl hc i [] t5 _ H5 (fun _ _ => False) I5 (stat I5 n5) st5 stop) fun r t6 ⟨hr, I6⟩ => ?_
      subst hr
      have I7 : Inv X pins σ H5 t6 := I3.call' (ch := fp) I6.os I6.base I6.hok I6.bare fun b hb => ⟨(f3 b hb).1.2.2.2.1, (f3 b hb).1.2.1, (f3 b hb).1.2.2.2.2.1, (f3 b hb).1.2.2.2.2.2⟩
      have nC : H5 ce.locals = none := I6.free
      rw [cL] at nC
      obtain ⟨m, hn, _⟩ := I6.loc
      have hn : t6.heap.Ns ce.locals m := hn
      rw [cL] at hn
      exact back D t3.heap.objs.size t6 m H5 I7 qq hn (I3.fpOk (Nat.le_refl _) nC)
    · refine thnF (T.item (X.blk t3 H3 scope ce fp) rfl rfl rfl hc i [] t5 _ H5 (fun _ _ => False) I5 (stat I5 n5) st5 go) fun r t6 ⟨u, hr, h6⟩ => ?_
      subst hr
      refine thnF h6 fun _ t7 ⟨x, H7, I7, r7, y7, st7, n7⟩ => ?_
      refine thnF (pg.run _ t7 _ H7 x u _ (I7.pinned (stat I7 n7) (T.obj _ _ st7)) r7 (step x H7 y7)) fun _ t8 ⟨σ8, H8, I8, hw8, q8⟩ => ?_
      refine thnF (pt.run _ t8 σ8 H8 _ I8 q8) fun b t9 ⟨H9, I9, q9⟩ => ?_
      have fin : ∀ {s' : Shared} {H' : Hp}, Inv (X.blk t3 H3 scope ce fp) ([] ++ pinsAt fp t7.heap) σ8 H' s' → Nx H' → ∃ m, m < n ∧ ∃ i H', Inv (X.blk t3 H3 scope ce fp) [] (L2.wipe σ (own.map (·.2))) H' s' ∧ tn i s'.heap ∧ (∀ b ∈ fp, H' b = none) ∧ W i m H' := fun {s' H'} I' nx => by
        obtain ⟨m', hm, w'⟩ := hNx H' nx
        have pin' : ∀ b ∈ fp, ∀ o, t7.heap.get? b = some o → s'.heap.get? b = some o ∧ H' b = none := fun b hb o e =>
          let z := I'.pin (b, o) (List.mem_append_right _ (List.mem_append_right _ (mem_pinsAt hb e)))
          ⟨z.1, z.2.1⟩
        refine ⟨m', hm, i + 1, H', (I'.unpinned (pins := [])).weak (by rw [← hw8, L2.wipe_length]) (fun j v e => ?_), T.keep _ _ _ st7 fun b hb o e => (pin' b hb o e).1, fun b hb => ?_, w'⟩
        · rw [← hw8] at e
          exact (wipe_some e).1
        · obtain ⟨o, e, _⟩ := T.obj _ _ st7 b hb
          exact (pin' b hb o e).2
      cases b with
      | false =>
        simp only [Bool.false_eq_true, if_false] at q9 ⊢
        exact fin I9 q9
      | true =>
        simp only [if_true] at q9 ⊢
        refine thnF (pk.run _ t9 σ8 H9 _ I9 q9) fun z t10 ⟨yk, H10, I10, r10, q10⟩ => ?_
        refine thnF (pe.run _ t10 σ8 H10 _ I10 q10) fun z2 t11 ⟨yv, H11, I11, r11, ι, h, n', kvs, q, r, Rr, e1, e2, hf, hz, rq, rr, nx⟩ => ?_
        refine thnF (v_dset (X := X.blk t3 H3 scope ce fp) hu I11 Rr e1 e2 hf hz rq rr r10 r11) fun _ t12 ⟨H12, I12, k12, R12⟩ => fin I12 (nx H12 k12 R12)
  exact codeAny_compStart_dict loop (T.self X.A 0 _ _ _ st4 loop)
theorem dcL_cons (D : Nat) (g : GX) (t : TX) (ek ev : EX) (r : Rho) (x : PV) (xs : List PV) (h : VH) : dcL D g t ek ev r (x :: xs) h = (match g x r h with
    | .ok r' h' => (match t r' h' with
      | .ok true h2 => (match ek r' h2 with
        | .ok k h3 => (match ev r' h3 with
          | .ok v h4 => (match vSetD h4 D k v with
            | some h5 => dcL D g t ek ev r xs h5
            | none => .no)
          | .ex _ _ _ => .no
          | .no => .no)
        | .ex _ _ _ => .no
        | .no => .no)
      | .ok false h2 => dcL D g t ek ev r xs h2
      | .ex _ _ _ => .no
      | .no => .no)
    | .ex _ _ _ => .no
    | .no => .no) := rfl
/-- {k: v for .. in .. if ..} -/
def eDc (own : List Nat) (ei : IX) (g : GX) (t : TX) (ek ev : EX) : EX := fun r h => (ei r h).bind fun xl h1 =>
  (dcL (lockAll h1 xl.2).length g t ek ev (wipe r own) xl.1 (lockAll h1 xl.2 ++ [.dct [] false])).bind fun _ h3 => .ok (.ref (lockAll h1 xl.2).length) (unlockAll h3 xl.2)
theorem dc_reads {σf : V → L2.St} {own : List Nat} {ei : IX} {g : GX} {t : TX} {ek ev : EX} {sl : List Nat} {Q : VK} (hsl : ∀ j ∈ sl, j ∈ own) (R : Rx X cls ι h H) (rr : RR X.K ι H ρ σ) (hw : Wx X cls (RV X.K) (W σ) (eDc own ei g t ek ev ρ h) ι H Q) :
    tDx X cls (tI X cls W ei) (tG X cls sl g) (tT X cls W0 t) (tE X cls W0 ek) (tE X cls W0 ev) own σ H (ShutE X σf Q) := by
  refine ⟨ι, ρ, h, R, rr, ?_⟩
  unfold eDc at hw
  cases hr : ei ρ h with
  | ex c p h1 => rw [hr] at hw; exact hw
  | no => rw [hr] at hw; exact hw.elim
  | ok xl h1 =>
    obtain ⟨xs, ls⟩ := xl
    rw [hr] at hw
    simp only [Res.bind] at hw
    generalize hL : lockAll h1 ls = L at hw
    intro ι1 H1 J l1 k1 R1 nd lk nf it D hD hDs
    rw [hL] at R1
    have sm0 := same_upd (o := HO.ext (Is D noD)) hD
    have l0 : Le ι1 (ι1 ++ [D]) := ⟨[D], rfl⟩
    have k0 : Kp H1 (upd H1 D (.ext (Is D noD))) := .same sm0
    have R2 : Rx X cls (ι1 ++ [D]) (L ++ [.dct [] false]) (upd H1 D (.ext (Is D noD))) := R1.new hD sm0 ⟨noD, upd_same, rd_none hDs⟩
    have hDn : (ι1 ++ [D])[L.length]? = some D := by rw [← R1.len]; simp
    refine ⟨fun i m H2 => m = xs.length - i ∧ i ≤ xs.length ∧ ∃ ι' h', Le (ι1 ++ [D]) ι' ∧ Kp (upd H1 D (.ext (Is D noD))) H2 ∧ Rx X cls ι' h' H2 ∧
      Wx X cls (RV X.K) (W σ) ((dcL L.length g t ek ev (wipe ρ own) (xs.drop i) h').bind fun _ h3 => .ok (.ref L.length) (unlockAll h3 ls)) ι H Q, ⟨xs.length, by simp, Nat.zero_le _, ι1 ++ [D], _, .refl _, .refl _, R2, hw⟩, ?_⟩
    rintro i m H2 ⟨rfl, hi, ι2, h2, l2, k2, R2, hw2⟩
    have l12 : Le ι1 ι2 := l0.trans l2
    have k12 : Kp H1 H2 := k0.trans k2
    by_cases hlt : i < xs.length
    · right
      refine ⟨it.go i ι2 H2 l12 k12 hlt, fun H3 => ∃ ι' h', Le (ι1 ++ [D]) ι' ∧ Kp (upd H1 D (.ext (Is D noD))) H3 ∧ Rx X cls ι' h' H3 ∧
        Wx X cls (RV X.K) (W σ) ((dcL L.length g t ek ev (wipe ρ own) (xs.drop (i + 1)) h').bind fun _ h3 => .ok (.ref L.length) (unlockAll h3 ls)) ι H Q, fun H' q => ⟨xs.length - (i + 1), by omega, rfl, hlt, q⟩, fun x H3 y => ?_⟩
      obtain ⟨sm, rv⟩ := it.yld i ι2 H2 x H3 xs[i] l12 k12 y (List.getElem?_eq_getElem hlt)
      have kp := Kp.same sm
      refine ⟨ι2, wipe ρ own, h2, xs[i], R2.same sm, ((rr.mono (l1.trans l12) (k1.trans (k12.trans kp))).wipe own), rv, ?_⟩
      rw [List.drop_eq_getElem_cons hlt, dcL_cons] at hw2
      cases hr2 : g xs[i] (wipe ρ own) h2 with
      | ex c p h3 => rw [hr2] at hw2; exact hw2.elim
      | no => rw [hr2] at hw2; exact hw2.elim
      | ok r3 h3 =>
        rw [hr2] at hw2
        dsimp only at hw2
        refine fun ι4 H4 σ4 l4 k4 R4 rr4 fr => ⟨wipe_frm hsl fr, ι4, r3, h3, R4, rr4, ?_⟩
        cases hr3 : t r3 h3 with
        | ex c p h5 => rw [hr3] at hw2; exact hw2.elim
        | no => rw [hr3] at hw2; exact hw2.elim
        | ok b h5 =>
          rw [hr3] at hw2
          intro ι5 H5 b' l5 k5 R5 eb
          cases eb
          cases b with
          | false =>
            rw [if_neg Bool.false_ne_true]
            exact ⟨ι5, h5, l2.trans (l4.trans l5), k2.trans (kp.trans (k4.trans k5)), R5, hw2⟩
          | true =>
            rw [if_pos rfl]
            dsimp only at hw2
            refine ⟨ι5, r3, h5, R5, rr4.mono l5 k5, ?_⟩
            cases hr4 : ek r3 h5 with
            | ex c p h6 => rw [hr4] at hw2; exact hw2.elim
            | no => rw [hr4] at hw2; exact hw2.elim
            | ok pk h6 =>
              rw [hr4] at hw2
              intro ι6 H6 yk l6 k6 R6 ryk
              dsimp only at hw2
              refine ⟨ι6, r3, h6, R6, (rr4.mono l5 k5).mono l6 k6, ?_⟩
              cases hr5 : ev r3 h6 with
              | ex c p h6 => rw [hr5] at hw2; exact hw2.elim
              | no => rw [hr5] at hw2; exact hw2.elim
              | ok pv h7 =>
                rw [hr5] at hw2
                intro ι7 H7 yv l7 k7 R7 ryv
                dsimp only at hw2
                have l07 : Le (ι1 ++ [D]) ι7 := l2.trans (l4.trans (l5.trans (l6.trans l7)))
                have k07 : Kp (upd H1 D (.ext (Is D noD))) H7 := k2.trans (kp.trans (k4.trans (k5.trans (k6.trans k7))))
                have eD : ι7[L.length]? = some D := l07.get hDn
                cases hset : vSetD h7 L.length pk pv with
                | none => rw [hset] at hw2; exact hw2.elim
                | some h8 =>
                  rw [hset] at hw2
                  have hset' := hset
                  simp only [vSetD] at hset'
                  split at hset'
                  · rename_i kvs ekvs
                    split at hset'
                    · rename_i hz
                      cases hset'
                      rw [Bool.and_eq_true] at hz
                      exact ⟨ι7, h7, L.length, kvs, pk, pv, R7, eD, ekvs, hz.1, by rw [← size_max]; exact Nat.le_of_ble_eq_true hz.2, ryk.mono l7 k7, ryv, fun H8 k8 R8 => ⟨ι7, _, l07, k07.trans k8, R8, hw2⟩⟩
                    · cases hset'
                  · cases hset'
    · left
      have e : i = xs.length := by omega
      subst e
      refine ⟨it.stop ι2 H2 l12 k12, fun pins s I => ?_⟩
      rw [List.drop_length] at hw2
      obtain ⟨H3, I3, R3, m3, _, k3⟩ := unlock_all ls I R2 nd fun n hn => (lk n hn).mono l12 k12
      refine ⟨H3, I3, hw2 ι2 H3 (.ref D) (l1.trans l12) (k3 H (k1.trans k12) fun n hn => let ⟨a, ea, z⟩ := nf n hn; ⟨a, l12.get ea, z⟩) R3 ⟨D, l2.get hDn, rfl⟩⟩
theorem ve_dc {kx vx iter : Expr} {ifs : List Expr} {scope : Scope} {own : List (Str × Nat)} {pos : Pos} {ei : IX} {g : GX} {t : TX} {ek ev : EX} {sl : List Nat} (hu : X.A.units + 64 < cLine) (hc : X.calm = true) (hN : X.N.Nodup) (hi : PI X tg iter (tI X cls W ei)) (ok : BlkOk X.N X.env.scope scope own) (hsl : ∀ j ∈ sl, j ∈ own.map (·.2))
    (hg : Blk X scope fun Y => PG Y tg (tG Y cls sl g)) (ht : Blk X scope fun Y => PTs Y ifs (tT Y cls W0 t)) (hk : Blk X scope fun Y => PE Y kx (tE Y cls W0 ek)) (he : Blk X scope fun Y => PE Y vx (tE Y cls W0 ev)) (hs : ∀ x, foldedSetIterable iter X.env x = pure x) :
    PE X (.DictComp kx vx [⟨tg, iter, ifs, 0⟩] scope pos) (tE X cls W (eDc (own.map (·.2)) ei g t ek ev)) := by
  refine ⟨fun pins s σ H Q I ⟨ι, ρ, h, R, rr, hw⟩ => ?_⟩
  rw [arm_eval_DictComp]
  refine dx_core (Q := ShutE X (fun _ => σ) Q) (g := tG X cls sl g) (tt := tT X cls W0 t) (tk := tE X cls W0 ek) (tv := tE X cls W0 ev) hu hc hN I hi ok hg ht hk he hs (dc_reads hsl R rr hw) fun D C s' m H' I' q hn f => ⟨m, hn, fun h2 sb => ?_⟩
  obtain ⟨f0, f1, f2, f3, f4, f5⟩ := f
  obtain ⟨H3, I3, q3⟩ := q _ _ (I'.turned (t' := s'.toks) (fun b o hb e => (sb.2 b hb).trans e) f0 f1 f3 f4 f5)
  exact ⟨.ref D, H3, I3, rfl, q3⟩
theorem vs_setDc {i : Nat} {y : Str} {py : Pos} {kx vx iter : Expr} {ifs : List Expr} {scope : Scope} {own : List (Str × Nat)} {pos spos : Pos} {ei : IX} {g : GX} {t : TX} {ek ev : EX} {sl : List Nat} (hu : X.A.units + 64 < cLine) (hW : ∀ σ, XMono (W σ)) (hc : X.calm = true) (hN : X.N.Nodup) (hy : X.N[i]? = some y) (hyl : X.env.scope.names.lookup y = some .local)
    (hsw : swapsWith (.DictComp kx vx [⟨tg, iter, ifs, 0⟩] scope pos) (some (.Name y py)) spos.line X.env = pure true) (hi : PI X tg iter (tI X cls W ei)) (ok : BlkOk X.N X.env.scope scope own) (hsl : ∀ j ∈ sl, j ∈ own.map (·.2))
    (hg : Blk X scope fun Y => PG Y tg (tG Y cls sl g)) (ht : Blk X scope fun Y => PTs Y ifs (tT Y cls W0 t)) (hk : Blk X scope fun Y => PE Y kx (tE Y cls W0 ek)) (he : Blk X scope fun Y => PE Y vx (tE Y cls W0 ev)) (hs : ∀ x, foldedSetIterable iter X.env x = pure x) :
    PS X (.Assign [.Name y py] (.DictComp kx vx [⟨tg, iter, ifs, 0⟩] scope pos) spos) (tS X cls W fun r h => match eDc (own.map (·.2)) ei g t ek ev r h with
    | .ok v h1 => .nx (r.set i (some v)) h1
    | .ex c p h1 => .ex c p r h1
    | .no => .no) := by
  refine ⟨fun pins s σ H D I ⟨ι, ρ, h, R, rr, hw⟩ => ?_⟩
  have key := (tE_bindS (f := fun v h1 => .nx (ρ.set i (some v)) h1) (hW σ) R rr hw).mono fun x H1 ⟨ι1, h1, p, l1, k1, R1, rr1, rv1, hw1⟩ => hw1 ι1 H1 _ (.refl _) (.refl _) R1 (rr1.set (v := x) rv1)
  obtain ⟨ι', ρ', h', R', rr', hw'⟩ := key
  rw [exec_Assign_Name_used _ _ _ _ hsw]
  refine wpAny_bind (wpAny_standAt (wpAny_bind ?_))
  show wpAny _ X.A (do let _ ← comprehension (.DictComp kx vx [⟨tg, iter, ifs, 0⟩] scope pos) scope X.env (firstIterPos [⟨tg, iter, ifs, 0⟩] pos) newDict false (eval iter X.env) (some (assign (.Name y py) X.env))) _ _ s
  refine wpAny_bind (thn (dx_core (Qf := fun _ s' => SP X pins D .next s') (Q := ShutE X (fun x => σ.set i (some x)) fun x H1 => D.nx (σ.set i (some x)) H1) (g := tG X cls sl g) (tt := tT X cls W0 t) (tk := tE X cls W0 ek) (tv := tE X cls W0 ev) hu hc hN I hi ok hg ht hk he hs (dc_reads hsl R' rr' hw') fun L C s' m H' I' q hn f => ?_) fun _ s' hq => wpAny_pure (wpAny_pure hq))
  show wpAny _ _ (assign (.Name y py) X.env (.ref L)) _ _ _
  refine wpAny_assign_Name (store_ok2 (v := V.ref L) I' hN hy (.inl hyl) rfl (fun s2 I2 ⟨a, sb, ha⟩ => ?_) (.inr hyl))
  obtain ⟨f0, f1, f2, f3, f4, f5⟩ := f
  have haC : C ≠ a := by
    rcases ha with z | z
    · rw [z]; exact f1
    · exact fun e => f4 y a z e.symm
  refine ⟨m, hn.sameBut sb haC, fun h3 sb3 => ?_⟩
  obtain ⟨H4, I4, q4⟩ := q _ _ (I2.turned (t' := s2.toks) (fun b o hb e => (sb3.2 b hb).trans e) f0 f1 f3 f4 f5)
  exact ⟨_, H4, I4, q4⟩

/-! ### displays -/
theorem ve_nodict {pos : Pos} : PE X (.Dict [] [] pos) (tE X cls W fun _ h => .ok (.ref h.length) (h ++ [.dct [] false])) := by
  refine ⟨fun pins s σ H Q I ⟨ι, ρ, h, R, rr, hw⟩ => ?_⟩
  obtain ⟨I', R'⟩ := new_dict I R s.toks
  have hf : H s.heap.objs.size = none := I.hok.fresh (Nat.le_refl _)
  exact wpAny_Dict_empty ⟨.ref s.heap.objs.size, _, I', rfl, hw _ _ _ ⟨_, rfl⟩ (.same (same_upd hf)) R' ⟨_, by rw [← R.len]; simp, rfl⟩⟩
def RPs (K : PySem.W.Frag) (ι : List Addr) (H : Hp) : List (PV × PV) → List (V × V) → Prop
  | [], vs => vs = []
  | x :: xs, vs => ∃ y z r, vs = (y, z) :: r ∧ RV K ι H x.1 y ∧ RV K ι H x.2 z ∧ RPs K ι H xs r
theorem RPs.mono {K : PySem.W.Frag} (l : Le ι ι') (k : Kp H H') : ∀ {ps : List (PV × PV)} {vs : List (V × V)}, RPs K ι H ps vs → RPs K ι' H' ps vs
  | [], _, q => q
  | _ :: _, _, ⟨y, z, r, e, a, b, c⟩ => ⟨y, z, r, e, a.mono l k, b.mono l k, RPs.mono l k c⟩
theorem store_pairs (hu : X.A.units + 64 < cLine) {n : Nat} {a : Addr} {E : Value → Shared → Prop} : ∀ (ps : List (PV × PV)) (vs : List (V × V)) (us : List (Value × Value)) (kvs kvs' : List (PV × PV)) (s : Shared) (H : Hp) (h : VH), Inv X pins σ H s → Rx X cls ι h H → ι[n]? = some a → h[n]? = some (.dct kvs false) → RPs X.K ι H ps vs → VV vs us → putAll kvs ps = some kvs' →
    wpAny (model X.prog X.w) X.A (forIn us PUnit.unit fun (x : Value × Value) (_ : PUnit) => (do dictSet a x.1 x.2; pure (ForInStep.yield PUnit.unit) : Sem (ForInStep PUnit))) (fun _ s' => ∃ H', Inv X pins σ H' s' ∧ Kp H H' ∧ Rx X cls ι (h.set n (.dct kvs' false)) H') E s
  | [], vs, us, kvs, kvs', s, H, h, I, R, ea, e, rp, rv, ep => by
    obtain rfl : vs = [] := rp
    cases rv
    cases (show some kvs = some kvs' from ep)
    rw [List.forIn_nil]
    refine wpAny_pure ⟨H, I, .refl _, ?_⟩
    have : h.set n (.dct kvs false) = h := by
      obtain ⟨hl, e⟩ := List.getElem?_eq_some_iff.mp e
      rw [← e]
      exact List.set_getElem_self hl
    rw [this]
    exact R
  | p :: ps, vs, us, kvs, kvs', s, H, h, I, R, ea, e, ⟨y, z, r, ev, ry, rz, rp⟩, rv, ep => by
    subst ev
    cases rv with
    | @cons _ u _ us r1 r2 =>
      obtain ⟨u1, u2⟩ := u
      simp only [putAll] at ep
      split at ep
      · rename_i hc
        rw [Bool.and_eq_true] at hc
        rw [List.forIn_cons]
        refine wpAny_bind (wpAny_bind (thn (v_dset hu I R ea e hc.1 (by rw [← size_max]; exact Nat.le_of_ble_eq_true hc.2) ry rz r1.1 r1.2) fun _ s1 ⟨H1, I1, k1, R1⟩ => wpAny_pure ?_))
        have hl : n < h.length := (List.getElem?_eq_some_iff.mp e).1
        refine thn (store_pairs hu ps r us _ kvs' s1 H1 _ I1 R1 ea (List.getElem?_set_self hl) (rp.mono (.refl _) k1) r2 ep) fun _ s2 ⟨H2, I2, k2, R2⟩ => ⟨H2, I2, k1.trans k2, ?_⟩
        rw [List.set_set] at R2
        exact R2
      · cases ep
end
end VI
set_option autoImplicit false
set_option linter.all false
set_option Elab.async false
set_option maxRecDepth 100000
set_option maxHeartbeats 2000000
/-! VI over the hand layer: dict displays. -/
namespace VI
open PySem PySem.Spec PyProof.Rows L2
section
variable {X : Cx} {cls : Nat → Addr} {W : L2.St → XW} {pins : List (Addr × Obj)} {σ σ' : L2.St} {H H' : Hp} {s : Shared} {ι ι' : List Addr} {ρ : Rho} {h : VH}
abbrev PX := Rho → VH → Res (List (PV × PV))
/-- the pairs of a display, from the left -/
structure PD2 (X : Cx) (cls : Nat → Addr) (W : L2.St → XW) (pos : Pos) (keys : List (Option Expr)) (values : List Expr) (f : PX) : Prop where
  run : ∀ (pins : List (Addr × Obj)) (s : Shared) (σ : L2.St) (H : Hp) (ι : List Addr) (ρ : Rho) (h : VH) (Q : List (V × V) → Hp → Prop), Inv X pins σ H s → Rx X cls ι h H → RR X.K ι H ρ σ → Wx X cls (RPs X.K) (W σ) (f ρ h) ι H Q →
    wpAny (model X.prog X.w) X.A (evalPairs (pairTrees keys values X.env pos)) (fun us s' => ∃ vs H', Inv X pins σ H' s' ∧ VV vs us ∧ Q vs H') X.xe s
theorem pd_nil {pos : Pos} : PD2 X cls W pos [] [] fun _ h => .ok [] h :=
  ⟨fun pins s σ H ι ρ h Q I R rr hw => pairTrees_nil_walk ⟨[], H, I, .nil, hw ι H [] (.refl _) (.refl _) R rfl⟩⟩
theorem pd_cons {pos : Pos} {k v : Expr} {ks : List (Option Expr)} {vs : List Expr} {ek ev : EX} {f : PX} (hW : ∀ σ, XMono (W σ)) (hk : PE X k (tE X cls W ek)) (hv : PE X v (tE X cls W ev)) (hr : PD2 X cls W pos ks vs f) :
    PD2 X cls W pos (some k :: ks) (v :: vs) fun r h => (ek r h).bind fun x h1 => (ev r h1).bind fun y h2 => (f r h2).bind fun kvs h3 => .ok ((x, y) :: kvs) h3 := by
  refine ⟨fun pins s σ H ι ρ h Q I R rr hw => ?_⟩
  refine pairTrees_cons_walk (runE (hW σ) hk I R rr hw fun u1 s1 ι1 h1 H1 p x I1 l1 k1 R1 rr1 rv1 e1 hw1 => ?_)
  refine runE (hW σ) hv I1 R1 rr1 hw1 fun u2 s2 ι2 h2 H2 q y I2 l2 k2 R2 rr2 rv2 e2 hw2 => ?_
  have key : Wx X cls (RPs X.K) (W σ) (f ρ h2) ι2 H2 fun ps H3 => ∃ p' H0, Kp H2 H3 ∧ p' = ps ∧ H0 = H3 ∧ Q ((x, y) :: ps) H3 := by
    cases hf : f ρ h2 with
    | ok kvs h3 =>
      rw [hf] at hw2
      exact fun ι3 H3 ps l3 k3 R3 rp => ⟨ps, H3, k3, rfl, rfl, hw2 ι3 H3 _ l3 k3 R3 ⟨x, y, ps, rfl, (rv1.mono l2 k2).mono l3 k3, rv2.mono l3 k3, rp⟩⟩
    | ex c p h' => rw [hf] at hw2; exact hw2
    | no => rw [hf] at hw2; exact hw2
  refine thn (hr.run pins s2 σ H2 ι2 ρ h2 _ I2 R2 rr2 key) fun us s3 ⟨ps, H3, I3, rel, _, _, _, _, _, q3⟩ => ⟨(x, y) :: ps, H3, I3, .cons ⟨e1, e2⟩ rel, q3⟩
theorem ve_disp {pos : Pos} {keys : List (Option Expr)} {values : List Expr} {f : PX} (hu : X.A.units + 64 < cLine) (hW : ∀ σ, XMono (W σ)) (hp : PD2 X cls W pos keys values f) (hall : keys.all (·.isSome) = true) (hl : keys.length = values.length) (h0 : keys ≠ []) (h15 : keys.length ≤ 15) :
    PE X (.Dict keys values pos) (tE X cls W fun r h => (f r (h ++ [.dct [] false])).bind fun kvs h1 => (match h1[h.length]? with
      | some (.dct [] false) => (match putAll [] kvs with
        | some kvs' => .ok (.ref h.length) (h1.set h.length (.dct kvs' false))
        | none => .no)
      | _ => .no)) := by
  refine ⟨fun pins s σ H Q I ⟨ι, ρ, h, R, rr, hw⟩ => ?_⟩
  have hn := pairTrees_length keys values X.env pos hall hl
  rw [arm_eval_Dict, zip_pairTrees keys values X.env pos hall hl, dictDisplay_pairs _ (fun z => h0 (List.length_eq_zero_iff.mp (by rw [← hn, z]; rfl))) (by omega)]
  refine wpAny_bind (wpAny_standAt (wpAny_bind ?_))
  unfold subDict
  refine wpAny_bind (wpAny_alloc ?_)
  refine wpAny_bind (wpAny_holding ?_)
  rw [if_pos (by omega)]
  obtain ⟨I1, R1⟩ := new_dict I R s.toks
  have hf : H s.heap.objs.size = none := I.hok.fresh (Nat.le_refl _)
  have k1 : Kp H (upd H s.heap.objs.size (.ext (Is s.heap.objs.size noD))) := .same (same_upd hf)
  have l1 : Le ι (ι ++ [s.heap.objs.size]) := ⟨_, rfl⟩
  generalize hD : s.heap.objs.size = D at *
  dsimp only at hw
  have key : Wx X cls (RPs X.K) (W σ) (f ρ (h ++ [.dct [] false])) (ι ++ [D]) (upd H D (.ext (Is D noD))) fun vs H2 => ∃ ι2 h2 ps kvs', Rx X cls ι2 h2 H2 ∧ ι2[h.length]? = some D ∧ h2[h.length]? = some (.dct [] false) ∧ RPs X.K ι2 H2 ps vs ∧ putAll [] ps = some kvs' ∧
      ∀ H3, Kp H2 H3 → Rx X cls ι2 (h2.set h.length (.dct kvs' false)) H3 → Q (.ref D) H3 := by
    cases hr : f ρ (h ++ [.dct [] false]) with
    | ex c p h' => rw [hr] at hw; exact hW _ _ _ _ _ _ _ _ hw l1 k1
    | no => rw [hr] at hw; exact hw
    | ok ps h2 =>
      rw [hr] at hw
      simp only [Res.bind] at hw
      intro ι2 H2 vs l2 k2 R2 rp
      split at hw
      · rename_i e2
        split at hw
        · rename_i kvs' e3
          have eD : ι2[h.length]? = some D := l2.get (by rw [← R.len]; simp)
          exact ⟨ι2, h2, ps, kvs', R2, eD, e2, rp, e3, fun H3 k3 R3 => hw ι2 H3 (.ref D) (l1.trans l2) (k1.trans (k2.trans k3)) R3 ⟨D, eD, rfl⟩⟩
        · exact hw.elim
      · exact hw.elim
  refine wpAny_bind (thn (hp.run pins _ σ _ _ ρ _ _ I1 R1 (rr.mono l1 k1) key) fun us s2 ⟨vs, H2, I2, rel, ι2, h2, ps, kvs', R2, eD, e2, rp, e3, q⟩ => ?_)
  refine wpAny_holding ?_
  refine wpAny_bind (thn (store_pairs hu ps vs us [] kvs' s2 H2 h2 I2 R2 eD e2 rp rel e3) fun _ s3 ⟨H3, I3, k3, R3⟩ => ?_)
  exact wpAny_pure (wpAny_pure (wpAny_pure ⟨.ref D, H3, I3, rfl, q H3 k3 R3⟩))
end
end VI
set_option autoImplicit false
set_option linter.all false
set_option Elab.async false
set_option maxRecDepth 100000
set_option maxHeartbeats 2000000
/-! VI over the hand layer: calls of own functions. -/
namespace VI
open PySem PySem.Spec PyProof.Rows L2
abbrev Wn : XW := fun _ _ _ _ _ => False
/-- a def's promise: n values, what fn says of them -/
def spV (P : Program) (w : World) (K : PySem.W.Frag) (cls : Nat → Addr) (n : Nat) (fn : List PV → VH → Res PV) : Sp := fun vs H Q _ => vs.length = n ∧ ∃ ι h ps, Rep P w K cls ι h H ∧ RVs K ι H ps vs ∧ WR P w K cls (RV K) Wn (fn ps h) ι H Q
/-- the own function f stands at fa and keeps its promise, k levels deep -/
structure FI (P : Program) (w : World) (K : PySem.W.Frag) (mg : Str → Option Value) (base : Heap) (cls : Nat → Addr) (T : Tb) (k f : Nat) (fa : Addr) : Prop where
  ex : ∃ fd ps, FnOk P w K mg base CX0 k fa fd ps (spV P w K cls ps.length (T.fn f)) ∧ ∀ as vs, T.fill f as = some vs → vs.length = ps.length ∧ ∃ dp dvs ds, vs = as ++ dp ∧ (∀ ι H, RVs K ι H dp dvs) ∧ Vals dvs ds ∧ Binds K fd ps ds
  kp : PySem.W.keepIn K (.ref fa) = true
abbrev FX (X : Cx) (cls : Nat → Addr) (T : Tb) (k f : Nat) (fa : Addr) : Prop := FI X.prog X.w X.K X.mg X.base cls T k f fa
section
variable {X : Cx} {cls : Nat → Addr} {W : L2.St → XW} {W1 : XW} {pins : List (Addr × Obj)} {σ σ' : L2.St} {H H' : Hp} {s : Shared} {ι ι' : List Addr} {ρ : Rho} {h : VH} {T : Tb} {k f : Nat} {fa : Addr}
theorem WR.off {P : Program} {w : World} {K : PySem.W.Frag} {α β : Type} {RA : List Addr → Hp → α → β → Prop} {r : Res α} {Q : β → Hp → Prop} (hF : ∀ c p h ι H, ¬ W1 c p h ι H) (q : WR P w K cls RA W1 r ι H Q) : WR P w K cls RA Wn r ι H Q := by
  cases r with
  | ok a h' => exact q
  | ex c p h' => exact hF _ _ _ _ _ q
  | no => exact q
/-- it runs -/
theorem fi_run (F : FX X cls T k f fa) (hr : Room k X.A) {ps : List PV} {vs : List V} {us : List Value} {Q : VK} (I : Inv X pins σ H s) (R : Rx X cls ι h H) (rv : RVs X.K ι H ps vs) (ev : Vals vs us) (hF : ∀ c p h ι H, ¬ W1 c p h ι H) (hw : Wx X cls (RV X.K) W1 (T.run f ps h) ι H Q) :
    wpAny (model X.prog X.w) X.A (call (.ref fa) us) (EP X pins σ Q) X.xe s := by
  obtain ⟨⟨fd, nm, F, fl⟩, _⟩ := F
  unfold Tb.run at hw
  cases e : T.fill f ps with
  | none => rw [e] at hw; exact hw.elim
  | some qs =>
    rw [e] at hw
    obtain ⟨el, dp, dvs, ds, rfl, rd, dv, hb⟩ := fl _ _ e
    have rva := rv.append (rd ι H)
    exact run_fn F hr hb dv pass0 I ev ⟨by rw [rva.length]; exact el, ι, h, _, R, rva, hw.off hF⟩
/-- an instance just made, its __init__ behind it -/
theorem made_reads {r0 : Res PV} {x : Addr} {Q : VK} (hF : ∀ c p h ι H, ¬ W1 c p h ι H) (l : Le ι ι') (kp : Kp H H') (ex : ι'[h.length]? = some x) (hw : Wx X cls (RV X.K) W1 (made h.length r0) ι H Q) : Wx X cls (RV X.K) Wn r0 ι' H' fun v H2 => v = .non ∧ Q (.ref x) H2 := by
  cases r0 with
  | ok v h2 =>
    cases v with
    | non => exact fun ι2 H2 b l2 k2 R2 r2 => ⟨r2, hw ι2 H2 (.ref x) (l.trans l2) (kp.trans k2) R2 ⟨x, l2.get ex, rfl⟩⟩
    | _ => exact False.elim hw
  | ex c' p h2 => exact (hF _ _ _ _ _ hw).elim
  | no => exact hw.elim
/-- what stands when an instance is new -/
theorem new_ins {c : Nat} (hcl : Cls X.K (cls c)) (R : Rx X cls ι h H) {x dx : Addr} (nx : H x = none) (nd : H dx = none) (ne : dx ≠ x) : Same H (upd (upd H dx (.own x)) x (.ins (cls c) dx [])) ∧ Rx X cls (ι ++ [x]) (h ++ [.ins c []]) (upd (upd H dx (.own x)) x (.ins (cls c) dx [])) := by
  have sm1 : Same H (upd H dx (.own x)) := same_upd nd
  have nx1 : upd H dx (.own x) x = none := by rw [upd_ne (Ne.symm ne)]; exact nx
  have sm2 := same_upd (o := HO.ins (cls c) dx []) nx1
  have sm : Same H (upd (upd H dx (.own x)) x (.ins (cls c) dx [])) := fun b o z => sm2 b o (sm1 b o z)
  exact ⟨sm, R.new nx sm ⟨dx, [], upd_same, rfl, hcl⟩⟩
/-- C(..) by values -/
theorem mk_run {c : Nat} (M : Mk X.K (cls c) fa) (hcl : Cls X.K (cls c)) (F : FX X cls T k f fa) (hr : Room (k + 1) X.A) (hi : T.init c = some f) {ps : List PV} {vs : List V} {us : List Value} {Q : VK} (I : Inv X pins σ H s) (R : Rx X cls ι h H) (rv : RVs X.K ι H ps vs) (ev : Vals vs us) (hF : ∀ c p h ι H, ¬ W1 c p h ι H) (hw : Wx X cls (RV X.K) W1 (T.make c ps h) ι H Q) :
    wpAny (model X.prog X.w) X.A (call (.ref (cls c)) us) (EP X pins σ Q) X.xe s := by
  obtain ⟨⟨fd, nm, F, fl⟩, _⟩ := F
  unfold Tb.make at hw
  rw [hi] at hw
  dsimp only at hw
  unfold Tb.run at hw
  cases e : T.fill f (.ref h.length :: ps) with
  | none => rw [e] at hw; exact hw.elim
  | some qs =>
    rw [e] at hw
    obtain ⟨el, dp, dvs, ds, rfl, rd, dv, hb⟩ := fl _ _ e
    refine run_make M F hr hb dv pass0 I ev fun x dx nx nd ne => ?_
    obtain ⟨sm, R'⟩ := new_ins hcl R nx nd ne
    have l : Le ι (ι ++ [x]) := ⟨_, rfl⟩
    have ex : (ι ++ [x])[h.length]? = some x := by rw [← R.len]; simp
    have rva : RVs X.K (ι ++ [x]) (upd (upd H dx (.own x)) x (.ins (cls c) dx [])) (.ref h.length :: (ps ++ dp)) (.ref x :: (vs ++ dvs)) := ⟨_, _, rfl, ⟨x, ex, rfl⟩, (rv.mono l (.same sm)).append (rd _ _)⟩
    exact ⟨by rw [rva.length]; exact el, ι ++ [x], _, _, R', rva, made_reads hF l (.same sm) ex hw⟩
/-- the last parameter of the __init__ may be handed by its keyword kw alone -/
structure FK (P : Program) (w : World) (K : PySem.W.Frag) (mg : Str → Option Value) (base : Heap) (cls : Nat → Addr) (T : Tb) (k f : Nat) (fa : Addr) (kw : Str) : Prop where
  ex : ∃ fd ps g, FnOk P w K mg base CX0 k fa fd ps (spV P w K cls ps.length (T.fn f)) ∧ (T.par f).1 = ps.length ∧ KBn K fd ps (ps.length - 1) [kw] g fun vs zs => vs ++ zs
theorem mkk_run {c : Nat} {kw : Str} (M : Mk X.K (cls c) fa) (hcl : Cls X.K (cls c)) (F : FK X.prog X.w X.K X.mg X.base cls T k f fa kw) (hr : Room (k + 1) X.A) (hi : T.init c = some f) {ps : List PV} {vs : List V} {us : List Value} {p : PV} {z : V} {u : Value} {Q : VK} (I : Inv X pins σ H s) (R : Rx X cls ι h H) (rv : RVs X.K ι H ps vs) (rz : RV X.K ι H p z) (ev : Vals vs us) (eu : RelV z u) (hF : ∀ c p h ι H, ¬ W1 c p h ι H) (hw : Wx X cls (RV X.K) W1 (T.makeK c ps p h) ι H Q) :
    wpAny (model X.prog X.w) X.A (call (.ref (cls c)) us ([kw].zip [u])) (EP X pins σ Q) X.xe s := by
  obtain ⟨fd, nm, g, F, hpar, hb⟩ := F
  unfold Tb.makeK at hw
  rw [hi] at hw
  dsimp only at hw
  split at hw
  · rename_i hz
    have hz := Nat.eq_of_beq_eq_true hz
    rw [hpar] at hz
    have hb' : KBn X.K fd nm (ps.length + 1) [kw] g fun vs zs => vs ++ zs := by
      have : nm.length - 1 = ps.length + 1 := by omega
      rw [← this]; exact hb
    refine run_makeK (zs := [z]) M F hr hb' pass0 I ev (.cons eu .nil) rv.length rfl fun x dx nx nd ne => ?_
    obtain ⟨sm, R'⟩ := new_ins hcl R nx nd ne
    have l : Le ι (ι ++ [x]) := ⟨_, rfl⟩
    have ex : (ι ++ [x])[h.length]? = some x := by rw [← R.len]; simp
    have rva : RVs X.K (ι ++ [x]) (upd (upd H dx (.own x)) x (.ins (cls c) dx [])) (.ref h.length :: (ps ++ [p])) ((.ref x :: vs) ++ [z]) := ⟨_, _, rfl, ⟨x, ex, rfl⟩, (rv.mono l (.same sm)).append (.one (rz.mono l (.same sm)))⟩
    refine ⟨?_, ι ++ [x], _, _, R', rva, made_reads hF l (.same sm) ex hw⟩
    rw [rva.length]
    simp
    omega
  · exact hw.elim

/-! ### calls in the text -/
/-- no argument is starred -/
def noStar : List Expr → Bool
  | [] => true
  | .Starred _ _ :: _ => false
  | _ :: es => noStar es
theorem star_cons {e : Expr} {es : List Expr} {env : Env} (h : noStar (e :: es) = true) : starEach (e :: es) env = (false, eval e env) :: starEach es env := by
  cases e <;> first | rfl | (exact absurd h Bool.false_ne_true)
theorem star_rest {e : Expr} {es : List Expr} (h : noStar (e :: es) = true) : noStar es = true := by
  cases e <;> first | exact h | (exact absurd h Bool.false_ne_true)
theorem star_plain {pos : Pos} {env : Env} : ∀ {es : List Expr}, noStar es = true → (backTo pos (starEach es env)).any (·.1) = false
  | [], _ => rfl
  | e :: es, h => by
    rw [star_cons h]
    show (false || (backTo pos (starEach es env)).any (·.1)) = false
    rw [star_plain (star_rest h)]
    rfl
/-- a callable by values, behind a name or a method -/
theorem call_args {g : Value} {first : List Value} {e : Expr} {es : List Expr} {pos : Pos} {ea : AX} {ff : List PV → VH → Res PV} {Q : VK} (hW : ∀ σ, XMono (W σ)) (hk : PySem.W.keepIn X.K g = true) (ha : PA X (e :: es) (tA X cls W ea)) (hs : noStar (e :: es) = true) (I : Inv X pins σ H s) (R : Rx X cls ι h H) (rr : RR X.K ι H ρ σ)
    (hw : Wx X cls (RV X.K) (W σ) ((ea ρ h).bind ff) ι H Q)
    (go : ∀ us s1 ι1 h1 H1 ps vs, Inv X pins σ H1 s1 → Le ι ι1 → Kp H H1 → Rx X cls ι1 h1 H1 → RVs X.K ι1 H1 ps vs → Vals vs us → Wx X cls (RV X.K) (W σ) (ff ps h1) ι1 H1 Q → wpAny (model X.prog X.w) X.A (call g (first ++ us)) (EP X pins σ Q) X.xe s1) :
    wpAny (model X.prog X.w) X.A (callWith pos g first (backTo pos (starEach (e :: es) X.env)) []) (EP X pins σ Q) X.xe s :=
  PySem.W.callWith_K (h₀ := X.base) I.ok.mod.kin hk (runA (pos := pos) (hW σ) ha I R rr hw fun us s1 ι1 h1 H1 ps vs I1 l1 k1 R1 rr1 rv ev hw1 => ⟨I1.kIn, go us s1 ι1 h1 H1 ps vs I1 l1 k1 R1 rv ev hw1⟩) (star_cons hs) (star_plain (star_rest hs))
section
variable {x m : Str} {p pos apos : Pos} {e o : Expr} {es : List Expr} {ea : AX} {eo : EX}
theorem ve_call (hW : ∀ σ, XMono (W σ)) (hF : ∀ σ c p h ι H, ¬ W σ c p h ι H) (F : FX X cls T k f fa) (hr : Room k X.A) (hg : Gl X x) (hm : X.mg x = some (.ref fa)) (hdb : (x == ("__debug__" : Str)) = false) (ha : PA X (e :: es) (tA X cls W ea)) (hs : noStar (e :: es) = true) :
    PE X (.Call (.Name x p) (e :: es) [] pos) (tE X cls W fun r h => (ea r h).bind fun vs h1 => T.run f vs h1) := by
  refine ⟨fun pins s σ H Q I ⟨ι, ρ, h, R, rr, hw⟩ => ?_⟩
  refine wpAny_Call_Name_kw (ld_glob I hg hm ?_ hdb)
  exact call_args (first := []) (ff := fun vs h1 => T.run f vs h1) hW F.kp ha hs I R rr hw fun us s1 ι1 h1 H1 ps vs I1 l1 k1 R1 rv ev hw1 => fi_run F hr I1 R1 rv ev (hF σ) hw1
theorem ve_call0 (hF : ∀ σ c p h ι H, ¬ W σ c p h ι H) (F : FX X cls T k f fa) (hr : Room k X.A) (hg : Gl X x) (hm : X.mg x = some (.ref fa)) (hdb : (x == ("__debug__" : Str)) = false) :
    PE X (.Call (.Name x p) [] [] pos) (tE X cls W fun _ h => T.run f [] h) := by
  refine ⟨fun pins s σ H Q I ⟨ι, ρ, h, R, rr, hw⟩ => ?_⟩
  refine wpAny_Call_Name_kw (ld_glob I hg hm ?_ hdb)
  exact PySem.W.callWith_K0 I.kIn F.kp (fi_run (us := []) (ps := []) (vs := []) F hr I R rfl .nil (hF σ) hw)
theorem ve_mk {c : Nat} (hW : ∀ σ, XMono (W σ)) (hF : ∀ σ c p h ι H, ¬ W σ c p h ι H) (M : Mk X.K (cls c) fa) (hcl : Cls X.K (cls c)) (F : FX X cls T k f fa) (hr : Room (k + 1) X.A) (hi : T.init c = some f) (hg : Gl X x) (hm : X.mg x = some (.ref (cls c))) (hdb : (x == ("__debug__" : Str)) = false) (ha : PA X (e :: es) (tA X cls W ea)) (hs : noStar (e :: es) = true) :
    PE X (.Call (.Name x p) (e :: es) [] pos) (tE X cls W fun r h => (ea r h).bind fun vs h1 => T.make c vs h1) := by
  refine ⟨fun pins s σ H Q I ⟨ι, ρ, h, R, rr, hw⟩ => ?_⟩
  refine wpAny_Call_Name_kw (ld_glob I hg hm ?_ hdb)
  exact call_args (first := []) (ff := fun vs h1 => T.make c vs h1) hW M.kp ha hs I R rr hw fun us s1 ι1 h1 H1 ps vs I1 l1 k1 R1 rv ev hw1 => mk_run M hcl F hr hi I1 R1 rv ev (hF σ) hw1
theorem ve_mkk {c : Nat} {kw : Str} {kpos : Pos} {ew : Expr} {eb : EX} (hW : ∀ σ, XMono (W σ)) (hF : ∀ σ c p h ι H, ¬ W σ c p h ι H) (M : Mk X.K (cls c) fa) (hcl : Cls X.K (cls c)) (F : FK X.prog X.w X.K X.mg X.base cls T k f fa kw) (hr : Room (k + 1) X.A) (hi : T.init c = some f) (hg : Gl X x) (hm : X.mg x = some (.ref (cls c))) (hdb : (x == ("__debug__" : Str)) = false) (ha : PA X (e :: es) (tA X cls W ea)) (hw : PE X ew (tE X cls W eb)) (hs : noStar (e :: es) = true) :
    PE X (.Call (.Name x p) (e :: es) [⟨some kw, ew, kpos⟩] pos) (tE X cls W fun r h => (ea r h).bind fun vs h1 => (eb r h1).bind fun w h2 => T.makeK c vs w h2) := by
  refine ⟨fun pins s σ H Q I ⟨ι, ρ, h, R, rr, hq⟩ => ?_⟩
  refine wpAny_Call_Name_kw (ld_glob I hg hm ?_ hdb)
  have hpl : ((backTo pos (starEach (e :: es) X.env)).any (·.1) || (backToKw pos (keywordEach [⟨some kw, ew, kpos⟩] X.env)).any (·.1.isNone)) = false := by
    rw [star_plain hs]
    rfl
  refine PySem.W.callWith_KW (h₀ := X.base) I.ok.mod.kin M.kp rfl (runA (pos := pos) (hW σ) ha I R rr hq fun us s1 ι1 h1 H1 ps vs I1 l1 k1 R1 rr1 rv ev hw1 => ?_) hpl (star_cons hs)
  have q2 := tE_bind (hW σ) R1 rr1 hw1
  refine thn ((pk_cons (nm := some kw) (kpos := kpos) hw pk_nil).run pos pins s1 σ H1 (fun zs H2 => ∃ z, zs = [z] ∧ ∃ ι2 h2 q, Le ι1 ι2 ∧ Kp H1 H2 ∧ Rx X cls ι2 h2 H2 ∧ RR X.K ι2 H2 ρ σ ∧ RV X.K ι2 H2 q z ∧ Wx X cls (RV X.K) (W σ) (T.makeK c ps q h2) ι2 H2 Q) I1 ?_) fun ws s2 ⟨zs, H2, I2, r2, z, ez, ι2, h2, q, l2, k2, R2, rr2, rz, hw2⟩ => ⟨I2.kIn, ?_⟩
  · exact q2.mono fun x H2 hq => ⟨x, rfl, hq⟩
  · subst ez
    cases r2 with
    | cons r r' =>
      cases r'
      exact mkk_run M hcl F hr hi I2 R2 (rv.mono l2 k2) rz ev r (hF σ) hw2

/-! ### methods -/
theorem mth_road {M : Model} {A : Around} {E : Value → Shared → Prop} {s : Shared} {Q : Value → Shared → Prop} {args : List Expr} {env : Env} (hbase : attributeBase o m env (eval o env) = eval o env) (hn : noStar args = true) (hlen : args.length < 30) (hline : (apos.endLine == pos.line) = true)
    (h : wpAny M A (eval o env) (fun ov s1 => ∀ pl, wpAny M A (getMethod ov m pl) (fun fx s2 => wpAny M A (callWith pos fx.1 fx.2 (backTo pos (starEach args env)) []) Q E s2) E s1) E s) :
    wpAny M A (eval (.Call (.Attribute o m apos) args [] pos) env) Q E s := by
  rw [arm_eval_Call, hbase]
  refine wpAny_bind (wpAny_mono h (fun ov s1 h1 => ?_) fun _ _ e => e)
  refine wpAny_bind (wpAny_standAt ?_)
  have hall : ∀ {args : List Expr}, noStar args = true → (backTo pos (starEach args env)).all (fun x => !x.1) = true := fun {args} => by
    induction args with
    | nil => exact fun _ => rfl
    | cons a as ih =>
      intro hn
      rw [star_cons hn]
      show (true && (backTo pos (starEach as env)).all (fun x => !x.1)) = true
      rw [ih (star_rest hn)]
      rfl
  have hform : methodCallForm (args.length + ([] : List Keyword).length) (backTo pos (starEach args env)) (backToKw pos (keywordEach [] env)) = true := by
    unfold methodCallForm
    rw [hall hn]
    show (true && true && decide (args.length + 0 + 0 < 30)) = true
    rw [decide_eq_true (by omega)]
    rfl
  have hpos : methodCallPos true o env apos pos = pure pos := by unfold methodCallPos; simp [hline]
  unfold methodCall
  rw [hform]
  refine wpAny_bind (wpAny_holding ?_)
  unfold calleeOf
  rw [if_pos rfl]
  refine wpAny_mono (h1 _) (fun fx s2 h2 => ?_) fun _ _ e => e
  exact wpAny_bind (wpAny_of_eq hpos h2)
/-- what a method of a class must be -/
structure MI (P : Program) (w : World) (K : PySem.W.Frag) (mg : Str → Option Value) (base : Heap) (cls : Nat → Addr) (T : Tb) (k : Nat) (ad : Nat → Addr) : Prop where
  meth : ∀ c m f, T.meth c m = some f → Meth K (cls c) m (ad f) ∧ FI P w K mg base cls T k f (ad f)
theorem findM_inv {x : PV} {f : Nat} (e : T.findM m x h = some f) : ∃ n c fs, x = .ref n ∧ h[n]? = some (.ins c fs) ∧ fget m fs = none ∧ T.meth c m = some f := by
  cases x with
  | ref n =>
    simp only [Tb.findM] at e
    split at e
    · rename_i c fs en
      split at e
      · rename_i ef
        exact ⟨n, c, fs, rfl, en, ef, e⟩
      · cases e
    · cases e
  | _ => cases e
/-- the method is found -/
theorem getM {ad : Nat → Addr} (MM : MI X.prog X.w X.K X.mg X.base cls T k ad) {x : PV} {f : Nat} {v : V} {u : Value} {pl : Sem Bool} {Q : Value × List Value → Shared → Prop} (I : Inv X pins σ H s) (R : Rx X cls ι h H) (rx : RV X.K ι H x v) (ev : RelV v u) (e : T.findM m x h = some f)
    (go : FX X cls T k f (ad f) → Q (.ref (ad f), [u]) s) : wpAny (model X.prog X.w) X.A (getMethod u m pl) Q X.xe s := by
  obtain ⟨n, c, fs, rfl, en, ef, em⟩ := findM_inv e
  obtain ⟨a, ea, rfl, dx, vs, hH, rf, cl⟩ := R.at en rx
  obtain rfl : u = Value.ref a := ev
  obtain ⟨m1, m2⟩ := MM.meth c m f em
  exact getmeth_ok I hH cl m1 (fget_none rf ef) (go m2)
theorem ve_mth {ad : Nat → Addr} (hW : ∀ σ, XMono (W σ)) (hF : ∀ σ c p h ι H, ¬ W σ c p h ι H) (MM : MI X.prog X.w X.K X.mg X.base cls T k ad) (hr : Room k X.A) (ho : PE X o (tE X cls W eo)) (ha : PA X (e :: es) (tA X cls W ea)) (hs : noStar (e :: es) = true) (hlen : (e :: es).length < 30) (hbase : attributeBase o m X.env (eval o X.env) = eval o X.env) (hline : (apos.endLine == pos.line) = true) :
    PE X (.Call (.Attribute o m apos) (e :: es) [] pos) (tE X cls W fun r h => (eo r h).bind fun x h1 => (match T.findM m x h1 with
      | some f => (ea r h1).bind fun vs h2 => T.run f (x :: vs) h2
      | none => .no)) := by
  refine ⟨fun pins s σ H Q I ⟨ι, ρ, h, R, rr, hw⟩ => ?_⟩
  refine mth_road hbase hs hlen hline (runE (hW σ) ho I R rr hw fun u s1 ι1 h1 H1 x v I1 l1 k1 R1 rr1 rx ev hw1 pl => ?_)
  cases hf : T.findM m x h1 with
  | none => rw [hf] at hw1; exact hw1.elim
  | some f =>
    rw [hf] at hw1
    refine getM MM I1 R1 rx ev hf fun F => ?_
    exact call_args (first := [u]) (ff := fun vs h2 => T.run f (x :: vs) h2) hW F.kp ha hs I1 R1 rr1 hw1 fun us s2 ι2 h2 H2 ps vs I2 l2 k2 R2 rv ev2 hw2 => fi_run F hr (ps := x :: ps) (vs := v :: vs) (us := u :: us) I2 R2 ⟨v, vs, rfl, rx.mono l2 k2, rv⟩ (.cons ev ev2) (hF σ) hw2
theorem ve_mth0 {ad : Nat → Addr} (hW : ∀ σ, XMono (W σ)) (hF : ∀ σ c p h ι H, ¬ W σ c p h ι H) (MM : MI X.prog X.w X.K X.mg X.base cls T k ad) (hr : Room k X.A) (ho : PE X o (tE X cls W eo)) (hbase : attributeBase o m X.env (eval o X.env) = eval o X.env) (hline : (apos.endLine == pos.line) = true) :
    PE X (.Call (.Attribute o m apos) [] [] pos) (tE X cls W fun r h => (eo r h).bind fun x h1 => (match T.findM m x h1 with
      | some f => T.run f [x] h1
      | none => .no)) := by
  refine ⟨fun pins s σ H Q I ⟨ι, ρ, h, R, rr, hw⟩ => ?_⟩
  refine mth_road hbase rfl (by decide) hline (runE (hW σ) ho I R rr hw fun u s1 ι1 h1 H1 x v I1 l1 k1 R1 rr1 rx ev hw1 pl => ?_)
  cases hf : T.findM m x h1 with
  | none => rw [hf] at hw1; exact hw1.elim
  | some f =>
    rw [hf] at hw1
    refine getM MM I1 R1 rx ev hf fun F => ?_
    exact PySem.W.callWith_K0 (first := [u]) I1.kIn F.kp (fi_run F hr (ps := [x]) (vs := [v]) (us := [u]) I1 R1 ⟨v, [], rfl, rx, rfl⟩ (.cons ev .nil) (hF σ) hw1)
/-- an attribute that stands in the object -/
def vAtt (T : Tb) (f : Str) (x : PV) (h : VH) : Res PV := match x with
  | .ref n => (match h[n]? with
    | some (.ins c fs) => (match fget f fs with
      | some v => if T.plain c f then .ok v h else .no
      | none => .no)
    | _ => .no)
  | _ => .no
theorem ve_att {fd : Str} (hW : ∀ σ, XMono (W σ)) (hp : ∀ c f, T.plain c f = true → NoAttr X.K (cls c) f) (ho : PE X o (tE X cls W eo)) (hbase : attributeBase o fd X.env (eval o X.env) = eval o X.env) :
    PE X (.Attribute o fd pos) (tE X cls W fun r h => (eo r h).bind fun x h1 => vAtt T fd x h1) := by
  refine ⟨fun pins s σ H Q I ⟨ι, ρ, h, R, rr, hw⟩ => ?_⟩
  refine attr_of hbase (runE (hW σ) ho I R rr hw fun u s1 ι1 h1 H1 x v I1 l1 k1 R1 rr1 rx ev hw1 => ?_)
  cases x with
  | ref n =>
    simp only [vAtt] at hw1
    split at hw1
    · rename_i c fs en
      split at hw1
      · rename_i p ef
        split at hw1
        · rename_i hpl
          obtain ⟨a, ea, rfl, dx, vs, hH, rf, cl⟩ := R1.at en rx
          obtain rfl : u = Value.ref a := ev
          obtain ⟨y, ey, ry⟩ := fget_rel rf ef
          exact getattr_ok I1 hH cl (hp _ _ hpl) ey fun u' s2 I2 ru => ⟨y, H1, I2, ru, hw1.val R1 ry⟩
        · exact hw1.elim
      · exact hw1.elim
    · exact hw1.elim
  | _ => exact False.elim hw1
end
end
end VI
set_option autoImplicit false
set_option linter.all false
set_option Elab.async false
set_option maxRecDepth 100000
set_option maxHeartbeats 2000000
/-! VI over the hand layer: calls of built-in functions and methods. -/
namespace VI
open PySem PySem.Spec PyProof.Rows L2
section
variable {X : Cx} {cls : Nat → Addr} {W : L2.St → XW} {W1 : XW} {pins : List (Addr × Obj)} {σ σ' : L2.St} {H H' : Hp} {s : Shared} {ι ι' : List Addr} {ρ : Rho} {h : VH} {x m : Str} {p pos apos : Pos} {a b e o : Expr} {es : List Expr} {ea eb eo : EX}
theorem one_arg (hW : ∀ σ, XMono (W σ)) (ha : PE X a (tE X cls W ea)) (hs : noStar [a] = true) : PA X [a] (tA X cls W fun r h => (ea r h).bind fun x h1 => .ok [x] h1) :=
  va_cons (eb := fun _ h => .ok [] h) hW ha va_nil (star_cons hs)
/-- a built-in thing as a function -/
def IsBlt (g : Value) : Prop := (∃ id, g = .builtin id) ∨ ∃ T, g = .type T
theorem blt_with {g : Value} {es : List Expr} {Q : Value → Shared → Prop} {A : Around} {E : Value → Shared → Prop} {prog : Program} {w : World} (hb : IsBlt g) (hs : noStar (e :: es) = true) {env : Env}
    (h : wpAny (model prog w) A (spliced (backTo pos (starEach (e :: es) env))) (fun vs s1 => wpAny (model prog w) A (call g vs) Q E s1) E s) : wpAny (model prog w) A (callWith pos g [] (backTo pos (starEach (e :: es) env)) []) Q E s := by
  rcases hb with ⟨id, rfl⟩ | ⟨T, rfl⟩
  · exact PyProof.Rows.callWith_builtin1 h (star_cons hs) (star_plain (star_rest hs))
  · exact PyProof.Rows.callWith_type1 h (star_cons hs) (star_plain (star_rest hs))
theorem ve_b1 {g : Value} {vf : VH → PV → Res PV} (hW : ∀ σ, XMono (W σ)) (hc : Call1 X cls g vf) (hb : IsBlt g) (hg : Gl X x) (hm : X.mg x = none) (hv : bootBuiltins x = some g) (hn : x ≠ "__name__") (hdb : (x == ("__debug__" : Str)) = false) (ha : PE X a (tE X cls W ea)) (hs : noStar [a] = true) :
    PE X (.Call (.Name x p) [a] [] pos) (tE X cls W fun r h => (ea r h).bind fun v h1 => vf h1 v) := by
  refine ⟨fun pins s σ H Q I ⟨ι, ρ, h, R, rr, hw⟩ => ?_⟩
  refine wpAny_Call_Name_kw (ld_blt I hg hm hv ?_ hn hdb)
  refine blt_with hb hs ?_
  have hw' : Wx X cls (RV X.K) (W σ) (((fun r h => (ea r h).bind fun x h1 => .ok [x] h1 : AX) ρ h).bind fun vs h1 => match vs with
    | [v] => vf h1 v
    | _ => .no) ι H Q := by
    dsimp only at hw ⊢
    cases hr : ea ρ h with
    | ok v h1 => rw [hr] at hw; exact hw
    | ex c p h1 => rw [hr] at hw; exact hw
    | no => rw [hr] at hw; exact hw
  refine runA (pos := pos) (hW σ) (one_arg hW ha hs) I R rr hw' fun us s1 ι1 h1 H1 ps vs I1 l1 k1 R1 rr1 rv ev hw1 => ?_
  match ps, rv, hw1 with
  | [q], rv, hw1 =>
    obtain ⟨y, _, rfl, ry, rfl⟩ := rv
    exact hc (W σ) pins s1 σ H1 ι1 h1 q y us Q I1 R1 ry ev hw1
  | [], _, hw1 => exact hw1.elim
  | _ :: _ :: _, _, hw1 => exact hw1.elim
/-- max(a, b), min(a, b) -/
theorem ve_two {g : Value} {f : Int → Int → Int} {r : List V → Hp → VK → Prop} (hW : ∀ σ, XMono (W σ)) (hc : CallR X g (fun xs H Q => ∃ i j, xs = [.int i, .int j] ∧ Q (.int (f i j)) H)) (hb : IsBlt g) (hg : Gl X x) (hm : X.mg x = none) (hv : bootBuiltins x = some g) (hn : x ≠ "__name__") (hdb : (x == ("__debug__" : Str)) = false) (ha : PE X a (tE X cls W ea)) (hb' : PE X b (tE X cls W eb)) (hs : noStar [a, b] = true) :
    PE X (.Call (.Name x p) [a, b] [] pos) (tE X cls W fun r h => (ea r h).bind fun v h1 => (eb r h1).bind fun w h2 => (match v, w with
      | .int i, .int j => .ok (.int (f i j)) h2
      | _, _ => .no)) := by
  refine ⟨fun pins s σ H Q I ⟨ι, ρ, h, R, rr, hw⟩ => ?_⟩
  refine wpAny_Call_Name_kw (ld_blt I hg hm hv ?_ hn hdb)
  refine blt_with hb hs ?_
  have hA : PA X [a, b] (tA X cls W fun r h => (ea r h).bind fun x h1 => ((eb r h1).bind fun y h2 => .ok [y] h2).bind fun xs h3 => .ok (x :: xs) h3) := va_cons hW ha (one_arg hW hb' (star_rest hs)) (star_cons hs)
  have hw' : Wx X cls (RV X.K) (W σ) (((fun r h => (ea r h).bind fun x h1 => ((eb r h1).bind fun y h2 => .ok [y] h2).bind fun xs h3 => .ok (x :: xs) h3 : AX) ρ h).bind fun vs h1 => match vs with
    | [v, w] => (match v, w with
      | .int i, .int j => .ok (.int (f i j)) h1
      | _, _ => .no)
    | _ => .no) ι H Q := by
    dsimp only at hw ⊢
    cases hr : ea ρ h with
    | ok v h1 =>
      rw [hr] at hw
      simp only [Res.bind] at hw ⊢
      cases hr2 : eb ρ h1 with
      | ok v h1 => rw [hr2] at hw; exact hw
      | ex c p h1 => rw [hr2] at hw; exact hw
      | no => rw [hr2] at hw; exact hw
    | ex c p h1 => rw [hr] at hw; exact hw
    | no => rw [hr] at hw; exact hw
  refine runA (pos := pos) (hW σ) hA I R rr hw' fun us s1 ι1 h1 H1 ps vs I1 l1 k1 R1 rr1 rv ev hw1 => ?_
  match ps, rv, hw1 with
  | [q, q2], rv, hw1 =>
    obtain ⟨y, _, rfl, ry, y2, _, rfl, ry2, rfl⟩ := rv
    cases q <;> try exact False.elim hw1
    cases q2 <;> try exact False.elim hw1
    exact hc pins s1 σ H1 _ us Q I1 ev ⟨_, _, by rw [show y = .int _ from ry, show y2 = .int _ from ry2], hw1.val R1 rfl⟩
  | [], _, hw1 => exact hw1.elim
  | [_], _, hw1 => exact hw1.elim
  | _ :: _ :: _ :: _, _, hw1 => exact hw1.elim

/-! ### len -/
/-- of a dict by its entries -/
theorem len_raw {d : Addr} {es : Array DictEntry} {ep : Nat} {A : Around} {E : Value → Shared → Prop} {Q : Value → Shared → Prop} {prog : Program} {w : World} (hd : (d == sysModules) = false) (hm : s.heap.DictRaw d es ep) (hfit : (es.size : Int) < 2 ^ 63) (hq : Q (.int es.size (s.toks + 1)) { s with toks := s.toks + 1 + 1 }) :
    wpAny (model prog w) A (call (.builtin "len") [.ref d]) Q E s := by
  refine Calls.call_function_entry kind_len plain_len entry_len (args_len1 _) ?_
  unfold Builtin.«len»
  refine wpAny_bind (m := oneArg "len" _) (wpAny_pure ?_)
  refine wpAny_bind (m := callSpecial? (.ref d) (PySem.Str.ofString "__len__")) (wpAny_callSpecial?_slot (name := PySem.Str.ofString "__len__") hm.typeIs F.slot_dict_len
    (call_meetsIn F.slot_dict_len hm.typeIs F.entry_dict_len (F.args_dict_len_1 _) (meets_dict_len_raw d hd) ⟨es, ep, hm, ?_⟩))
  show wpAny _ _ _ _ _ { s with toks := s.toks + 1 }
  refine wpAny_bind (wpAny_holding (wpAny_pure (wpAny_bind (wpAny_letGo ?_))))
  show wpAny _ _ (if ((es.size : Nat) : Int) < 0 then _ else _) _ _ _
  rw [if_neg (by omega)]
  show wpAny _ _ (if ((es.size : Nat) : Int) ≥ 2 ^ 63 then _ else _) _ _ _
  rw [if_neg (by omega)]
  exact wpAny_bind (wpAny_mkInt (wpAny_pure ⟨_, rfl, hq⟩))
theorem c_len : Call1 X cls (.builtin "len") (vB1 .len) := by
  intro W pins s σ H ι h p x us Q I R rx ru hw
  cases p with
  | tup ps =>
    obtain ⟨a, vs, rfl, hq, rv⟩ := rx
    exact call_len pins s σ H [.ref a] us Q I ru ⟨_, _, rfl, .inr ⟨vs, hq, rfl⟩, by rw [rv.length]; exact hw.val R rfl⟩
  | str y =>
    simp only [vB1] at hw
    split at hw
    · rename_i hz
      exact call_len pins s σ H [x] us Q I ru ⟨_, _, rfl, by rw [show x = .str y from rx]; exact ⟨by rw [← size_max]; exact Nat.le_of_ble_eq_true hz, rfl⟩, hw.val R rfl⟩
    · exact hw.elim
  | ref n =>
    simp only [vB1] at hw
    split at hw
    · rename_i xs lk e
      obtain ⟨a, vs, rfl, hq, rv⟩ := vlist_inv R e rx
      exact call_len pins s σ H [.ref a] us Q I ru ⟨_, _, rfl, .inl ⟨vs, hq, rfl⟩, by rw [rv.length]; exact hw.val R rfl⟩
    · rename_i kvs lk e
      obtain ⟨a, ea, rfl, ro⟩ := R.at e rx
      obtain ⟨o, ho, rd⟩ := dct_at I ro
      rw [Vals.ref1 ru]
      have hq := hw.val R (show RV X.K ι H (.int kvs.length) (.int kvs.length) from rfl)
      have hl : (kvs.length : Int) < 2 ^ 63 := by
        have := rd.1
        rw [sizeLine_eq] at this
        omega
      obtain ⟨es, ep, hx, hd, E⟩ := rd_ents rd ho
      refine len_raw rd.2.1 ⟨o, ho, hx, hd⟩ (by rw [E.size]; exact hl) ⟨.int kvs.length, H, I.tok _, ⟨_, by rw [E.size]⟩, hq⟩
    · exact hw.elim
  | _ => exact False.elim hw

/-! ### lists' methods -/
theorem tyV_lst {a : Addr} {vs : List V} (hH : H a = some (.lst vs)) : tyV X.K "list" (.ref a) H := .inl ⟨rfl, vs, .of hH⟩
theorem opn_at (R : Rx X cls ι h H) {n : Nat} {xs : List PV} {v : V} (e : h[n]? = some (.lst xs false)) (rx : RV X.K ι H (.ref n) v) : ∃ a vs, ι[n]? = some a ∧ v = .ref a ∧ H a = some (.lst vs) ∧ RVs X.K ι H xs vs := by
  obtain ⟨a, ea, rfl, vs, hH, rv⟩ := R.at e rx
  exact ⟨a, vs, ea, rfl, hH, rv⟩
/-- the list at a becomes ys -/
theorem lst_set (R : Rx X cls ι h H) {n : Nat} {xs ys : List PV} {a : Addr} {vs ws : List V} (e : h[n]? = some (.lst xs false)) (ea : ι[n]? = some a) (hH : H a = some (.lst vs)) (rw' : RVs X.K ι H ys ws) : Kp H (upd H a (.lst ws)) ∧ Rx X cls ι (h.set n (.lst ys false)) (upd H a (.lst ws)) := by
  have kp : Kp H (upd H a (.lst ws)) := .upd hH (fun _ z => by cases z) fun _ _ z => by cases z
  exact ⟨kp, R.write ea kp (no_kc e fun _ z => by cases z) (fun ys z => by rw [e] at z; cases z) ⟨_, upd_same, rw'.mono (.refl _) kp⟩⟩
theorem few_of {cpos : Pos} {env : Env} {args : List Expr} (hs : noStar args = true) (hl : args.length < 30) : ((backTo cpos (starEach args env)).all (fun x => !x.1) && (backToKw cpos (keywordEach [] env)).all (fun x => x.1.isSome)
      && decide (args.length + ([] : List Keyword).length + (if ([] : List Keyword).isEmpty then 0 else 1) < 30)) = true := by
  have hall : ∀ {args : List Expr}, noStar args = true → (backTo cpos (starEach args env)).all (fun x => !x.1) = true := fun {args} => by
    induction args with
    | nil => exact fun _ => rfl
    | cons a as ih =>
      intro hn
      rw [star_cons hn]
      show (true && (backTo cpos (starEach as env)).all (fun x => !x.1)) = true
      rw [ih (star_rest hn)]
      rfl
  rw [hall hs]
  show (true && true && decide (args.length + 0 + 0 < 30)) = true
  rw [decide_eq_true (by omega)]
  rfl
/-- a method by values -/
def MB (X : Cx) (cls : Nat → Addr) (id : String) (vf : VH → PV → List PV → Res PV) : Prop :=
  ∀ (W1 : XW) (pins : List (Addr × Obj)) (s : Shared) (σ : L2.St) (H : Hp) (ι : List Addr) (h : VH) (p : PV) (x : V) (v : Value) (ps : List PV) (vs : List V) (us : List Value) (Q : VK), Inv X pins σ H s → Rx X cls ι h H → RV X.K ι H p x → RelV x v → RVs X.K ι H ps vs → Vals vs us → Wx X cls (RV X.K) W1 (vf h p ps) ι H Q →
    wpAny (model X.prog X.w) X.A (call (.builtin id) (v :: us)) (EP X pins σ Q) X.xe s
theorem kind_is {T : String} {k : Nat} (hT : (k = 0 ∧ T = "list") ∨ (k = 1 ∧ T = "dict")) {p : PV} {v : V} {u : Value} (I : Inv X pins σ H s) (R : Rx X cls ι h H) (rx : RV X.K ι H p v) (ev : RelV v u) (e : kindB h p = k + 1) : s.TypeIs u T ∧ ∀ a, u = .ref a → ∃ ob, s.heap.get? a = some ob ∧ ob.dict = none := by
  cases p with
  | ref n =>
    simp only [kindB] at e
    split at e
    · rename_i xs lk en
      rcases hT with ⟨rfl, rfl⟩ | ⟨rfl, _⟩
      · obtain ⟨a, vs, rfl, hq, _⟩ := vlist_inv R en rx
        exact tyV_is I ev (.inl ⟨rfl, vs, hq⟩)
      · cases e
    · rename_i kvs lk en
      rcases hT with ⟨rfl, _⟩ | ⟨rfl, rfl⟩
      · cases e
      · obtain ⟨a, ea, rfl, ro⟩ := R.at en rx
        obtain ⟨o, ho, rd⟩ := dct_at I ro
        obtain ⟨es, ep, hx, hd, E⟩ := rd_ents rd ho
        obtain rfl : u = Value.ref a := ev
        exact ⟨⟨o, ho, hx.1⟩, fun b eb => by cases eb; exact ⟨o, ho, hx.2.1⟩⟩
    · cases e
  | _ => cases e
theorem ve_bm {T id : String} {k : Nat} {vf : VH → PV → List PV → Res PV} {eas : AX} (hT : (k = 0 ∧ T = "list") ∨ (k = 1 ∧ T = "dict")) (hW : ∀ σ, XMono (W σ)) (pa : PlainAttrs T) (slot : Slot T m id) (hty : typeOf (.builtin id) = pure (.type "method_descriptor")) (hm : MB X cls id vf)
    (ho : PE X o (tE X cls W eo)) (ha : PA X (e :: es) (tA X cls W eas)) (hs : noStar (e :: es) = true) (hl : (e :: es).length < 30) (hbase : attributeBase o m X.env (eval o X.env) = eval o X.env) (hline : (apos.endLine == pos.line) = true) :
    PE X (.Call (.Attribute o m apos) (e :: es) [] pos) (tE X cls W fun r h => (eo r h).bind fun x h1 => if kindB h1 x = k + 1 then (eas r h1).bind fun vs h2 => vf h2 x vs else .no) := by
  refine ⟨fun pins s σ H Q I ⟨ι, ρ, h, R, rr, hw⟩ => ?_⟩
  refine wpAny_Call_method_late hbase (few_of hs hl) hline rfl (runE (hW σ) ho I R rr hw fun u s1 ι1 h1 H1 x v I1 l1 k1 R1 rr1 rx ev hw1 => ?_)
  split at hw1
  · rename_i hk
    obtain ⟨t1, t2⟩ := kind_is hT I1 R1 rx ev hk
    refine ⟨T, id, pa, slot, hty, t1, t2, ?_⟩
    have hA := runA (pos := pos) (Qf := fun us s' => wpAny (model X.prog X.w) X.A (call (.builtin id) (u :: us)) (EP X pins σ Q) X.xe s') (hW σ) ha I1 R1 rr1 hw1 fun us s2 ι2 h2 H2 ps vs I2 l2 k2 R2 rr2 rv ev2 hw2 => hm (W σ) pins s2 σ H2 ι2 h2 x v u ps vs us Q I2 R2 (rx.mono l2 k2) ev rv ev2 hw2
    rw [star_cons hs] at hA ⊢
    refine Calls.callWith_builtin (by show (false || (backTo pos (starEach es X.env)).any (·.1)) = false; rw [star_plain (star_rest hs)]; rfl) (Calls.evalArgs_plain hA)
  · exact hw1.elim
theorem ve_bm0 {T id : String} {k : Nat} {vf : VH → PV → List PV → Res PV} (hT : (k = 0 ∧ T = "list") ∨ (k = 1 ∧ T = "dict")) (hW : ∀ σ, XMono (W σ)) (pa : PlainAttrs T) (slot : Slot T m id) (hty : typeOf (.builtin id) = pure (.type "method_descriptor")) (hm : MB X cls id vf)
    (ho : PE X o (tE X cls W eo)) (hbase : attributeBase o m X.env (eval o X.env) = eval o X.env) (hline : (apos.endLine == pos.line) = true) :
    PE X (.Call (.Attribute o m apos) [] [] pos) (tE X cls W fun r h => (eo r h).bind fun x h1 => if kindB h1 x = k + 1 then vf h1 x [] else .no) := by
  refine ⟨fun pins s σ H Q I ⟨ι, ρ, h, R, rr, hw⟩ => ?_⟩
  refine wpAny_Call_method0_late hbase hline (runE (hW σ) ho I R rr hw fun u s1 ι1 h1 H1 x v I1 l1 k1 R1 rr1 rx ev hw1 => ?_)
  split at hw1
  · rename_i hk
    obtain ⟨t1, t2⟩ := kind_is hT I1 R1 rx ev hk
    exact ⟨T, id, pa, slot, hty, t1, t2, Calls.callWith_builtin rfl (PySem.evalArgs_none (hm (W σ) pins s1 σ H1 ι1 h1 x v u [] [] [] Q I1 R1 rx ev rfl .nil hw1))⟩
  · exact hw1.elim
theorem m_append : MB X cls "list.append" (fun h p ps => vBM 0 .append h p ps) := by
  intro W1 pins s σ H ι h p x v ps vs us Q I R rx ev rv eu hw
  cases p <;> try exact False.elim hw
  simp only [vBM] at hw
  split at hw
  · rename_i xs e
    rw [if_pos (show Nat.beq 0 0 = true from rfl)] at hw
    match ps, rv, hw with
    | [q], rv, hw =>
      dsimp only at hw
      split at hw
      · rename_i hz
        obtain ⟨y, _, rfl, ry, rfl⟩ := rv
        obtain ⟨a, ws, ea, rfl, hH, rws⟩ := opn_at R e rx
        obtain ⟨kp, R'⟩ := lst_set R e ea hH (rws.append (.one ry))
        refine mt_append pins s σ H (.ref a) [y] v us Q I ev eu ⟨a, ws, y, rfl, rfl, hH, ?_, hw ι _ .non (.refl _) kp R' rfl⟩
        have := Nat.le_of_ble_eq_true hz
        rw [size_max] at this
        rw [rws.length]
        omega
      · exact hw.elim
    | [], _, hw => exact hw.elim
    | _ :: _ :: _, _, hw => exact hw.elim
  · exact hw.elim
  · exact hw.elim
theorem m_extend : MB X cls "list.extend" (fun h p ps => vBM 0 .extend h p ps) := by
  intro W1 pins s σ H ι h p x v ps vs us Q I R rx ev rv eu hw
  cases p <;> try exact False.elim hw
  simp only [vBM] at hw
  split at hw
  · rename_i xs e
    rw [if_pos (show Nat.beq 0 0 = true from rfl)] at hw
    match ps, rv, hw with
    | [q], rv, hw =>
      cases q <;> try exact False.elim hw
      dsimp only at hw
      split at hw
      · exact hw.elim
      · split at hw
        · rename_i ys e2
          split at hw
          · rename_i hz
            obtain ⟨y, _, rfl, ry, rfl⟩ := rv
            obtain ⟨a, ws, ea, rfl, hH, rws⟩ := opn_at R e rx
            obtain ⟨b, zs, eb, rfl, hB, rzs⟩ := opn_at R e2 ry
            obtain ⟨kp, R'⟩ := lst_set R e ea hH (rws.append rzs)
            refine mt_extend pins s σ H (.ref a) [.ref b] v us Q I ev eu ⟨a, b, ws, zs, rfl, rfl, hH, hB, ?_, hw ι _ .non (.refl _) kp R' rfl⟩
            have := Nat.le_of_ble_eq_true hz
            rw [size_max] at this
            rw [rws.length, rzs.length]
            exact this
          · exact hw.elim
        · exact hw.elim
    | [], _, hw => exact hw.elim
    | _ :: _ :: _, _, hw => exact hw.elim
  · exact hw.elim
  · exact hw.elim
theorem seq_ix {i : Int} {n j : Nat} (e : ixAt n i = some j) : seqIndex? i n = some j := by
  unfold ixAt at e
  unfold seqIndex?
  split at e
  · split at e
    · cases e
      simp_all
      omega
    · cases e
  · split at e
    · cases e
      simp_all
      omega
    · cases e
theorem m_popAt : MB X cls "list.pop" (fun h p ps => match ps with | [_] => vBM 0 .pop h p ps | _ => .no) := by
  intro W1 pins s σ H ι h p x v ps vs us Q I R rx ev rv eu hw
  match ps, rv, hw with
  | [q], rv, hw =>
    cases p <;> try exact False.elim hw
    simp only [vBM] at hw
    split at hw
    · rename_i xs e
      rw [if_pos (show Nat.beq 0 0 = true from rfl)] at hw
      cases q <;> try exact False.elim hw
      dsimp only at hw
      split at hw
      · rename_i hr
        split at hw
        · rename_i j hj
          split at hw
          · rename_i z hz
            obtain ⟨y, _, rfl, ry, rfl⟩ := rv
            obtain ⟨a, ws, ea, rfl, hH, rws⟩ := opn_at R e rx
            obtain ⟨kp, R'⟩ := lst_set R e ea hH (rws.eraseIdx j)
            obtain ⟨z', ez, rz⟩ := rws.get hz
            unfold inRange two62 at hr
            simp only [Bool.and_eq_true, decide_eq_true_eq] at hr
            exact mt_popAt pins s σ H (.ref a) [y] v us Q I ev eu ⟨a, ws, _, j, z', rfl, by rw [show y = .int _ from ry], hH, by omega, by omega, by rw [rws.length]; exact seq_ix hj, ez, hw ι _ z' (.refl _) kp R' (rz.mono (.refl _) kp)⟩
          · exact hw.elim
        · exact hw.elim
      · exact hw.elim
    · exact hw.elim
    · exact hw.elim
  | [], _, hw => exact hw.elim
  | _ :: _ :: _, _, hw => exact hw.elim
end
end VI
set_option autoImplicit false
set_option linter.all false
set_option Elab.async false
set_option maxRecDepth 100000
set_option maxHeartbeats 2000000
/-! VI over the hand layer: isinstance. -/
namespace VI
open PySem PySem.Spec PyProof.Rows L2
def tcV (cls : Nat → Addr) : TC → Value
  | .non => .type "NoneType"
  | .bool => .type "bool"
  | .int => .type "int"
  | .str => .type "str"
  | .tuple => .type "tuple"
  | .list => .type "list"
  | .dict => .type "dict"
  | .own c => .ref (cls c)
def tyV' (cls : Nat → Addr) : TyK → Value
  | .int => .type "int"
  | .bool => .type "bool"
  | .str => .type "str"
  | .tuple => .type "tuple"
  | .list => .type "list"
  | .dict => .type "dict"
  | .own c => .ref (cls c)
def tyW (cls : Nat → Addr) : TyK → V
  | .int => .ty "int"
  | .bool => .ty "bool"
  | .str => .ty "str"
  | .tuple => .ty "tuple"
  | .list => .ty "list"
  | .dict => .ty "dict"
  | .own c => .ref (cls c)
theorem tyW_rel {cls : Nat → Addr} {k : TyK} {u : Value} (r : RelV (tyW cls k) u) : u = tyV' cls k := by
  cases k <;> exact r
/-- what isinstance leans on of the classes -/
structure KitF (K : PySem.W.Frag) (cls : Nat → Addr) (T : Tb) : Prop where
  kit : ∀ t k b, T.kit t k = some b → PySem.W.kitOne K (tcV cls t) (tyV' cls k) = some b
  c1 : ∀ c, PySem.W.findIn K (.ref (cls c)) "__class__" = some (some (.builtin "object.__class__"))
  c2 : PySem.W.specialIn K (.builtin "object.__class__") "__get__" = some (some (.builtin "getset_descriptor.__get__"))
  c3 : PySem.W.takesIn K (.builtin "object.__class__") = some true
  c4 : ∀ c, PySem.W.mroIn K (cls c) (.type "object") = some true
section
variable {X : Cx} {cls : Nat → Addr} {W : L2.St → XW} {T : Tb} {pins : List (Addr × Obj)} {σ : L2.St} {H H' : Hp} {s : Shared} {ι ι' : List Addr} {ρ : Rho} {h : VH} {x : Str} {p pos : Pos} {a c : Expr} {ea : EX}
theorem kit_val (KF : KitF X.K cls T) {q : PV} {y : V} {u : Value} {t : TC} (I : Inv X pins σ H s) (R : Rx X cls ι h H) (rx : RV X.K ι H q y) (ev : RelV y u) (e : tcOf h q = some t) : ∃ P : Heap → Prop, PySem.W.KitX X.K u (tcV cls t) P ∧ P s.heap ∧ u ≠ .builtin "__main__.__loader__#opaque" := by
  cases q with
  | non => cases e; cases (show y = .non from rx); cases (show u = Value.none from ev); exact ⟨_, PySem.W.kitx_none, True.intro, fun z => nomatch z⟩
  | bl b => cases e; cases (show y = .bl b from rx); cases (show u = Value.bool b from ev); exact ⟨_, PySem.W.kitx_bool, True.intro, fun z => nomatch z⟩
  | int i => cases e; cases (show y = .int i from rx); obtain ⟨t, q⟩ := (show ∃ t, u = Value.int i t from ev); cases q; exact ⟨_, PySem.W.kitx_int, True.intro, fun z => nomatch z⟩
  | str i => cases e; cases (show y = .str i from rx); obtain ⟨t, q⟩ := (show ∃ t, u = Value.str i t from ev); cases q; exact ⟨_, PySem.W.kitx_str, True.intro, fun z => nomatch z⟩
  | tup qs =>
    cases e
    obtain ⟨b, vs, rfl, hq, rv⟩ := rx
    obtain rfl : u = Value.ref b := ev
    obtain ⟨its, r, ⟨o, ho, hc, _⟩, hz⟩ := I.tuple hq
    exact ⟨_, PySem.W.kitx_tuple, ⟨o, ho, hc⟩, fun z => nomatch z⟩
  | ref n =>
    simp only [tcOf] at e
    split at e
    · rename_i xs lk en
      cases e
      obtain ⟨b, vs, rfl, hq, rv⟩ := vlist_inv R en rx
      obtain rfl : u = Value.ref b := ev
      obtain ⟨its, r, ⟨o, n, ho, hc, _⟩, hz⟩ := I.list hq
      exact ⟨_, PySem.W.kitx_list, ⟨o, ho, hc⟩, fun z => nomatch z⟩
    · rename_i kvs lk en
      cases e
      obtain ⟨b, eb, rfl, ro⟩ := R.at en rx
      obtain ⟨o, ho, rd⟩ := dct_at I ro
      obtain ⟨es, ep, hx, hd, E⟩ := rd_ents rd ho
      obtain rfl : u = Value.ref b := ev
      exact ⟨_, PySem.W.kitx_dict, ⟨o, ho, hx.1⟩, fun z => nomatch z⟩
    · rename_i c fs en
      cases e
      obtain ⟨b, eb, rfl, dx, vs, hH, rf, cl⟩ := R.at en rx
      obtain rfl : u = Value.ref b := ev
      obtain ⟨mA, O, _⟩ := ins_get I.hok hH
      obtain ⟨od, J, _⟩ := O.look
      exact ⟨_, PySem.W.kitx_own (cl.get _) cl.hd (KF.c1 c) KF.c2 KF.c3 (KF.c4 c), J, fun z => nomatch z⟩
    · cases e
  | err _ _ => exact rx.elim
theorem anyK_ok (KF : KitF X.K cls T) {t : TC} : ∀ {ks : List TyK} {b : Bool}, anyK (T.kit t) ks = some b → PySem.W.kitAny X.K (tcV cls t) (ks.map (tyV' cls)) = some b
  | [], b, e => e
  | k :: ks, b, e => by
    simp only [anyK] at e
    rw [List.map_cons]
    unfold PySem.W.kitAny
    split at e
    · rename_i q
      rw [KF.kit _ _ _ q]
      exact e
    · rename_i q
      rw [KF.kit _ _ _ q]
      exact anyK_ok KF e
    · cases e
/-- isinstance(a, C) -/
theorem ve_isi {k : TyK} (hW : ∀ σ, XMono (W σ)) (KF : KitF X.K cls T) (hg : Gl X "isinstance") (hm : X.mg "isinstance" = none) (ha : PE X a (tE X cls W ea)) (hc : PE X c (tC (tyW cls k))) (hs : noStar [a, c] = true) :
    PE X (.Call (.Name "isinstance" p) [a, c] [] pos) (tE X cls W fun r h => (ea r h).bind fun x h1 => (match tcOf h1 x with
    | some t => (match anyK (T.kit t) [k] with
      | some b => .ok (.bl b) h1
      | none => .no)
    | none => .no)) := by
  refine ⟨fun pins s σ H Q I ⟨ι, ρ, h, R, rr, hw⟩ => ?_⟩
  refine wpAny_Call_Name_kw (ld_blt I hg hm boot_isinstance ?_)
  refine blt_with (.inl ⟨_, rfl⟩) hs ?_
  rw [star_cons hs]
  show wpAny _ _ (spliced ((false, eval a X.env) :: backTo pos (starEach [c] X.env))) _ _ s
  refine Calls.spliced_cons (runE (hW σ) ha I R rr hw fun v s1 ι1 h1 H1 q y I1 l1 k1 R1 rr1 rv e1 hw1 => ?_)
  have hA : PA X [c] (tCons (tC (tyW cls k)) tNil) := pa_cons hc pa_nil (star_cons (star_rest hs))
  have hQ : tCons (tC (tyW cls k)) tNil σ H1 fun vs H2 => vs = [tyW cls k] ∧ H2 = H1 := ⟨rfl, rfl⟩
  refine thn (hA.run pos pins s1 σ H1 _ I1 hQ) fun us s2 ⟨vs, H2, I2, r2, e2, e3⟩ => ?_
  subst e2 e3
  cases r2 with
  | cons r r' =>
    cases r'
    rw [tyW_rel r]
    cases et : tcOf h1 q with
    | none => rw [et] at hw1; exact hw1.elim
    | some t =>
      rw [et] at hw1
      dsimp only at hw1
      cases eb : anyK (T.kit t) [k] with
      | none => rw [eb] at hw1; exact hw1.elim
      | some b =>
        rw [eb] at hw1
        obtain ⟨Pz, Z, pz, hx⟩ := kit_val KF I2 R1 rv e1 et
        have ek : PySem.W.kitOne X.K (tcV cls t) (tyV' cls k) = some b := by
          simp only [anyK] at eb
          split at eb
          · rename_i q
            cases eb
            exact KF.kit _ _ _ q
          · rename_i q
            cases eb
            exact KF.kit _ _ _ q
          · cases eb
        exact PySem.W.kia_one Z I2.kIn pz ek hx fun tk => ⟨.bl b, _, I2.tok tk, rfl, hw1.val R1 rfl⟩
theorem cls_all {cls : Nat → Addr} : ∀ {ks : List TyK} {us : List Value}, Vals (ks.map (tyW cls)) us → us = ks.map (tyV' cls)
  | [], us, r => by cases r; rfl
  | k :: ks, us, r => by
    rw [List.map_cons] at r
    cases r with
    | cons r t => rw [tyW_rel r, cls_all t, List.map_cons]
/-- isinstance(a, (C, D)) -/
theorem ve_isiT {ks : List TyK} (hW : ∀ σ, XMono (W σ)) (KF : KitF X.K cls T) (hg : Gl X "isinstance") (hm : X.mg "isinstance" = none) (ha : PE X a (tE X cls W ea)) (hc : PE X c (fun _ H Q => ∀ t, H t = none → Q (.ref t) (upd H t (.tup (ks.map (tyW cls)))))) (hs : noStar [a, c] = true) :
    PE X (.Call (.Name "isinstance" p) [a, c] [] pos) (tE X cls W fun r h => (ea r h).bind fun x h1 => (match tcOf h1 x with
    | some t => (match anyK (T.kit t) ks with
      | some b => .ok (.bl b) h1
      | none => .no)
    | none => .no)) := by
  refine ⟨fun pins s σ H Q I ⟨ι, ρ, h, R, rr, hw⟩ => ?_⟩
  refine wpAny_Call_Name_kw (ld_blt I hg hm boot_isinstance ?_)
  refine blt_with (.inl ⟨_, rfl⟩) hs ?_
  rw [star_cons hs]
  show wpAny _ _ (spliced ((false, eval a X.env) :: backTo pos (starEach [c] X.env))) _ _ s
  refine Calls.spliced_cons (runE (hW σ) ha I R rr hw fun v s1 ι1 h1 H1 q y I1 l1 k1 R1 rr1 rv e1 hw1 => ?_)
  have hA : PA X [c] (tCons (fun _ H Q => ∀ t, H t = none → Q (.ref t) (upd H t (.tup (ks.map (tyW cls))))) tNil) := pa_cons hc pa_nil (star_cons (star_rest hs))
  have hQ : tCons (fun _ H Q => ∀ t, H t = none → Q (.ref t) (upd H t (.tup (ks.map (tyW cls))))) tNil σ H1 fun vs H2 => ∃ t, H1 t = none ∧ vs = [.ref t] ∧ H2 = upd H1 t (.tup (ks.map (tyW cls))) := fun t ht => ⟨t, ht, rfl, rfl⟩
  refine thn (hA.run pos pins s1 σ H1 _ I1 hQ) fun us s2 ⟨vs, H2, I2, r2, tp, nt, e2, e3⟩ => ?_
  subst e2 e3
  cases r2 with
  | cons r r' =>
    cases r'
    obtain rfl := (show _ = Value.ref tp from r)
    cases et : tcOf h1 q with
    | none => rw [et] at hw1; exact hw1.elim
    | some t =>
      rw [et] at hw1
      dsimp only at hw1
      cases eb : anyK (T.kit t) ks with
      | none => rw [eb] at hw1; exact hw1.elim
      | some b =>
        rw [eb] at hw1
        have sm := same_upd (o := HO.tup (ks.map (tyW cls))) nt
        obtain ⟨Pz, Z, pz, hx⟩ := kit_val KF I2 (R1.same sm) (rv.mono (.refl _) (.same sm)) e1 et
        obtain ⟨_, its, rvs, o, ho, hcl, n, hd⟩ := (show ObjOk X.prog X.w _ s2.heap tp (.tup (ks.map (tyW cls))) from I2.hok tp _ upd_same)
        rw [cls_all rvs] at hd
        obtain ⟨oc, od, dt, sl⟩ := o
        simp only at hcl hd
        subst hcl hd
        exact PySem.W.kia_tup Z I2.kIn pz ho (anyK_ok KF eb) hx fun tk => ⟨.bl b, _, I2.tok tk, rfl, hw1 ι1 _ _ (.refl _) (.same sm) (R1.same sm) rfl⟩
end
end VI
set_option autoImplicit false
set_option linter.all false
set_option Elab.async false
set_option maxRecDepth 100000
set_option maxHeartbeats 2000000
/-! VI over the hand layer: sorted of ints, of a dict with ints for keys. -/
namespace VI
open PySem PySem.Spec PyProof.Rows L2
abbrev leI (a b : Int) : Bool := decide (a ≤ b)
theorem insB_perm (x : Int) : ∀ ns : List Int, (insB leI x ns).Perm (x :: ns)
  | [] => .refl _
  | y :: r => by
    simp only [insB]
    split
    · exact .refl _
    · exact ((insB_perm x r).cons y).trans (.swap x y r)
theorem sortB_perm : ∀ ns : List Int, (sortB leI ns).Perm ns
  | [] => .refl _
  | x :: r => (insB_perm x _).trans ((sortB_perm r).cons x)
theorem insB_sorted (x : Int) : ∀ ns : List Int, ns.Pairwise (· ≤ ·) → (insB leI x ns).Pairwise (· ≤ ·)
  | [], _ => by simp [insB]
  | y :: r, h => by
    have h' := List.pairwise_cons.mp h
    simp only [insB]
    split
    · rename_i q
      have q : x ≤ y := of_decide_eq_true q
      refine List.pairwise_cons.mpr ⟨fun z hz => ?_, h⟩
      rcases List.mem_cons.mp hz with e | hz
      · omega
      · have := h'.1 z hz
        omega
    · rename_i q
      have q : ¬ x ≤ y := fun z => q (decide_eq_true z)
      refine List.pairwise_cons.mpr ⟨fun z hz => ?_, insB_sorted x r h'.2⟩
      rcases List.mem_cons.mp ((insB_perm x r).mem_iff.mp hz) with e | hz
      · omega
      · exact h'.1 z hz
theorem sortB_sorted : ∀ ns : List Int, (sortB leI ns).Pairwise (· ≤ ·)
  | [] => List.Pairwise.nil
  | x :: r => insB_sorted x _ (sortB_sorted r)
theorem sorted_one : ∀ {l m : List Int}, l.Perm m → l.Pairwise (· ≤ ·) → m.Pairwise (· ≤ ·) → l = m
  | [], m, p, _, _ => by rw [List.nil_perm.mp p]
  | x :: l, [], p, _, _ => by have := p.length_eq; simp at this
  | x :: l, y :: m, p, hl, hm => by
    have h1 := List.pairwise_cons.mp hl
    have h2 := List.pairwise_cons.mp hm
    have e : x = y := by
      have a : y ∈ x :: l := p.mem_iff.mpr List.mem_cons_self
      have b : x ∈ y :: m := p.mem_iff.mp List.mem_cons_self
      rcases List.mem_cons.mp a with e | a
      · exact e.symm
      · rcases List.mem_cons.mp b with e | b
        · exact e
        · have := h1.1 _ a
          have := h2.1 _ b
          omega
    subst e
    rw [sorted_one ((List.perm_cons x).mp p) h1.2 h2.2]
theorem ints_rv {K : PySem.W.Frag} {ι : List Addr} {H : Hp} : ∀ ns : List Int, RVs K ι H (ns.map PV.int) (ns.map V.int)
  | [] => rfl
  | n :: ns => ⟨_, _, rfl, rfl, ints_rv ns⟩
section
variable {X : Cx} {cls : Nat → Addr} {W : L2.St → XW} {pins : List (Addr × Obj)} {σ : L2.St} {H H' : Hp} {s : Shared} {ι ι' : List Addr} {ρ : Rho} {h : VH}
theorem sort_end {ns : List Int} {W1 : XW} {Q : VK} (R : Rx X cls ι h H) (hw : Wx X cls (RV X.K) W1 (newL ((sortB leI ns).map .int) h) ι H Q) : ∀ (ns' : List Int) (p : Addr), ns'.Perm ns → ns'.Pairwise (· ≤ ·) → H p = none → Q (.ref p) (upd H p (.lst (ns'.map V.int))) := by
  intro ns' p hp hs np
  have e : ns' = sortB leI ns := sorted_one (hp.trans (sortB_perm ns).symm) hs (sortB_sorted ns)
  rw [e]
  exact (Wx.newL hw R (ints_rv _)).2 p np
theorem c_sorted (hc : X.calm = true) : Call1 X cls (.builtin "sorted") (vB1 .sorted) := by
  intro W pins s σ H ι h p x us Q I R rx ru hw
  cases p with
  | ref n =>
    simp only [vB1] at hw
    split at hw
    · rename_i xs lk e
      split at hw
      · rename_i ns en
        obtain ⟨a, vs, e1, hq, rv⟩ := vlist_inv R e rx
        rw [intsOf_map en rv] at hq
        exact cr_sortedI pins s σ H [x] us Q I ru ⟨a, ns, by rw [e1], hq, sort_end R hw⟩
      · exact hw.elim
    · rename_i kvs lk e
      split at hw
      · rename_i ns en
        split at hw
        · rename_i h64
          obtain ⟨a, ea, rfl, ro⟩ := R.at e rx
          obtain ⟨o, ho, rd⟩ := dct_at I ro
          obtain ⟨es, ep, hx, hd, E⟩ := rd_ents rd ho
          rw [Vals.ref1 ru]
          refine Calls.call_function_entry PyProof.Rows.kind_sorted PyProof.Rows.plain_sorted PyProof.Rows.entry_sorted (PyProof.Rows.args_sorted1 _) ?_
          unfold Builtin.«sorted»
          refine wpAny_bind (m := checkCount "sorted" 1 1 _) (wpAny_pure ?_)
          have h64 := Nat.le_of_ble_eq_true h64
          refine wpAny_bind (PySem.W.kdu_collect (A := X.A.in1) (kdl_raw rd.2.1 hx hd) (I.ok.hd hc) ho (by rw [E.size]; exact rd.1) fun h2 tk acc hk it => ?_)
          obtain ⟨zs, v1, v2⟩ := ents_keys E (us := acc.toList) (by rw [Array.length_toList]; exact it.1) fun j v e2 => it.2 j v (by rw [← Array.getElem?_toList]; exact e2)
          rw [intsOf_map en v2] at v1
          have hS : IntsAre acc.toList ns := v1.ints
          have hal : acc.toList.length < 64 := by rw [Array.length_toList, it.1, E.size]; omega
          have I1 : Inv X pins σ H { s with heap := h2, toks := tk } := I.kept hk
          refine wpAny_bind (wpAny_newList ?_ (by rw [sizeLine_eq]; omega))
          have hoL : (h2.push (seqObj "list" acc.toList.toArray 0)).get? h2.objs.size = some (seqObj "list" acc.toList.toArray 0) := Heap.get?_push_size _ rfl
          show wpAny _ _ _ _ _ { s with heap := h2.push (seqObj "list" acc.toList.toArray 0), toks := tk }
          refine wpAny_bind (wpAny_holding (wpAny_call_entry PyProof.Rows.slot_list_sort ⟨_, hoL, rfl⟩ PyProof.Rows.entry_list_sort
            (PyProof.Rows.list_sort_tree (s := { s with heap := h2.push (seqObj "list" acc.toList.toArray 0), toks := tk }) hoL hS hal fun out ys g1 g2 g3 => ⟨_, rfl, ?_⟩) (PyProof.Rows.args_list_sort _)))
          obtain ⟨c', he'⟩ := PyProof.Rows.sortedHeap_at (vs := acc.toList) (out := out) hoL
          have hlen : (ys.map V.int).length ≤ sizeLine := by
            rw [List.length_map, g2.length_eq, ← hS.length, sizeLine_eq]
            omega
          refine wpAny_pure ⟨_, rfl, .ref h2.objs.size, upd H h2.objs.size (.lst (ys.map V.int)), I1.laid (t' := tk) (fun b u e => ?_) (Nat.le_refl _) (show ObjOk X.prog X.w _ _ _ (.lst (ys.map V.int)) from ⟨hlen, out.toList, c', vals_of_ints g1, by rw [Array.toArray_toList]; exact he'⟩), rfl, sort_end R hw ys _ g2 g3 (I1.hok.fresh (Nat.le_refl _))⟩
          have hb : b < h2.objs.size := Heap.lt_size e
          rw [PyProof.Rows.sortedHeap_old (Nat.ne_of_lt hb) (by rw [size_push']; exact Nat.lt_succ_of_lt hb)]
          exact Heap.get?_push_of_some _ e
        · exact hw.elim
      · exact hw.elim
    · exact hw.elim
  | _ => exact False.elim hw
end
end VI
set_option autoImplicit false
set_option linter.all false
set_option Elab.async false
set_option maxRecDepth 100000
set_option maxHeartbeats 2000000
/-! VI over the hand layer: starred items, len of an own object. -/
namespace VI
open PySem PySem.Spec PyProof.Rows L2 StX
section
variable {X : Cx} {cls : Nat → Addr} {W : L2.St → XW} {pins : List (Addr × Obj)} {σ : L2.St} {H H' : Hp} {s : Shared} {ι ι' : List Addr} {ρ : Rho} {h : VH}
theorem va_star {e : Expr} {es : List Expr} {p : Pos} {ea : EX} {eb : AX} (hW : ∀ σ, XMono (W σ)) (ha : PE X e (tE X cls W ea)) (hb : PA X es (tA X cls W eb)) :
    PA X (.Starred e p :: es) (tA X cls W fun r h => (ea r h).bind fun x h1 => (match seqOf h1 x with
      | some ys => (eb r h1).bind fun xs h2 => .ok (ys ++ xs) h2
      | none => .no)) := by
  refine ⟨fun pos pins s σ H Q I ⟨ι, ρ, h, R, rr, hw⟩ => ?_⟩
  refine (pa_star (p := p) ha hb rfl).run pos pins s σ H Q I ?_
  refine (tE_bind (hW σ) R rr hw).mono fun x H1 ⟨ι1, h1, q, l1, k1, R1, rr1, rv1, hw1⟩ => ?_
  cases es' : seqOf h1 q with
  | none => rw [es'] at hw1; exact hw1.elim
  | some ys =>
    rw [es'] at hw1
    obtain ⟨a, vs, rfl, hq, rv⟩ := seqOf_rel R1 rv1 es'
    refine ⟨a, vs, rfl, hq.symm, ?_⟩
    refine (tA_bind (hW σ) R1 rr1 hw1).mono fun xs H2 ⟨ι2, h2, ps, l2, k2, R2, rr2, rvs, hw2⟩ => ?_
    exact hw2 ι2 H2 _ (.refl _) (.refl _) R2 ((rv.mono l2 k2).append rvs)
/-- a call from within a built-in function -/
theorem fi_run1 {T : Tb} {k f : Nat} {fa : Addr} {W1 : XW} (F : FX X cls T k f fa) (hr : Room (k + 1) X.A) {ps : List PV} {vs : List V} {us : List Value} {Q : VK} (I : Inv X pins σ H s) (R : Rx X cls ι h H) (rv : RVs X.K ι H ps vs) (ev : Vals vs us) (hF : ∀ c p h ι H, ¬ W1 c p h ι H) (hw : Wx X cls (RV X.K) W1 (T.run f ps h) ι H Q) :
    wpAny (model X.prog X.w) X.A.in1 (call (.ref fa) us) (EP X pins σ Q) X.xe s := by
  obtain ⟨⟨fd, nm, F, fl⟩, _⟩ := F
  unfold Tb.run at hw
  cases e : T.fill f ps with
  | none => rw [e] at hw; exact hw.elim
  | some qs =>
    rw [e] at hw
    obtain ⟨el, dp, dvs, ds, rfl, rd, dv, hb⟩ := fl _ _ e
    have rva := rv.append (rd ι H)
    have r2 : Vals (vs ++ dvs) (us ++ ds) := ev.append dv
    have hl : (us ++ ds).length = nm.length := by rw [← r2.length, rva.length]; exact el
    refine wpAny_call (codeAny_mono (F.run X.A.in1 X.stack s H ⟨us, []⟩ (us ++ ds) (vs ++ dvs) Q E0 hr.in1 I.env0.in1 (hb s us I.kIn hl) r2 ⟨by rw [rva.length]; exact el, ι, h, _, R, rva, hw.off hF⟩) fun r s' hq => ?_)
    cases r with
    | error e => exact pass0 pins σ H s e s' I hq
    | ok fl =>
      cases fl with
      | ret u => exact I.after hq
      | next => exact False.elim hq
      | brk => exact False.elim hq
      | cont => exact False.elim hq
theorem c_lenO {T : Tb} {k : Nat} {ad : Nat → Addr} (MM : MI X.prog X.w X.K X.mg X.base cls T k ad) (hr : Room (k + 1) X.A) {W1 : XW} {p : PV} {x : V} {us : List Value} {Q : VK} (I : Inv X pins σ H s) (R : Rx X cls ι h H) (rx : RV X.K ι H p x) (ru : Vals [x] us) (hF : ∀ c p h ι H, ¬ W1 c p h ι H) (hw : Wx X cls (RV X.K) W1 (vLenO T h p) ι H Q) :
    wpAny (model X.prog X.w) X.A (call (.builtin "len") us) (EP X pins σ Q) X.xe s := by
  unfold vLenO at hw
  cases e : T.findM "__len__" p h with
  | none => rw [e] at hw; exact hw.elim
  | some f =>
    rw [e] at hw
    dsimp only at hw
    obtain ⟨n, c, fs, rfl, en, ef, em⟩ := findM_inv e
    obtain ⟨a, ea, rfl, dx, vs, hH, rf, cl⟩ := R.at en rx
    obtain ⟨m1, m2⟩ := MM.meth c _ f em
    rw [Vals.ref1 ru]
    obtain ⟨mA, O, _⟩ := ins_get I.hok hH
    obtain ⟨od, J, _⟩ := O.look
    refine Calls.call_function_entry kind_len plain_len entry_len (args_len1 _) ?_
    unfold Builtin.«len»
    refine wpAny_bind (m := oneArg "len" _) (wpAny_pure ?_)
    have key : Wx X cls (RV X.K) Wn (T.run f [.ref n] h) ι H fun v H2 => ∃ i : Int, v = .int i ∧ (0 ≤ i ∧ i < 1000000) ∧ Q (.int i) H2 := by
      cases hr2 : T.run f [.ref n] h with
      | no => rw [hr2] at hw; exact hw.elim
      | ex c p h2 => rw [hr2] at hw; exact (hF _ _ _ _ _ hw).elim
      | ok v h2 =>
        rw [hr2] at hw
        cases v <;> try exact False.elim hw
        rename_i i
        dsimp only at hw
        split at hw
        · rename_i hz
          simp only [Bool.and_eq_true, decide_eq_true_eq] at hz
          exact fun ι2 H2 b l2 k2 R2 r2 => ⟨i, r2, hz, hw ι2 H2 _ l2 k2 R2 rfl⟩
        · exact hw.elim
    have run := fi_run1 (W1 := Wn) m2 hr (ps := [.ref n]) (vs := [.ref a]) (us := [.ref a]) I R ⟨_, _, rfl, rx, rfl⟩ (.cons rfl .nil) (fun _ _ _ _ _ z => z) key
    refine wpAny_bind (m := callSpecial? (.ref a) (PySem.Str.ofString "__len__")) (PySem.W.special_fn I.kIn J m1.at_ (beq_iff_eq.mp m1.fn) (wpAny_mono run (fun r s2 ⟨v, H2, I2, rv, i, ei, hz, q⟩ => ?_) fun _ _ y => y))
    subst ei
    obtain ⟨t, rfl⟩ := (show ∃ t, r = Value.int i t from rv)
    refine wpAny_bind (wpAny_holding (wpAny_pure (wpAny_bind (wpAny_letGo ?_))))
    show wpAny _ _ (if i < 0 then _ else _) _ _ _
    rw [if_neg (by omega)]
    show wpAny _ _ (if i ≥ 2 ^ 63 then _ else _) _ _ _
    rw [if_neg (by omega)]
    exact wpAny_bind (wpAny_mkInt (wpAny_pure ⟨_, rfl, .int i, H2, I2.tok _, ⟨_, rfl⟩, q⟩))
end
end VI
set_option autoImplicit false
set_option linter.all false
set_option Elab.async false
set_option maxRecDepth 100000
set_option maxHeartbeats 2000000
/-! VI over the hand layer: side conditions by looking. -/
namespace VI
open PySem PySem.Spec PyProof.Rows L2
/-- a call of a bare name without arguments: super() is one -/
def bareCall : Expr → Bool
  | .Call (.Name _ _) [] [] _ => true
  | _ => false
theorem base_ok {o : Expr} {m : Str} {env : Env} {t : Sem Value} (h : bareCall o = false) : attributeBase o m env t = t := by
  unfold attributeBase
  split
  · exact absurd h (by simp [bareCall])
  · rfl
def isComp : Expr → Bool
  | .ListComp .. => true
  | .SetComp .. => true
  | .DictComp .. => true
  | _ => false
theorem swaps_no {e : Expr} {t : Option Expr} {l : Nat} {env : Env} (h : isComp e = false) : swapsWith e t l env = pure false := by
  cases e <;> first | rfl | (exact absurd h (by simp [isComp]))
def isSetD : Expr → Bool
  | .Set .. => true
  | _ => false
theorem fold_no {e : Expr} {env : Env} {x : Value} (h : isSetD e = false) : foldedSetIterable e env x = pure x := by
  cases e <;> first | rfl | (exact absurd h (by simp [isSetD]))
theorem marks_no {op : CmpOp} {e : Expr} (h : isSetD e = false) : behindInMarks op e = false := by
  cases e <;> first | rfl | (exact absurd h (by simp [isSetD]))
/-- a target that no pair of names is: nothing is swapped -/
def isTupE : Expr → Bool
  | .Tuple .. => true
  | _ => false
theorem stores_no {t e : Expr} {env : Env} (h : isTupE t = false ∨ isTupE e = false) (hl : ∀ ts p, t ≠ .List ts p) : swappedStores [t] e env = pure none := by
  cases t with
  | Tuple ts k p => cases e <;> first | rfl | (exact absurd h (by simp [isTupE]))
  | List ts p => exact absurd rfl (hl _ _)
  | _ => rfl
def visC (sc : Scope) (x : Str) : Bool := match sc.names.lookup x with
  | some .local => true
  | some .cell => true
  | some .free => true
  | _ => false
theorem vis_ok {sc : Scope} {x : Str} (h : visC sc x = true) : Vis sc x := by
  unfold visC at h
  split at h
  · rename_i e; exact .inl e
  · rename_i e; exact .inr (.inl e)
  · rename_i e; exact .inr (.inr e)
  · cases h
def lclC (sc : Scope) (x : Str) : Bool := match sc.names.lookup x with
  | some .local => true
  | _ => false
theorem lcl_ok {sc : Scope} {x : Str} (h : lclC sc x = true) : sc.names.lookup x = some .local := by
  unfold lclC at h
  split at h
  · rename_i e; exact e
  · cases h
def locC (sc : Scope) (x : Str) : Bool := match sc.names.lookup x with
  | some .local => true
  | some .cell => true
  | _ => false
theorem loc_ok {sc : Scope} {x : Str} (h : locC sc x = true) : Loc sc x := by
  unfold locC at h
  split at h
  · rename_i e; exact .inl e
  · rename_i e; exact .inr e
  · cases h
def gloC (sc : Scope) (x : Str) : Bool := match sc.names.lookup x with
  | some .globalImplicit => true
  | _ => false
theorem glo_ok {X : Cx} {x : Str} (h : gloC X.env.scope x = true) : Gl X x := by
  unfold gloC at h
  split at h
  · rename_i e; exact e
  · cases h
end VI
set_option autoImplicit false
set_option linter.all false
set_option Elab.async false
set_option maxRecDepth 100000
set_option maxHeartbeats 2000000
/-! VI over the hand layer: what the checker still wants. -/
namespace VI
open PySem PySem.Spec PyProof.Rows L2
section
variable {X : Cx} {cls : Nat → Addr} {W : L2.St → XW} {W1 : XW} {pins : List (Addr × Obj)} {σ : L2.St} {H H' : Hp} {s : Shared} {ι ι' : List Addr} {ρ : Rho} {h : VH} {T : Tb} {a b o : Expr} {ea eb eo : EX} {ta : TX} {p pos : Pos}
theorem ve_one {op : BoolOp} (ha : PE X a (tE X cls W ea)) : PE X (.BoolOp op [a] pos) (tE X cls W ea) := ⟨fun pins s σ H Q I q => by
  show wpAny _ _ (boolOp pos op [eval a X.env]) _ _ _
  exact ha.run pins s σ H Q I q⟩
theorem vw_and1 (ha : PT X a (tT X cls W ta)) : PW X (.BoolOp .And [a] pos) (tT X cls W ta) := pw_and1 ha
theorem vw_or1 (ha : PT X a (tT X cls W ta)) : PW X (.BoolOp .Or [a] pos) (tT X cls W ta) := pw_or1 ha
theorem pw_of {op : BoolOp} {es : List Expr} (h : PT X (.BoolOp op es pos) (tT X cls W ta)) : PW X (.BoolOp op es pos) (tT X cls W ta) := ⟨fun _ pins s σ H Q I q => h.run pins s σ H Q I q⟩
theorem ve_cg {e : Expr} (q : ∀ r h, ea r h = eb r h) (hE : PE X e (tE X cls W ea)) : PE X e (tE X cls W eb) := by
  have : ea = eb := funext fun r => funext fun h => q r h
  rw [← this]; exact hE
theorem vs_cg {st : Stmt} {fa fb : SX} (q : ∀ r h, fa r h = fb r h) (hE : PS X st (tS X cls W fa)) : PS X st (tS X cls W fb) := by
  have : fa = fb := funext fun r => funext fun h => q r h
  rw [← this]; exact hE
theorem vi_cg {tg it : Expr} {fa fb : IX} (q : ∀ r h, fa r h = fb r h) (hE : PI X tg it (tI X cls W fa)) : PI X tg it (tI X cls W fb) := by
  have : fa = fb := funext fun r => funext fun h => q r h
  rw [← this]; exact hE
theorem vi_no {tg it : Expr} {fa : IX} (q : ∀ r h, fa r h = .no) : PI X tg it (tI X cls W fa) := ⟨fun pins s σ H R I ⟨ι, ρ, h, Rr, rr, hw⟩ => by
  rw [q] at hw; exact hw.elim⟩
/-- a statement that never goes on -/
theorem vs_never {st : Stmt} {fa : SX} (hF : ∀ σ c p h ι H, ¬ W σ c p h ι H) (q : ∀ r h, (∃ c p h', fa r h = .ex c p r h') ∨ fa r h = .no) : PS X st (tS X cls W fa) := ⟨fun pins s σ H D I ⟨ι, ρ, h, R, rr, hw⟩ => by
  rcases q ρ h with ⟨c, p, h', e⟩ | e
  · rw [e] at hw
    exact (hF _ _ _ _ _ _ (hw ι H σ (.refl _) (.refl _) rr)).elim
  · rw [e] at hw
    exact hw.elim⟩
theorem ve_attT {fd : Str} (hW : ∀ σ, XMono (W σ)) (hprop : ∀ c f, T.prop c f = none) (hp : ∀ c f, T.plain c f = true → NoAttr X.K (cls c) f) (ho : PE X o (tE X cls W eo)) (hbase : attributeBase o fd X.env (eval o X.env) = eval o X.env) :
    PE X (.Attribute o fd pos) (tE X cls W fun r h => (eo r h).bind fun x h1 => T.attr x fd h1) := by
  refine ⟨fun pins s σ H Q I ⟨ι, ρ, h, R, rr, hw⟩ => ?_⟩
  refine attr_of hbase (runE (hW σ) ho I R rr hw fun u s1 ι1 h1 H1 x v I1 l1 k1 R1 rr1 rx ev hw1 => ?_)
  cases x with
  | ref n =>
    simp only [Tb.attr] at hw1
    split at hw1
    · rename_i c fs en
      split at hw1
      · rename_i p ef
        split at hw1
        · rename_i hpl
          obtain ⟨a, ea, rfl, dx, vs, hH, rf, cl⟩ := R1.at en rx
          obtain rfl : u = Value.ref a := ev
          obtain ⟨y, ey, ry⟩ := fget_rel rf ef
          exact getattr_ok I1 hH cl (hp _ _ hpl) ey fun u' s2 I2 ru => ⟨y, H1, I2, ru, hw1.val R1 ry⟩
        · exact hw1.elim
      · rw [hprop] at hw1
        exact hw1.elim
    · exact hw1.elim
  | err c q => exact (show False from rx).elim
  | _ => exact False.elim hw1
theorem ve_subT (hW : ∀ σ, XMono (W σ)) (hu : X.A.units + 64 < cLine) (hg : ∀ c, T.meth c "__getitem__" = none) (ha : PE X a (tE X cls W ea)) (hb : PE X b (tE X cls W eb)) (hs : PlainIx b) :
    PE X (.Subscript a b pos) (tE X cls W fun r h => (ea r h).bind fun x h1 => (eb r h1).bind fun y h2 => (match x with
    | .ref n => (match h2[n]? with
      | some (.ins _ _) => T.meth' "__getitem__" x [y] h2
      | _ => vSub h2 x y)
    | _ => vSub h2 x y)) := by
  refine ve_cg (fun r h => ?_) (ve_ix (vf := fun h => vSub h) hW (v_ix hu) ha hb hs)
  congr 1
  funext x h1
  congr 1
  funext y h2
  cases x with
  | ref n =>
    dsimp only
    split
    · rename_i c fs e
      simp only [Tb.meth', Tb.findM, vSub, e, hg]
      cases fget "__getitem__" fs <;> rfl
    · rfl
  | _ => rfl
/-! ### a dict of the module -/
def EsRel (K : PySem.W.Frag) : List (Str × PV) → List DictEntry → Prop
  | [], es => es = []
  | x :: xs, es => ∃ e r v, es = e :: r ∧ (∃ t, e.key = .str x.1 t) ∧ RelV v e.val ∧ (∀ ι H, RV K ι H x.2 v) ∧ EsRel K xs r
structure GD (K : PySem.W.Frag) (w : World) (d : Addr) (kvs : List (Str × PV)) : Prop where
  ex : ∃ es n, KDict K w d es n ∧ EsRel K kvs es.toList
theorem es_find {K : PySem.W.Frag} (z : Str) : ∀ {kvs : List (Str × PV)} {es : List DictEntry}, EsRel K kvs es →
    (match kvs.lookup z with
      | some q => ∃ e v, es.find? (·.key.isStr z) = some e ∧ RelV v e.val ∧ ∀ ι H, RV K ι H q v
      | none => es.find? (·.key.isStr z) = none) ∧ es.any (·.refKey) = false
  | [], es, h => by
    cases (show es = [] from h)
    exact ⟨rfl, rfl⟩
  | x :: xs, es, h => by
    obtain ⟨e, r, v, rfl, ⟨t, ek⟩, rv, rp, h⟩ := h
    obtain ⟨i1, i2⟩ := es_find z h
    have rk : e.refKey = false := by unfold DictEntry.refKey; rw [ek]
    have hs : e.key.isStr z = (z == x.1) := by
      rw [ek]
      show (x.1 == z) = (z == x.1)
      by_cases hz : x.1 = z
      · subst hz; rfl
      · rw [beq_eq_false_iff_ne.mpr hz, beq_eq_false_iff_ne.mpr (Ne.symm hz)]
    refine ⟨?_, by rw [List.any_cons, rk, i2]; rfl⟩
    obtain ⟨k, q⟩ := x
    simp only [List.lookup_cons]
    cases hz : z == k with
    | true =>
      simp only
      refine ⟨e, v, ?_, rv, rp⟩
      rw [List.find?_cons, hs, hz]
    | false =>
      simp only
      rw [List.find?_cons, hs, hz]
      exact i1
theorem gd_ns {K : PySem.W.Frag} {w : World} {d : Addr} {kvs : List (Str × PV)} {es : Array DictEntry} {n : Nat} (D : KDict K w d es n) (E : EsRel K kvs es.toList) (z : Str) :
    match kvs.lookup z with
      | some q => ∃ u v, PySem.W.nsIn K d z = some (some u) ∧ RelV v u ∧ ∀ ι H, RV K ι H q v
      | none => PySem.W.nsIn K d z = some none := by
  obtain ⟨i1, i2⟩ := es_find z E
  unfold PySem.W.nsIn
  rw [D.at_]
  dsimp only
  cases hz : kvs.lookup z with
  | some q =>
    rw [hz] at i1
    obtain ⟨e, v, e1, rv, rp⟩ := i1
    rw [e1]
    exact ⟨_, v, rfl, rv, rp⟩
  | none =>
    rw [hz] at i1
    simp only at i1 ⊢
    rw [i1, i2]
    rfl
theorem ve_gin {neg : Bool} {g : Nat} {x : Str} {d : Addr} {kvs : List (Str × PV)} {p2 : Pos} (hW : ∀ σ, XMono (W σ)) (hgd : T.gd g = some kvs) (hg : Gl X x) (hm : X.mg x = some (.ref d)) (hdb : (x == ("__debug__" : Str)) = false) (D : GD X.K X.w d kvs) (ha : PE X a (tE X cls W ea)) :
    PE X (.Compare a [if neg then .NotIn else .In] [.Name x p2] pos) (tE X cls W fun r h => (ea r h).bind fun x h1 => (match T.gd g, x with
    | some kvs, .str s => .ok (.bl (neg != (kvs.lookup s).isSome)) h1
    | _, _ => .no)) := by
  obtain ⟨es, n, KD, E⟩ := D.ex
  have hb : PE X (.Name x p2) (tC (.ref d)) := pe_glob hg hm rfl hdb
  refine ⟨fun pins s σ H Q I ⟨ι, ρ, h, R, rr, hw⟩ => ?_⟩
  have fin : tE X cls W ea σ H fun y H1 => ∃ (z : Str) (r : Option Value), y = .str z ∧ PySem.W.nsIn X.K d z = some r ∧ Q (.bl (neg != r.isSome)) H1 := by
    refine (tE_bind (hW σ) R rr hw).mono fun y H1 ⟨ι1, h1, q, l1, k1, R1, rr1, rv1, hw1⟩ => ?_
    rw [hgd] at hw1
    cases q with
    | str z =>
      have e := gd_ns KD E z
      cases hz : kvs.lookup z with
      | some q =>
        rw [hz] at e
        obtain ⟨u, v, e1, _⟩ := e
        refine ⟨z, some u, rv1, e1, ?_⟩
        have := hw1.val R1 (x := .bl (neg != (kvs.lookup z).isSome)) rfl
        rw [hz] at this
        exact this
      | none =>
        rw [hz] at e
        refine ⟨z, none, rv1, e, ?_⟩
        have := hw1.val R1 (x := .bl (neg != (kvs.lookup z).isSome)) rfl
        rw [hz] at this
        exact this
    | _ => exact False.elim hw1
  cases neg with
  | false =>
    refine (pe_cmpR (op_in_kd KD) ha hb rfl).run pins s σ H Q I ?_
    refine fin.mono fun y H1 ⟨z, r, e1, e2, q⟩ => ?_
    refine ⟨z, r, e1, rfl, e2, ?_⟩
    simpa using q
  | true =>
    refine (pe_cmpR (op_notIn_kd KD) ha hb rfl).run pins s σ H Q I ?_
    refine fin.mono fun y H1 ⟨z, r, e1, e2, q⟩ => ?_
    refine ⟨z, r, e1, rfl, e2, ?_⟩
    simpa using q
theorem ve_gget {g : Nat} {x : Str} {d : Addr} {kvs : List (Str × PV)} {p2 : Pos} (hW : ∀ σ, XMono (W σ)) (hgd : T.gd g = some kvs) (hg : Gl X x) (hm : X.mg x = some (.ref d)) (hdb : (x == ("__debug__" : Str)) = false) (D : GD X.K X.w d kvs) (ha : PE X a (tE X cls W ea)) (hs : PlainIx a) :
    PE X (.Subscript (.Name x p2) a pos) (tE X cls W fun r h => (ea r h).bind fun x h1 => (match T.gd g, x with
    | some kvs, .str s => (match kvs.lookup s with
      | some v => .ok v h1
      | none => .no)
    | _, _ => .no)) := by
  obtain ⟨es, n, KD, E⟩ := D.ex
  have hb : PE X (.Name x p2) (tC (.ref d)) := pe_glob hg hm rfl hdb
  refine ⟨fun pins s σ H Q I ⟨ι, ρ, h, R, rr, hw⟩ => ?_⟩
  refine (pe_ix ix_kdict hb ha hs).run pins s σ H Q I ?_
  refine (tE_bind (hW σ) R rr hw).mono fun y H1 ⟨ι1, h1, q, l1, k1, R1, rr1, rv1, hw1⟩ => ?_
  rw [hgd] at hw1
  cases q with
  | str z =>
    have e := gd_ns KD E z
    dsimp only at hw1
    cases hz : kvs.lookup z with
    | some q =>
      rw [hz] at e hw1
      obtain ⟨u, v, e1, rv, rp⟩ := e
      exact ⟨d, z, v, rfl, rv1, ⟨es, n, u, KD.at_, KD.lit, e1, rv⟩, hw1.val R1 (rp _ _)⟩
    | none =>
      rw [hz] at hw1
      exact hw1.elim
  | _ => exact False.elim hw1
end
end VI
set_option autoImplicit false
set_option linter.all false
set_option Elab.async false
set_option maxRecDepth 100000
set_option maxHeartbeats 2000000
/-! == of dicts whose keys are objects, told by the library's heap kinds. -/
namespace VI
open PySem PySem.Spec PyProof.Rows L2
section
variable {prog : Program} {w : World} {KT : Type} [DecidableEq KT] {kn : HeapKind prog w KT} {A : Around} {E : Value → Shared → Prop} {s : Shared}
/-- entry by entry, what == answers -/
def HitsH (prog : Program) (w : World) {KT : Type} [DecidableEq KT] (A : Around) (s : Shared) (ys : List (KT × Addr × Value)) : List (KT × Addr × Value) → Bool → Prop
  | [], b => b = true
  | x :: r, b => (match atKey ys x.1 with
    | none => b = false
    | some p => ∃ e c, SeqAt.EqIn prog w A s x.2.2 p.2 e ∧ HitsH prog w A s ys r c ∧ b = (e && c))
theorem pairsH_same {nm : String} {a b : Addr} {xs ys : List (KT × Addr × Value)} {r : Bool} {Q : Bool → Shared → Prop} (hu : kn.room A) (ha : (a == sysModules) = false) (hb : (b == sysModules) = false)
    (da : s.heap.DictOfH kn a xs) (db : s.heap.DictOfH kn b ys) (hits : xs.length = ys.length → HitsH prog w A s ys xs r) (hq : Q (xs.length == ys.length && r) s) :
    wpAny (model prog w) A (Builtin.Dict.samePairs nm a b) Q E s := by
  obtain ⟨o1, es, ep, g1, _, d1, e1, k1, n1⟩ := da
  obtain ⟨o2, fs, fp, g2, _, d2, e2, k2, n2⟩ := db
  have l1 : es.size = xs.length := size_of_entries e1
  have l2 : fs.size = ys.length := size_of_entries e2
  unfold Builtin.Dict.samePairs Builtin.Dict.showsAll
  rw [if_neg (by rw [ha]; decide : ¬ (a == sysModules) = true), if_neg (by rw [hb]; decide : ¬ (b == sysModules) = true)]
  refine wpAny_bind (wpAny_pure (wpAny_bind (wpAny_pure (wpAny_bind (wpAny_dictEntries g1 d1 ?_)))))
  dsimp only
  refine wpAny_bind (wpAny_dictEntries g2 d2 ?_)
  by_cases hs : es.size = fs.size
  · have hlen : xs.length = ys.length := by omega
    have hr : Q r s := by
      have : (xs.length == ys.length) = true := by simp [hlen]
      rw [this, Bool.true_and] at hq
      exact hq
    have hh := hits hlen
    rw [if_neg (by rw [hs]; simp)]
    refine wpAny_bind (wpAny_dictEpoch g1 d1 (wpAny_bind ?_))
    rw [Std.Legacy.Range.forIn_eq_forIn_range']
    simp only [Std.Legacy.Range.size, Nat.sub_zero, Nat.add_sub_cancel, Nat.div_one]
    refine wpAny_forIn_list _ (fun rest q s' => s' = s ∧ q = (none, ()) ∧ ∃ i, rest = List.range' i (es.size - i) ∧ i ≤ es.size ∧ HitsH prog w A s ys (xs.drop i) r) _ ?_ ?_ _ _ ⟨rfl, rfl, 0, by simp, Nat.zero_le _, by simpa using hh⟩
    · intro x rest q s' z
      obtain ⟨rfl, rfl, i, hx, hi, hd⟩ := z
      have hi2 : i < es.size := by
        by_cases c : i < es.size
        · exact c
        · have : es.size - i = 0 := by omega
          rw [this] at hx
          simp at hx
      have hx2 : x = i ∧ rest = List.range' (i + 1) (es.size - (i + 1)) := by
        have : es.size - i = (es.size - (i + 1)) + 1 := by omega
        rw [this, List.range'_succ] at hx
        exact ⟨(List.cons.inj hx).1, (List.cons.inj hx).2⟩
      obtain ⟨rfl, hrest⟩ := hx2
      have hi3 : x < xs.length := by omega
      have ex : es[x]? = some (entryOfKey kn xs[x]) := by rw [entry_at e1, List.getElem?_eq_getElem hi3]; rfl
      rw [List.drop_eq_getElem_cons hi3] at hd
      refine wpAny_bind (wpAny_dictEntries g1 d1 ?_)
      rw [ex]
      have kx := k1 _ (List.getElem_mem hi3)
      show wpAny _ _ (holding [(entryOfKey kn xs[x]).key, (entryOfKey kn xs[x]).val] _ >>= _) _ _ _
      refine wpAny_bind (wpAny_holding (wpAny_bind ?_))
      refine wpAny_dictFind_heap hu kx g2 d2 e2 k2 n2 (fun no => ?_) (fun j p hj => ?_)
      · have hn := atKey_none_of_get no
        simp only [HitsH, hn] at hd
        subst hd
        refine wpAny_pure ?_
        show wpAny _ _ (if (!false) = true then _ else _) _ _ _
        rw [if_pos (by decide)]
        exact wpAny_pure (wpAny_pure hr)
      · have hn := atKey_of_get n2 hj
        simp only [HitsH, hn] at hd
        obtain ⟨e, c, he, hc, rfl⟩ := hd
        refine wpAny_bind (wpAny_dictEntries g2 d2 ?_)
        have ey : fs[j]? = some (entryOfKey kn (xs[x].1, p)) := by rw [entry_at e2, hj]; rfl
        rw [ey]
        refine wpAny_holding (he _ _ ?_)
        cases e with
        | false =>
          show wpAny _ _ (if (!false) = true then _ else _) _ _ _
          rw [if_pos (by decide)]
          exact wpAny_pure (wpAny_pure hr)
        | true =>
          show wpAny _ _ (if (!true) = true then _ else _) _ _ _
          rw [if_neg (by decide)]
          refine wpAny_bind (wpAny_dictEpoch g1 d1 ?_)
          rw [if_neg (by simp)]
          refine wpAny_pure ⟨rfl, rfl, x + 1, hrest, hi2, ?_⟩
          rw [Bool.true_and]
          exact hc
    · intro q s' z
      obtain ⟨rfl, rfl, i, hx, hi, hd⟩ := z
      have hi2 : i = es.size := by
        by_cases c : i < es.size
        · have : es.size - i = (es.size - (i + 1)) + 1 := by omega
          rw [this, List.range'_succ] at hx
          cases hx
        · omega
      rw [hi2, l1, List.drop_length] at hd
      have hd : r = true := hd
      subst hd
      exact wpAny_pure hr
  · have hz : (es.size != fs.size) = true := by simpa using hs
    rw [if_pos hz]
    have hlen : (xs.length == ys.length) = false := by
      rw [beq_eq_false_iff_ne]
      omega
    rw [hlen, Bool.false_and] at hq
    exact wpAny_bind (wpAny_rule (wpAny_pure hq))
theorem rc_dictsH {a b : Addr} {xs ys : List (KT × Addr × Value)} {r : Bool} {Q : Value → Shared → Prop} (hu : A.units < cLine) (hr : kn.room A.in1) (ha : (a == sysModules) = false) (hb : (b == sysModules) = false)
    (da : s.heap.DictOfH kn a xs) (db : s.heap.DictOfH kn b ys) (hits : xs.length = ys.length → HitsH prog w A.in1 s ys xs r) (hq : Q (.bool (xs.length == ys.length && r)) s) : wpAny (model prog w) A (richCompare .Eq (.ref a) (.ref b)) Q E s := by
  refine wpAny_richCompare_same_room (op := .Eq) da.typeIs db.typeIs PySem.F.slot_dict_eq (wpAny_call_entry PySem.F.slot_dict_eq da.typeIs PySem.F.entry_dict_eq ?_ (PySem.F.args_dict_eq_2 _ _)) hu
  unfold Builtin.«dict.__eq__»
  show wpAny _ _ (Builtin.Dict.dictSlotArgs "__eq__" ⟨[.ref a, .ref b], []⟩ >>= _) _ _ s
  refine wpAny_bind ?_
  unfold Builtin.Dict.dictSlotArgs
  refine wpAny_bind (wpAny_notOrdered_dict da.typeIs ?_)
  show wpAny _ _ (pure (Value.ref a, Value.ref b)) _ _ s
  refine wpAny_pure (wpAny_bind (wpAny_isInstance (T := "dict") db.typeIs PySem.F.sub_dict_dict ?_))
  simp only [Bool.not_true, Bool.false_eq_true, if_false]
  refine wpAny_bind (wpAny_pure (wpAny_bind (wpAny_pure (wpAny_bind (pairsH_same hr ha hb da db hits (wpAny_pure ⟨_, rfl, ?_, ?_⟩))))))
  · exact fun x => nomatch x
  · simpa using hq
end
end VI
set_option autoImplicit false
set_option linter.all false
set_option Elab.async false
set_option maxRecDepth 100000
set_option maxHeartbeats 2000000
/-! == of what holds dicts: what it answers. -/
namespace VI
open PySem PySem.Spec PyProof.Rows L2
section
variable {K : PySem.W.Frag} {ι : List Addr} {H : Hp}
theorem flat_leaf {h : VH} {p : PV} {x : V} {v : Value} {d : PD} (fl : flat p = true) (e : toD 1 h p = some d) (r : RV K ι H p x) (rv : RelV x v) : PyProof.V.Flat v (conv d) := by
  cases p with
  | non => cases e; cases r; cases rv; exact PyProof.V.Flat.none
  | bl b => cases e; cases r; cases rv; exact PyProof.V.Flat.bool b
  | int i => cases e; cases r; obtain ⟨t, rfl⟩ := (rv : ∃ t, v = Value.int i t); exact PyProof.V.Flat.int i t
  | str s =>
    simp only [toD] at e
    split at e
    · cases e; cases r; obtain ⟨t, rfl⟩ := (rv : ∃ t, v = Value.str s t); exact PyProof.V.Flat.str s t
    · cases e
  | _ => cases fl
theorem allP_spec {f : PV → PV → Option Bool} : ∀ {xs ys : List PV} {b : Bool}, allP f xs ys = some b → ∃ e : Nat → Bool, (∀ j x y, xs[j]? = some x → ys[j]? = some y → f x y = some (e j)) ∧ b = (List.range (min xs.length ys.length)).all e
  | [], ys, b, h => by
    cases h
    exact ⟨fun _ => true, fun j x y h1 _ => by simp at h1, by simp⟩
  | x :: xs, [], b, h => by
    cases h
    exact ⟨fun _ => true, fun j x y _ h2 => by simp at h2, by simp⟩
  | x :: xs, y :: ys, b, h => by
    unfold allP at h
    cases h1 : f x y with
    | none => rw [h1] at h; cases h
    | some b0 =>
      cases h2 : allP f xs ys with
      | none => rw [h1, h2] at h; cases h
      | some c =>
        rw [h1, h2] at h
        cases h
        obtain ⟨e, p, q⟩ := allP_spec h2
        refine ⟨fun j => match j with | 0 => b0 | j + 1 => e j, fun j x' y' g1 g2 => ?_, ?_⟩
        · cases j with
          | zero =>
            simp only [List.getElem?_cons_zero, Option.some.injEq] at g1 g2
            subst g1
            subst g2
            exact h1
          | succ j => exact p j x' y' (by simpa using g1) (by simpa using g2)
        · have : min (x :: xs).length (y :: ys).length = min xs.length ys.length + 1 := by simp only [List.length_cons]; omega
          rw [this, List.range_succ_eq_map, List.all_cons, List.all_map, q]
          rfl
end
section
variable {X : Cx} {pins : List (Addr × Obj)} {σ : L2.St} {H : Hp} {s : Shared} {cls : Nat → Addr} {ι : List Addr} {h : VH}
theorem allP_same {f : PV → PV → Option Bool} (hf : ∀ p q x b, RV X.K ι H p x → RV X.K ι H q x → f p q = some b → b = true) : ∀ {xs ys : List PV} {vs : List V} {b : Bool}, RVs X.K ι H xs vs → RVs X.K ι H ys vs → allP f xs ys = some b → b = true ∧ xs.length = ys.length
  | [], [], vs, b, _, _, e => by cases e; exact ⟨rfl, rfl⟩
  | [], y :: ys, vs, b, r1, r2, e => by
    have a := r1.length
    have c := r2.length
    rw [a] at c
    simp at c
  | x :: xs, [], vs, b, r1, r2, e => by
    have a := r1.length
    have c := r2.length
    rw [a] at c
    simp at c
  | x :: xs, y :: ys, vs, b, ⟨v, r, e1, a1, b1⟩, ⟨v', r', e2, a2, b2⟩, e => by
    rw [e1] at e2
    cases e2
    unfold allP at e
    cases h1 : f x y with
    | none => rw [h1] at e; cases e
    | some b0 =>
      cases h2 : allP f xs ys with
      | none => rw [h1, h2] at e; cases e
      | some c =>
        rw [h1, h2] at e
        cases e
        obtain ⟨q, l⟩ := allP_same hf b1 b2 h2
        rw [hf x y v b0 a1 a2 h1, q]
        exact ⟨rfl, by simp [l]⟩
theorem eqP_same (I : Inv X pins σ H s) (R : Rx X cls ι h H) : ∀ (n : Nat) (p q : PV) (x : V) (b : Bool), RV X.K ι H p x → RV X.K ι H q x → eqP n h p q = some b → b = true
  | 0, p, q, x, b, r1, r2, e => by cases e
  | n + 1, p, q, x, b, r1, r2, e => by
    unfold eqP at e
    split at e
    · rename_i xs ys
      unfold eq1 at e
      obtain ⟨a, vs, rfl, sq, rs⟩ := r1
      obtain ⟨a', vs', e', sq', rs'⟩ := r2
      cases e'
      have := I.tuple_inj sq sq'
      subst this
      dsimp only at e
      split at e
      · rename_i c hc
        obtain ⟨q1, q2⟩ := allP_same (fun p q x b => eqP_same I R n p q x b) rs rs' hc
        cases e
        rw [q1, q2]
        simp
      · cases e
    · rename_i m m'
      split at e
      · cases e; rfl
      · rename_i hne
        unfold eq1 at e
        dsimp only at e
        obtain ⟨a, e1, rfl⟩ := r1
        obtain ⟨a', e2, e3⟩ := r2
        cases e3
        rcases R.nd m m' a e1 e2 with z | ⟨zs, us, z, _⟩ | ⟨zs, us, z, _⟩
        · subst z
          exact absurd (Nat.beq_refl m) (by simpa using hne)
        · rw [z] at e
          cases e
        · rw [z] at e
          split at e
          · rename_i g; cases g
          · rename_i g; cases g
          · cases e
    · split at e
      · rename_i fl
        have same : p = q := by
          have g := Bool.and_eq_true_iff.mp fl
          cases p <;> first | (cases g.1; done) | (cases q <;> first | (cases g.2; done) | (cases r1; cases r2; rfl) | (cases r1; cases r2))
        subst same
        split at e
        · rename_i d d' e1 e2
          rw [e1] at e2
          cases e2
          cases e
          cases p with
          | non => cases e1; rfl
          | bl b => cases e1; simp [deq]
          | int b => cases e1; simp [deq]
          | str b =>
            simp only [toD] at e1
            split at e1
            · cases e1; simp [deq]
            · cases e1
          | _ => cases fl
        · cases e
      · cases e
theorem tup_is {hp : Heap} {a : Addr} {its : Array Value} (x : IsTup hp a its) : hp.IsTuple a its := by
  obtain ⟨⟨c, dd, d, sl⟩, e, rfl, n, rfl⟩ := x
  exact ⟨_, e, rfl, n, rfl⟩
theorem plain_is {hp : Heap} {a : Addr} {its : Array Value} (x : PlainL hp a its) : hp.IsList a its := by
  obtain ⟨o, n, e, hc, _, hd⟩ := x
  exact ⟨o, e, hc, n, hd⟩
/-- == within a builtin; by the rich comparison -/
abbrev EqN (X : Cx) (s : Shared) (n : Nat) (v u : Value) (b : Bool) : Prop := ∀ A : Around, A.units + n + 10 < cLine → SeqAt.EqIn X.prog X.w A s v u b
abbrev RcN (X : Cx) (s : Shared) (n : Nat) (v u : Value) (b : Bool) : Prop := ∀ A : Around, A.units + n + 10 < cLine → ∀ (E : Value → Shared → Prop) (Q : Value → Shared → Prop), Q (.bool b) s → wpAny (model X.prog X.w) A (richCompare .Eq v u) Q E s
abbrev Below (X : Cx) (s : Shared) (ι : List Addr) (H : Hp) (n : Nat) (f : PV → PV → Option Bool) : Prop := ∀ p q b x y v u, f p q = some b → RV X.K ι H p x → RV X.K ι H q y → RelV x v → RelV y u → EqN X s n v u b
theorem hits_n {f : PV → PV → Option Bool} {n : Nat} (B : Below X s ι H n f) {ls : List (PV × PV)} {ys : List (NestedKey × Addr × Value)} (r2 : RN X.K ι H ls ys) {A : Around} (hu : A.units + n + 10 < cLine) :
    ∀ {ks : List (PV × PV)} {xs : List (NestedKey × Addr × Value)} {b : Bool}, RN X.K ι H ks xs → allD f ls ks = some b → HitsH X.prog X.w A s ys xs b
  | [], xs, b, r, e => by
    cases (show xs = [] from r)
    cases e
    rfl
  | q :: ks, xs, b, r, e => by
    obtain ⟨a, v, u, r', rfl, k1, k2, k3, rk, rv, ru, rr⟩ := r
    unfold allD at e
    have lk := rn_look k1 r2
    cases h1 : look q.1 ls with
    | none =>
      cases h2 : allD f ls ks with
      | none => rw [h1, h2] at e; cases e
      | some c =>
        rw [h1, h2] at e
        cases e
        unfold HitsH
        rw [lk.2 h1]
    | some w =>
      cases h2 : allD f ls ks with
      | none => rw [h1, h2] at e; cases e
      | some c =>
        rw [h1, h2] at e
        dsimp only at e
        cases h3 : f q.2 w with
        | none => rw [h3] at e; cases e
        | some b0 =>
          rw [h3] at e
          cases e
          obtain ⟨p, x, g1, g2, g3⟩ := lk.1 w h1
          unfold HitsH
          rw [g1]
          exact ⟨b0, c, B _ _ _ _ _ _ _ h3 rv g2 ru g3 A hu, hits_n B r2 hu rr h2, rfl⟩
theorem hits_l {f : PV → PV → Option Bool} {n : Nat} (B : Below X s ι H n f) {ls : List (PV × PV)} {ys : List (Leaf × Value)} (r2 : RL X.K ι H ls ys) {A : Around} (hu : A.units + n + 10 < cLine) :
    ∀ {ks : List (PV × PV)} {xs : List (Leaf × Value)} {b : Bool}, RL X.K ι H ks xs → allD f ls ks = some b → PySem.W.KeqHitsIn X.prog X.w A s ys xs b
  | [], xs, b, r, e => by
    cases (show xs = [] from r)
    cases e
    exact .nil
  | q :: ks, xs, b, r, e => by
    obtain ⟨v, u, r', rfl, k1, k2, rv, ru, rr⟩ := r
    unfold allD at e
    have lk := rl_look k1 k2 r2
    cases h1 : look q.1 ls with
    | none =>
      cases h2 : allD f ls ks with
      | none => rw [h1, h2] at e; cases e
      | some c =>
        rw [h1, h2] at e
        cases e
        exact .miss (lk.2 h1)
    | some w =>
      cases h2 : allD f ls ks with
      | none => rw [h1, h2] at e; cases e
      | some c =>
        rw [h1, h2] at e
        dsimp only at e
        cases h3 : f q.2 w with
        | none => rw [h3] at e; cases e
        | some b0 =>
          rw [h3] at e
          cases e
          obtain ⟨p, x, g1, g2, g3⟩ := lk.1 w h1
          exact .hit g1 (B _ _ _ _ _ _ _ h3 rv g2 ru g3 A hu) (hits_l B r2 hu rr h2)
theorem item_n {f : PV → PV → Option Bool} {n : Nat} (B : Below X s ι H n f) {xs ys : List PV} {vs ws : List V} {its its' : List Value} {e : Nat → Bool} (g1 : ∀ j x y, xs[j]? = some x → ys[j]? = some y → f x y = some (e j)) (rs : RVs X.K ι H xs vs) (rs' : RVs X.K ι H ys ws) (k1 : Vals vs its) (k2 : Vals ws its')
    (j : Nat) (h1 : j < its.toArray.size) (h2 : j < its'.toArray.size) : EqN X s n its.toArray[j] its'.toArray[j] (e j) := by
  have l1 : its.toArray.size = xs.length := by rw [List.size_toArray, ← k1.length, rs.length]
  have l2 : its'.toArray.size = ys.length := by rw [List.size_toArray, ← k2.length, rs'.length]
  obtain ⟨p', hp⟩ : ∃ p', xs[j]? = some p' := ⟨xs[j]'(by omega), List.getElem?_eq_getElem (by omega)⟩
  obtain ⟨q', hq⟩ : ∃ q', ys[j]? = some q' := ⟨ys[j]'(by omega), List.getElem?_eq_getElem (by omega)⟩
  obtain ⟨x', hx, rx⟩ := rs.get hp
  obtain ⟨y', hy, ry⟩ := rs'.get hq
  obtain ⟨v', hv, rv⟩ := k1.get hx
  obtain ⟨u', hu, ru⟩ := k2.get hy
  have a1 : its.toArray[j] = v' := by
    have := (List.getElem?_eq_some_iff.mp hv).2
    simpa using this
  have a2 : its'.toArray[j] = u' := by
    have := (List.getElem?_eq_some_iff.mp hu).2
    simpa using this
  rw [a1, a2]
  exact B p' q' (e j) x' y' v' u' (g1 j p' q' hp hq) rx ry rv ru
theorem in1_units (A : Around) : A.in1.units = A.units + 1 := rfl
theorem rc1 (I : Inv X pins σ H s) (R : Rx X cls ι h H) {f : PV → PV → Option Bool} {n : Nat} (B : Below X s ι H n f) {p q : PV} {b : Bool} {x y : V} {v u : Value} (e : eq1 f h p q = some b) (r1 : RV X.K ι H p x) (r2 : RV X.K ι H q y) (ev : RelV x v) (eu : RelV y u) : RcN X s (n + 1) v u b := by
  unfold eq1 at e
  split at e
  · rename_i xs ys
    obtain ⟨a, vs, rfl, sq, rs⟩ := r1
    obtain ⟨a', vs', rfl, sq', rs'⟩ := r2
    obtain rfl : v = Value.ref a := ev
    obtain rfl : u = Value.ref a' := eu
    obtain ⟨its, k1, t1, _⟩ := I.tuple sq
    obtain ⟨its', k2, t2, _⟩ := I.tuple sq'
    split at e
    · rename_i c hc
      cases e
      obtain ⟨g, g1, g2⟩ := allP_spec hc
      intro A hu E Q hq
      have l1 : its.toArray.size = xs.length := by rw [List.size_toArray, ← k1.length, rs.length]
      have l2 : its'.toArray.size = ys.length := by rw [List.size_toArray, ← k2.length, rs'.length]
      refine SeqAt.rcIn_tuples (e := g) (tup_is t1) (tup_is t2) (by omega) (fun j h1 h2 => item_n B g1 rs rs' k1 k2 j h1 h2 A.in1 (by rw [in1_units]; omega)) ?_
      rw [l1, l2, ← g2]
      have z : (xs.length == ys.length) = Nat.beq xs.length ys.length := by
        rw [Bool.eq_iff_iff]
        simp
      rw [z]
      exact hq
    · cases e
  · rename_i m m'
    split at e
    · rename_i xs ys e1 e2
      obtain ⟨a, ea, rfl, ra⟩ := R.at e1 r1
      obtain ⟨a', ea', rfl, ra'⟩ := R.at e2 r2
      obtain rfl : v = Value.ref a := ev
      obtain rfl : u = Value.ref a' := eu
      obtain ⟨vs, sq, rs⟩ := ra.list
      obtain ⟨vs', sq', rs'⟩ := ra'.list
      obtain ⟨its, k1, t1, _⟩ := I.list sq
      obtain ⟨its', k2, t2, _⟩ := I.list sq'
      have l1 : its.toArray.size = xs.length := by rw [List.size_toArray, ← k1.length, rs.length]
      have l2 : its'.toArray.size = ys.length := by rw [List.size_toArray, ← k2.length, rs'.length]
      split at e
      · rename_i hz
        have hz := Nat.eq_of_beq_eq_true hz
        obtain ⟨g, g1, g2⟩ := allP_spec e
        intro A hu E Q hq
        refine SeqAt.rcIn_lists (e := g) (plain_is t1) (plain_is t2) (by omega) (by omega) (fun j h1 h2 => item_n B g1 rs rs' k1 k2 j h1 h2 A.in1 (by rw [in1_units]; omega)) ?_
        rw [l1]
        rw [g2] at hq
        have : min xs.length ys.length = xs.length := by omega
        rw [this] at hq
        exact hq
      · rename_i hz
        cases e
        intro A hu E Q hq
        have hz : xs.length ≠ ys.length := fun c => hz (by rw [c]; exact Nat.beq_refl _)
        exact (SeqAt.RcAt.lists_lengths (plain_is t1) (plain_is t2) (by rw [l1, l2]; simpa using hz) (by omega)) X.prog X.w E Q hq
    · rename_i ks ls e1 e2
      obtain ⟨a, ea, rfl, o, ho, rd⟩ := R.at e1 r1
      obtain ⟨a', ea', rfl, o', ho', rd'⟩ := R.at e2 r2
      obtain rfl : v = Value.ref a := ev
      obtain rfl : u = Value.ref a' := eu
      have q1 : s.heap.get? a = some o := (I.hok a _ ho).1
      have q2 : s.heap.get? a' = some o' := (I.hok a' _ ho').1
      split at e
      · rename_i hf
        rw [Bool.and_eq_true] at hf
        split at e
        · rename_i c hc
          cases e
          intro A hu E Q hq
          have z : Nat.beq ks.length ls.length = (ks.length == ls.length) := by
            rw [Bool.eq_iff_iff]
            simp
          rw [z] at hq
          cases ht : PV.isTup (headK ks ls) with
          | true =>
            obtain ⟨xs, n1⟩ := rd_tup rd q1 hf.1 ht
            obtain ⟨ys, n2⟩ := rd_tup rd' q2 hf.2 ht
            have d1 := n1.of I q1
            have d2 := n2.of I q2
            have le1 : ks.length = xs.length := (rn_len n1.rn).symm
            have le2 : ls.length = ys.length := (rn_len n2.rn).symm
            rw [le1, le2] at hq
            exact rc_dictsH (kn := nestedKind X.prog X.w) (by omega) (show A.in1.units + 8 < cLine by rw [in1_units]; omega) rd.2.1 rd'.2.1 d1 d2 (fun _ => hits_n B n2.rn (A := A.in1) (by rw [in1_units]; omega) n1.rn hc) hq
          | false =>
            obtain ⟨xs, n1, d1⟩ := rd_leaf rd hf.1 ht
            obtain ⟨ys, n2, d2⟩ := rd_leaf rd' hf.2 ht
            have le1 : ks.length = xs.length := (rl_len n1).symm
            have le2 : ls.length = ys.length := (rl_len n2).symm
            rw [le1, le2] at hq
            exact PySem.W.keq_eqIn (knd := pKind X.prog X.w) rd.2.1 rd'.2.1 (d1 _ q1) (d2 _ q2) (by omega) (fun _ => hits_l B n2 (A := A.in1) (by rw [in1_units]; omega) n1 hc) hq
        · cases e
      · cases e
    · cases e
  · cases e
theorem eqP_n (I : Inv X pins σ H s) (R : Rx X cls ι h H) : ∀ (n : Nat), Below X s ι H n (fun a b => eqP n h a b)
  | 0 => fun p q b x y v u e => by cases e
  | n + 1 => fun p q b x y v u e r1 r2 ev eu => by
    have B := eqP_n I R n
    have e0 := e
    dsimp only at e
    unfold eqP at e
    split at e
    · rename_i xs ys
      have rc := rc1 I R B e r1 r2 ev eu
      obtain ⟨a, vs, rfl, _⟩ := id r1
      obtain ⟨a', vs', rfl, _⟩ := id r2
      obtain rfl : v = Value.ref a := ev
      obtain rfl : u = Value.ref a' := eu
      intro A hu
      by_cases hne : a = a'
      · subst hne
        rw [eqP_same I R (n + 1) _ _ _ b r1 r2 e0]
        exact (SeqAt.EqAt.same _).inModel X.prog X.w
      · exact SeqAt.EqIn.of_refs hne fun E Q hq => rc A hu E Q hq
    · rename_i m m'
      split at e
      · rename_i hz
        have := Nat.eq_of_beq_eq_true hz
        subst this
        cases e
        obtain ⟨a, e1, rfl⟩ := r1
        obtain ⟨a', e2, rfl⟩ := r2
        rw [e1] at e2
        cases e2
        obtain rfl : v = Value.ref a := ev
        obtain rfl : u = Value.ref a := eu
        exact fun A hu => (SeqAt.EqAt.same _).inModel X.prog X.w
      · have rc := rc1 I R B e r1 r2 ev eu
        obtain ⟨a, e1, rfl⟩ := id r1
        obtain ⟨a', e2, rfl⟩ := id r2
        obtain rfl : v = Value.ref a := ev
        obtain rfl : u = Value.ref a' := eu
        intro A hu
        by_cases hne : a = a'
        · subst hne
          rw [eqP_same I R (n + 1) _ _ _ b r1 r2 e0]
          exact (SeqAt.EqAt.same _).inModel X.prog X.w
        · exact SeqAt.EqIn.of_refs hne fun E Q hq => rc A hu E Q hq
    · split at e
      · rename_i fl
        have g := Bool.and_eq_true_iff.mp fl
        split at e
        · rename_i d d' e1 e2
          cases e
          rw [← deq_conv]
          exact fun A _ => (PySem.W.keq_flat (flat_leaf g.1 e1 r1 ev) (flat_leaf g.2 e2 r2 eu)).inModel X.prog X.w
        · cases e
      · cases e
theorem v_eqPo (hu : X.A.units + 64 < cLine) : Op2B X cls (compareOp .Eq) eqPo := by
  intro W pins s σ H ι h p q x y v u Q I R rx ry ev eu hw
  have go : ∀ {p q : PV}, RV X.K ι H p x → RV X.K ι H q y → Wx X cls (REq Bool) W (match eq1 (fun a b => eqP 49 h a b) h p q with
      | some b => .ok b h
      | none => vCmp .eq h p q) ι H Q → wpAny (model X.prog X.w) X.A (compareOp .Eq v u) (EP X pins σ (fun z H' => ∃ b, z = .bl b ∧ Q b H')) X.xe s := by
    intro p q rx ry hw
    cases e : eq1 (fun a b => eqP 49 h a b) h p q with
    | some b =>
      rw [e] at hw
      show wpAny (model X.prog X.w) X.A (richCompare .Eq v u) _ X.xe s
      exact rc1 I R (eqP_n I R 49) e rx ry ev eu X.A (by omega) _ _ ⟨.bl b, H, I, rfl, b, rfl, Wx.bl hw R⟩
    | none =>
      rw [e] at hw
      exact v_eq hu W pins s σ H ι h p q x y v u Q I R rx ry ev eu hw
  unfold eqPo at hw
  split at hw
  · exact go rx ry hw
  · exact go rx ry hw
  · exact v_eq hu W pins s σ H ι h p q x y v u Q I R rx ry ev eu hw
end
end VI
set_option autoImplicit false
set_option linter.all false
set_option Elab.async false
set_option maxRecDepth 100000
set_option maxHeartbeats 2000000
/-! VI over the hand layer: == and != by an own __eq__. -/
namespace VI
open PySem PySem.Spec PyProof.Rows L2
/-- how the classes with an own __eq__ stand to one another -/
structure EqF (K : PySem.W.Frag) (cls : Nat → Addr) (T : Tb) : Prop where
  nf : ∀ c c2 f g, T.meth c "__eq__" = some f → T.meth c2 "__eq__" = some g → PySem.W.notFirst K (cls c) (.ref (cls c2)) = true
  ne : ∀ c f, T.meth c "__eq__" = some f → PySem.W.findIn K (.ref (cls c)) "__ne__" = some (some (.builtin "object.__ne__")) ∧ PySem.W.mroIn K (cls c) (.type "object") = some true
section
variable {X : Cx} {cls : Nat → Addr} {T : Tb} {k : Nat} {ad : Nat → Addr} {W : XW} {pins : List (Addr × Obj)} {s : Shared} {σ : L2.St} {H : Hp} {ι : List Addr} {h : VH} {p q : PV} {x y : V} {v u : Value} {Q : Bool → Hp → Prop}
theorem own_parts (hw : Wx X cls (REq Bool) W (eqOwn T h p q) ι H Q) : ∃ n m c fs c2 gs f g, p = .ref n ∧ q = .ref m ∧ h[n]? = some (.ins c fs) ∧ h[m]? = some (.ins c2 gs) ∧ T.meth c "__eq__" = some f ∧ T.meth c2 "__eq__" = some g ∧
    Wx X cls (RV X.K) Wn (T.run f [.ref n, .ref m] h) ι H fun z H1 => ∃ b, z = .bl b ∧ Q b H1 := by
  unfold eqOwn at hw
  split at hw
  rotate_left
  · exact hw.elim
  rename_i n m
  split at hw
  rotate_left
  · exact hw.elim
  rename_i c fs c2 gs en em
  split at hw
  rotate_left
  · exact hw.elim
  rename_i f g ef eg
  refine ⟨n, m, c, fs, c2, gs, f, g, rfl, rfl, en, em, ef, eg, ?_⟩
  split at hw
  · rename_i r h1 er
    rw [er]
    exact fun ι' H' z l k0 R1 rz => by
      cases z with
      | bl b' =>
        have rz : V.bl b' = V.bl r := rz
        cases rz
        exact ⟨r, rfl, hw ι' H' _ l k0 R1 rfl⟩
      | _ => exact absurd rz (by simp [RV])
  · exact hw.elim
/-- what a comparison of two such comes to, by the call of __eq__ -/
abbrev EB (X : Cx) (pins : List (Addr × Obj)) (σ : L2.St) (Q : Bool → Hp → Prop) (v : Value) (s' : Shared) : Prop := ∃ b, v = .bool b ∧ ∃ H', Inv X pins σ H' s' ∧ Q b H'
theorem eb_of {z : Value} {s' : Shared} (hq : EP X pins σ (fun z H1 => ∃ b, z = .bl b ∧ Q b H1) z s') : EB X pins σ Q z s' := by
  obtain ⟨z, H', I', rz, b', ez, qz⟩ := hq
  subst ez
  cases rz
  exact ⟨b', rfl, H', I', qz⟩
theorem own_rc {A : Around} (MM : MI X.prog X.w X.K X.mg X.base cls T k ad) (EF : EqF X.K cls T) (hu : A.units < cLine) (I : Inv X pins σ H s) (R : Rx X cls ι h H) (rp : RV X.K ι H p x) (rq : RV X.K ι H q y) (ev : RelV x v) (eu : RelV y u)
    (go : ∀ {f : Nat} {us : List Value} {vs : List V} {ps : List PV} {Q' : VK}, FX X cls T k f (ad f) → RVs X.K ι H ps vs → Vals vs us → Wx X cls (RV X.K) Wn (T.run f ps h) ι H Q' → wpAny (model X.prog X.w) A (call (.ref (ad f)) us) (EP X pins σ Q') X.xe s)
    (hw : Wx X cls (REq Bool) W (eqOwn T h p q) ι H Q) : wpAny (model X.prog X.w) A (richCompare .Eq v u) (EB X pins σ Q) X.xe s := by
  obtain ⟨n, m, c, fs, c2, gs, f, g, rfl, rfl, en, em, ef, eg, hw'⟩ := own_parts hw
  obtain ⟨a, ea, rfl, dx, vs, hH, rf, cl⟩ := R.at en rp
  obtain ⟨b, eb, rfl, dy, ws, hH', rf', cl'⟩ := R.at em rq
  obtain rfl : v = Value.ref a := ev
  obtain rfl : u = Value.ref b := eu
  obtain ⟨m1, F⟩ := MM.meth c "__eq__" f ef
  obtain ⟨mA, J, _⟩ := ins_get I.hok hH
  obtain ⟨mB, J', _⟩ := ins_get I.hok hH'
  obtain ⟨od, J, _⟩ := J.look
  obtain ⟨od', J', _⟩ := J'.look
  obtain ⟨mf0, hF⟩ := I.fr
  refine PySem.W.cmp_K (op := .Eq) (tb := .ref (cls c2)) hu hF I.ok.mod.kin J J'.type (EF.nf c c2 f g ef eg) m1.at_ m1.fn ?_
  refine wpAny_mono (go F (ps := [.ref n, .ref m]) (vs := [.ref a, .ref b]) (us := [.ref a, .ref b]) ⟨.ref a, [.ref b], rfl, rp, .ref b, [], rfl, rq, rfl⟩ (.cons rfl (.cons rfl .nil)) hw') (fun r s' hq => ?_) fun _ _ e => e
  obtain ⟨b', rfl, q⟩ := eb_of hq
  exact ⟨b', rfl, q⟩
theorem op_eqo (MM : MI X.prog X.w X.K X.mg X.base cls T k ad) (EF : EqF X.K cls T) (hr : Room k X.A) : Op2B X cls (compareOp .Eq) (eqOwn T) := by
  intro W pins s σ H ι h p q x y v u Q I R rp rq ev eu hw
  show wpAny (model X.prog X.w) X.A (richCompare .Eq v u) _ X.xe s
  refine wpAny_mono (own_rc MM EF hr.units0 I R rp rq ev eu (fun F rv ev hw => fi_run F hr I R rv ev (fun _ _ _ _ _ z => z) hw) hw) (fun r s' hq => ?_) fun _ _ e => e
  obtain ⟨b, rfl, H', I', q⟩ := hq
  exact ⟨.bl b, H', I', rfl, b, rfl, q⟩
/-- x != y: the built-in object.__ne__ asks the own __eq__ -/
theorem op_neo (MM : MI X.prog X.w X.K X.mg X.base cls T k ad) (EF : EqF X.K cls T) (hr : Room (k + 1) X.A) : Op2B X cls (compareOp .NotEq) (fun h x y => match eqOwn T h x y with
    | .ok b h1 => .ok (!b) h1
    | _ => .no) := by
  intro W pins s σ H ι h p q x y v u Q I R rp rq ev eu hw
  have hw0 : Wx X cls (REq Bool) Wn (eqOwn T h p q) ι H fun b H1 => Q (!b) H1 := by
    dsimp only at hw
    cases e : eqOwn T h p q with
    | ok b h1 =>
      rw [e] at hw
      exact fun ι' H' b' l k0 R1 rb => by
        cases (show b = b' from rb)
        exact hw ι' H' _ l k0 R1 rfl
    | ex c p h1 => rw [e] at hw; exact hw.elim
    | no => rw [e] at hw; exact hw.elim
  obtain ⟨n, m, c, fs, c2, gs, f, g, rfl, rfl, en, em, ef, eg, hw'⟩ := own_parts hw0
  obtain ⟨a, ea, rfl, dx, vs, hH, rf, cl⟩ := R.at en rp
  obtain ⟨b, eb, rfl, dy, ws, hH', rf', cl'⟩ := R.at em rq
  obtain rfl : v = Value.ref a := ev
  obtain rfl : u = Value.ref b := eu
  obtain ⟨m1, F⟩ := MM.meth c "__eq__" f ef
  obtain ⟨n1, n2⟩ := EF.ne c f ef
  obtain ⟨mA, J, _⟩ := ins_get I.hok hH
  obtain ⟨mB, J', _⟩ := ins_get I.hok hH'
  obtain ⟨od, J, _⟩ := J.look
  obtain ⟨od', J', _⟩ := J'.look
  obtain ⟨mf0, hF⟩ := I.fr
  have KI := I.kIn
  have hu0 : X.A.units < cLine := hr.units0
  have hu1 : X.A.in1.units < cLine := hr.in1.units0
  have call : wpAny (model X.prog X.w) X.A.in1 (call (.ref (ad f)) [.ref a, .ref b]) (EB X pins σ fun b H1 => Q (!b) H1) X.xe s :=
    wpAny_mono (fi_run1 F hr (ps := [.ref n, .ref m]) (vs := [.ref a, .ref b]) (us := [.ref a, .ref b]) I R ⟨.ref a, [.ref b], rfl, rp, .ref b, [], rfl, rq, rfl⟩ (.cons rfl (.cons rfl .nil)) (fun _ _ _ _ _ z => z) hw') (fun _ _ hq => eb_of hq) fun _ _ e => e
  have enter : wpAny (model X.prog X.w) X.A.in1 (Builtin.«object.__ne__» ⟨[.ref a, .ref b], []⟩) (fun fin s' => ∃ b, fin = .done (.ret (.bool b)) ∧ ∃ H', Inv X pins σ H' s' ∧ Q b H') X.xe s := by
    unfold Builtin.«object.__ne__»
    refine wpAny_bind (wpAny_pure ?_)
    refine wpAny_bind (wpAny_cRoomFor hu1 ?_)
    refine wpAny_bind (PySem.W.ifBound_K KI J m1.at_ m1.fn (wpAny_mono call (fun r s' hq => ?_) fun _ _ e => e))
    obtain ⟨b', rfl, H', I', q⟩ := hq
    exact wpAny_bind (wpAny_truthy_bool (wpAny_pure ⟨!b', rfl, H', I', q⟩))
  have chk : ∀ (Q1 : Unit → Shared → Prop) (E1 : Value → Shared → Prop), Q1 () s → wpAny (model X.prog X.w) X.A.in1 (checkBuiltinCall "object.__ne__" ⟨[.ref a, .ref b], []⟩) Q1 E1 s := by
    intro Q1 E1 hq
    have T0 : PySem.W.Looks (model X.prog X.w) s.heap (isInstance (.ref a) (.type "object")) true := J.type.andThen (PySem.W.looks_mroIn KI n2)
    have ha := PySem.F.cmpArgs_ne (.ref a) (.ref b)
    simp only [checkBuiltinCall, PySem.F.cmpKind_ne, PySem.F.cmpSplit_ne]
    refine wpAny_bind (T0.here ?_)
    simp only [Bool.not_true, Bool.false_eq_true, if_false]
    cases hsig : Manifest.signature? "object.__ne__" with
    | none => exact wpAny_pure hq
    | some sig =>
      simp only [argsOk, hsig] at ha
      show wpAny _ _ (Bind.checkArgs "object.__ne__" sig ⟨[.ref a, .ref b], []⟩) Q1 _ _
      rw [show Bind.checkArgs "object.__ne__" sig ⟨[.ref a, .ref b], []⟩ = pure () from ha]
      exact wpAny_pure hq
  have one : wpAny (model X.prog X.w) X.A (tryCompare (.ref a) "__ne__" (.ref b)) (fun r s' => ∃ b, r = some (.bool b) ∧ ∃ H', Inv X pins σ H' s' ∧ Q b H') X.xe s := by
    unfold tryCompare
    refine wpAny_bind ?_
    simp only [callSpecialIfBound?, bindSpecialIfBound?]
    refine wpAny_holding (wpAny_bind (wpAny_bind (wpAny_bind (J.type.here ((PySem.W.looks_findIn KI n1).here ?_)))))
    simp only [PySem.F.cmp_object.ne.bind]
    refine wpAny_bind (wpAny_askSetting (wpAny_ite ?_))
    have fin : wpAny (model X.prog X.w) X.A (PySem.call (.builtin "object.__ne__") ([.ref a] ++ [.ref b]) >>= fun v => pure (some v)) (fun r s' => wpAny (model X.prog X.w) X.A (match r with
        | some .notImplemented | none => pure none
        | some v => pure (some v)) (fun r s' => ∃ b, r = some (.bool b) ∧ ∃ H', Inv X pins σ H' s' ∧ Q b H') X.xe s') X.xe s := by
      refine wpAny_bind (wpAny_call (codeAny_call_builtin PySem.F.cmp_object.ne.plain PySem.F.cmpEntry_ne (chk _ _ (wpAny_mono enter (fun fin s' hq => ?_) fun _ _ e => e))))
      obtain ⟨b', rfl, hq⟩ := hq
      exact wpAny_pure (wpAny_pure ⟨b', rfl, hq⟩)
    split
    · exact wpAny_bind (wpAny_pure (wpAny_pure fin))
    · exact wpAny_tryCatch (wpAny_bind (wpAny_pure (wpAny_pure fin)))
  show wpAny (model X.prog X.w) X.A (richCompare .NotEq (.ref a) (.ref b)) _ X.xe s
  have done : ∀ {r : Option Value} {s' : Shared}, (∃ b, r = some (.bool b) ∧ ∃ H', Inv X pins σ H' s' ∧ Q b H') → ∃ v, r = some v ∧ EP X pins σ (fun z H' => ∃ b, z = .bl b ∧ Q b H') v s' := by
    rintro r s' ⟨b', rfl, H', I', q⟩
    exact ⟨_, rfl, .bl b', H', I', rfl, b', rfl, q⟩
  unfold richCompare
  simp only [oneThing_ref]
  refine wpAny_holding (wpAny_bind (wpAny_cRoomFor hu0 ?_))
  refine wpAny_bind (J.type.here (wpAny_bind (J'.type.here ?_)))
  split
  · rename_i z
    have e : PySem.W.subIn X.K (.ref (cls c2)) (.ref (cls c)) = some false := by
      rcases Bool.or_eq_true_iff.mp (EF.nf c c2 f g ef eg) with e | e
      · rw [beq_iff_eq.mp e] at z; simp at z
      · exact beq_iff_eq.mp e
    refine wpAny_bind ((PySem.W.looks_subIn KI e).here ?_)
    simp only [Bool.false_eq_true, if_false]
    refine wpAny_bind (wpAny_mono one (fun r s' z => ?_) fun _ _ e => e)
    obtain ⟨v, rfl, hq⟩ := done z
    exact wpAny_pure hq
  · refine wpAny_bind (wpAny_pure ?_)
    simp only [Bool.false_eq_true, if_false]
    refine wpAny_bind (wpAny_mono one (fun r s' z => ?_) fun _ _ e => e)
    obtain ⟨v, rfl, hq⟩ := done z
    exact wpAny_pure hq
end
/-! ### tuples of such -/
section
open PySem.MeetsSeq PySem.MeetsSeq2 PySem.MeetsSeq3 PySem.SeqRoads2
open PySem.AutoSeq1 (wpAny_loadPart')
variable {prog : Program} {w : World} {A : Around} {E : Value → Shared → Prop}
theorem tup_turns {l b : Addr} {its its2 : Array Value} {n n2 : Nat} {dd dd2 : Option Addr} {sl sl2 : Array (Option Value)} {Fn : Bool → Shared → Prop} (J : Nat → Shared → Prop) (hz : its.size = its2.size)
    (turn : ∀ i (h1 : i < its.size) (h2 : i < its2.size) s', J i s' → wpAny (model prog w) A (eqBool its[i] its2[i]) (fun r s2 => if r = true then J (i + 1) s2 else Fn false s2) E s')
    (fin : ∀ s', J its.size s' → Fn true s') {s : Shared} (g1 : s.heap.get? l = some { cls := .type "tuple", dict := dd, data := .seq its n, slots := sl }) (g2 : s.heap.get? b = some { cls := .type "tuple", dict := dd2, data := .seq its2 n2, slots := sl2 }) (start : J 0 s) :
    wpAny (model prog w) A (Builtin.«tuple.__eq__» ⟨[.ref l, .ref b], []⟩) (fun f s' => ∃ r, f = .done (.ret (.bool r)) ∧ Fn r s') E s := by
  have sub := PySem.AutoSeq1.sub_tuple_tuple
  have hlen : (its.toList.zip its2.toList).length = its.size := by simp [hz]
  have go := start
  obtain ⟨hp, g, d, tk, os⟩ := s
  wp_walk using wpAny_loadPart' g1, wpAny_loadPart' g2, wpAny_forIn_list _ (fun rest b s' => b.1 = none ∧ ∃ i, rest = (its.toList.zip its2.toList).drop i ∧ i ≤ its.size ∧ J i s') _
  case h => exact ⟨rfl, 0, rfl, Nat.zero_le _, go⟩
  case fin =>
    intro b s' z
    obtain ⟨q, i, er, hi, hj⟩ := z
    obtain ⟨b1, b2⟩ := b
    dsimp only at q
    subst q
    have : its.size ≤ i := by
      by_cases c : i < its.size
      · have c' : i < (its.toList.zip its2.toList).length := by rw [hlen]; exact c
        rw [List.drop_eq_getElem_cons c'] at er
        cases er
      · omega
    have e : i = its.size := by omega
    subst e
    wp_walk
    refine ⟨true, ?_, fin _ hj⟩
    simp [Builtin.Tuple.tupleCompareSizes, hz]
  case turn =>
    intro z rest b s' q
    obtain ⟨y, x⟩ := z
    obtain ⟨q, i, er, hi, hj⟩ := q
    have hi1 : i < its.size := by
      by_cases c : i < its.size
      · exact c
      · rw [List.drop_of_length_le (by rw [hlen]; omega)] at er
        cases er
    have hi2 : i < its2.size := by omega
    have c' : i < (its.toList.zip its2.toList).length := by rw [hlen]; exact hi1
    rw [List.drop_eq_getElem_cons c'] at er
    have e1 := (List.cons.inj er).1
    have e2 := (List.cons.inj er).2
    have ey : y = its[i] := by have := congrArg Prod.fst e1; simpa using this
    have ex : x = its2[i] := by have := congrArg Prod.snd e1; simpa using this
    subst ey
    subst ex
    refine wpAny_bind (wpAny_mono (turn i hi1 hi2 s' hj) (fun r s2 q2 => ?_) fun _ _ x => x)
    cases r with
    | true =>
      have q2 : J (i + 1) s2 := q2
      obtain ⟨hp2, g2', d2, tk2, os2⟩ := s2
      wp_walk
      exact ⟨rfl, i + 1, e2, hi1, q2⟩
    | false =>
      have q2 : Fn false s2 := q2
      obtain ⟨hp2, g2', d2, tk2, os2⟩ := s2
      wp_walk
      exact ⟨false, rfl, q2⟩
end
section
variable {X : Cx} {cls : Nat → Addr} {T : Tb} {k : Nat} {ad : Nat → Addr} {W : XW} {pins : List (Addr × Obj)} {s : Shared} {σ : L2.St} {H : Hp} {ι : List Addr} {h : VH}
theorem items_or (T : Tb) : ∀ (xs ys : List PV) (h : VH), eqItems T xs ys h = .no ∨ ((∃ b h', eqItems T xs ys h = .ok b h') ∧ xs.length = ys.length)
  | [], [], h => .inr ⟨⟨_, _, rfl⟩, rfl⟩
  | [], _ :: _, h => .inl rfl
  | _ :: _, [], h => .inl rfl
  | x :: xs, y :: ys, h => by
    unfold eqItems
    split
    · exact .inl rfl
    · split
      · rename_i h1 e
        rcases items_or T xs ys h1 with z | ⟨z, l⟩
        · exact .inl z
        · exact .inr ⟨z, by simp [l]⟩
      · split
        · rename_i hz
          exact .inr ⟨⟨_, _, rfl⟩, by simp [Nat.eq_of_beq_eq_true hz]⟩
        · exact .inl rfl
      · exact .inl rfl
theorem op_eqI (MM : MI X.prog X.w X.K X.mg X.base cls T k ad) (EF : EqF X.K cls T) (hr : Room (k + 1) X.A) {xs ys : List PV} {x y : V} {v u : Value} {Q : Bool → Hp → Prop} (I : Inv X pins σ H s) (R : Rx X cls ι h H) (rp : RV X.K ι H (.tup xs) x) (rq : RV X.K ι H (.tup ys) y) (ev : RelV x v) (eu : RelV y u)
    (hw : Wx X cls (REq Bool) W (eqItems T xs ys h) ι H Q) : wpAny (model X.prog X.w) X.A (compareOp .Eq v u) (EP X pins σ fun z H' => ∃ b, z = .bl b ∧ Q b H') X.xe s := by
  have hl : xs.length = ys.length := by
    rcases items_or T xs ys h with z | ⟨_, z⟩
    · rw [z] at hw; exact hw.elim
    · exact z
  obtain ⟨a, vs, rfl, sq, rs⟩ := rp
  obtain ⟨a', vs', rfl, sq', rs'⟩ := rq
  obtain rfl : v = Value.ref a := ev
  obtain rfl : u = Value.ref a' := eu
  obtain ⟨its, k1, ⟨⟨c1, d1, dt1, sl1⟩, g1, rfl, n1, rfl⟩, _⟩ := I.tuple sq
  obtain ⟨its', k2, ⟨⟨c2, d2, dt2, sl2⟩, g2, rfl, n2, rfl⟩, _⟩ := I.tuple sq'
  have l1 : its.toArray.size = xs.length := by rw [List.size_toArray, ← k1.length, rs.length]
  have l2 : its'.toArray.size = ys.length := by rw [List.size_toArray, ← k2.length, rs'.length]
  have hu0 : X.A.units < cLine := hr.units0
  have hu1 : X.A.in1.units < cLine := hr.in1.units0
  show wpAny (model X.prog X.w) X.A (richCompare .Eq (.ref a) (.ref a')) _ X.xe s
  refine wpAny_richCompare_same_room (op := .Eq) ⟨_, g1, rfl⟩ ⟨_, g2, rfl⟩ PySem.F.slot_tuple_eq (wpAny_call_entry PySem.F.slot_tuple_eq ⟨_, g1, rfl⟩ PySem.F.entry_tuple_eq ?_ (PySem.F.args_tuple_eq_2 _ _)) hu0
  refine wpAny_mono (tup_turns (Fn := fun r s' => ∃ H', Inv X pins σ H' s' ∧ Q r H') (fun i s' => ∃ ι' h' H', Inv X pins σ H' s' ∧ Le ι ι' ∧ Kp H H' ∧ Rx X cls ι' h' H' ∧ Wx X cls (REq Bool) W (eqItems T (xs.drop i) (ys.drop i) h') ι' H' Q) (by omega) ?_ ?_ g1 g2 ⟨ι, h, H, I, .refl _, .refl _, R, by simpa using hw⟩) (fun f s' q => ?_) fun _ _ e => e
  · intro i h1 h2 s' ⟨ι', h', H', I', l, kp, R', hw'⟩
    have hi1 : i < xs.length := by omega
    have hi2 : i < ys.length := by omega
    rw [List.drop_eq_getElem_cons hi1, List.drop_eq_getElem_cons hi2] at hw'
    obtain ⟨x', hx, rx⟩ := (rs.mono l kp).get (List.getElem?_eq_getElem hi1)
    obtain ⟨y', hy, ry⟩ := (rs'.mono l kp).get (List.getElem?_eq_getElem hi2)
    obtain ⟨v', hv, rv⟩ := k1.get hx
    obtain ⟨u', hu, ru⟩ := k2.get hy
    have a1 : its.toArray[i] = v' := by
      have := (List.getElem?_eq_some_iff.mp hv).2
      simpa using this
    have a2 : its'.toArray[i] = u' := by
      have := (List.getElem?_eq_some_iff.mp hu).2
      simpa using this
    rw [a1, a2]
    generalize xs[i] = px at *
    generalize ys[i] = py at *
    unfold eqItems at hw'
    split at hw'
    · exact hw'.elim
    rename_i hne
    have hw2 : Wx X cls (REq Bool) Wn (eqOwn T h' px py) ι' H' fun b H2 => if b = true then ∃ ι2 h2, Le ι' ι2 ∧ Kp H' H2 ∧ Rx X cls ι2 h2 H2 ∧ Wx X cls (REq Bool) W (eqItems T (xs.drop (i + 1)) (ys.drop (i + 1)) h2) ι2 H2 Q else Q false H2 := by
      split at hw'
      · rename_i h1' e
        rw [e]
        intro ι2 H2 b l2 kp2 R2 rb
        cases (show true = b from rb)
        rw [if_pos rfl]
        refine ⟨ι2, h1', l2, kp2, R2, ?_⟩
        rcases items_or T (xs.drop (i + 1)) (ys.drop (i + 1)) h1' with z | ⟨⟨b, h3, z⟩, _⟩
        · rw [z] at hw'; exact hw'.elim
        · rw [z] at hw' ⊢
          exact fun ι3 H3 c l3 kp3 => hw' ι3 H3 c (l2.trans l3) (kp2.trans kp3)
      · rename_i h1' e
        rw [e]
        split at hw'
        · intro ι2 H2 b l2 kp2 R2 rb
          cases (show false = b from rb)
          rw [if_neg Bool.false_ne_true]
          exact hw' ι2 H2 false l2 kp2 R2 rfl
        · exact hw'.elim
      · exact hw'.elim
    obtain ⟨n, m, c, fs, c2, gs, f, g, rfl, rfl, en, em, ef, eg, _⟩ := own_parts hw2
    have hab : ∃ b b', v' = Value.ref b ∧ u' = Value.ref b' ∧ b ≠ b' := by
      obtain ⟨b, e1, rfl⟩ := id rx
      obtain ⟨b', e2, rfl⟩ := id ry
      obtain rfl : v' = Value.ref b := rv
      obtain rfl : u' = Value.ref b' := ru
      refine ⟨b, b', rfl, rfl, fun z => ?_⟩
      subst z
      rcases R'.nd n m b e1 e2 with z | ⟨zs, us, z, _⟩ | ⟨zs, us, z, _⟩
      · subst z
        exact absurd (show PV.beq (.ref n) (.ref n) = true from Nat.beq_refl n) (by simpa using hne)
      · rw [en] at z; cases z
      · rw [em] at z; cases z
    obtain ⟨b, b', rfl, rfl, hbb⟩ := hab
    refine GQ.eqBool_refG hbb (wpAny_mono (own_rc MM EF hu1 I' R' rx ry rv ru (fun F rv ev hw => fi_run1 F hr I' R' rv ev (fun _ _ _ _ _ z => z) hw) hw2) (fun r s2 q => ?_) fun _ _ e => e)
    obtain ⟨r, rfl, H2, I2, q⟩ := q
    refine ⟨r, rfl, ?_⟩
    cases r with
    | true =>
      rw [if_pos rfl] at q ⊢
      obtain ⟨ι2, h2, l2, kp2, R2, q⟩ := q
      exact ⟨ι2, h2, H2, I2, l.trans l2, kp.trans kp2, R2, q⟩
    | false =>
      rw [if_neg Bool.false_ne_true] at q ⊢
      exact ⟨H2, I2, q⟩
  · intro s' ⟨ι', h', H', I', l, kp, R', hw'⟩
    have e1 : xs.drop its.toArray.size = [] := by rw [l1]; simp
    have e2 : ys.drop its.toArray.size = [] := by rw [l1, hl]; simp
    rw [e1, e2] at hw'
    exact ⟨H', I', Wx.bl hw' R'⟩
  · obtain ⟨r, rfl, H', I', q⟩ := q
    exact ⟨_, rfl, (fun x => nomatch x), .bl r, H', I', rfl, r, rfl, q⟩
theorem op_eqx (MM : MI X.prog X.w X.K X.mg X.base cls T k ad) (EF : EqF X.K cls T) (hr : Room (k + 1) X.A) (neg : Bool) : Op2B X cls (compareOp (if neg then .NotEq else .Eq)) (fun h => eqX T neg h) := by
  intro W pins s σ H ι h p q x y v u Q I R rp rq ev eu hw
  have hu : X.A.units + 64 < cLine := hr.units
  have hw : Wx X cls (REq Bool) W (eqX T neg h p q) ι H Q := hw
  unfold eqX at hw
  by_cases hi : isIns h p = true
  · rw [if_pos hi] at hw
    cases neg with
    | true =>
      refine op_neo MM EF hr W pins s σ H ι h p q x y v u Q I R rp rq ev eu ?_
      show Wx X cls (REq Bool) W (match eqOwn T h p q with
        | .ok b h1 => .ok (!b) h1
        | _ => .no) ι H Q
      cases e : eqOwn T h p q with
      | ok b h1 => rw [e] at hw; simpa using hw
      | ex c p h1 => rw [e] at hw; exact hw
      | no => rw [e] at hw; exact hw
    | false =>
      refine op_eqo MM EF (hr.mono (Nat.le_succ k)) W pins s σ H ι h p q x y v u Q I R rp rq ev eu ?_
      show Wx X cls (REq Bool) W (eqOwn T h p q) ι H Q
      cases e : eqOwn T h p q with
      | ok b h1 => rw [e] at hw; simpa using hw
      | ex c p h1 => rw [e] at hw; exact hw.elim
      | no => rw [e] at hw; exact hw
  · rw [if_neg hi] at hw
    cases neg with
    | true => exact v_ne hu W pins s σ H ι h p q x y v u Q I R rp rq ev eu hw
    | false =>
      simp only [Bool.false_eq_true, if_false] at hw
      split at hw
      · split at hw
        · exact op_eqI MM EF hr I R rp rq ev eu hw
        · exact v_eqPo hu W pins s σ H ι h _ _ x y v u Q I R rp rq ev eu hw
      · exact v_eqPo hu W pins s σ H ι h _ _ x y v u Q I R rp rq ev eu hw
end
end VI
set_option autoImplicit false
set_option linter.all false
set_option Elab.async false
set_option maxRecDepth 100000
set_option maxHeartbeats 2000000
/-! VI over the hand layer: whether a term of the language is what a piece of Python's syntax does, by looking. -/
namespace VI
open PySem PySem.Spec PyProof.Rows L2
/-- the names of the module: functions, classes, constants, dicts, built-in names that nothing hides, the keyword of a class -/
structure Gc where
  fn : List (Str × Nat)
  cl : List (Str × Nat)
  co : List (Str × Nat)
  gd : List (Str × Nat)
  fr : List Str
  kw : List (Nat × Str)
/-- where one stands: the slots, the scope, a comprehension's own one -/
structure CC where
  N : List Str
  sc : Scope
  fs : Option Scope
def okN (x : Str) : Bool := !(x == ("__debug__" : Str)) && !(x == ("__classdict__" : Str)) && !(x == ("__name__" : Str))
def varC (C : CC) (i : Nat) (x : Str) : Bool := decide (C.N[i]? = some x) && visC C.sc x && okN x
def litC : PV → Const → Bool
  | .non, .none => true
  | .bl a, .bool b => a == b
  | .int i, .int j => decide (i = j)
  | .str x, .str y => decide (x = y)
  | _, _ => false
def gloN (C : CC) (x : Str) : Bool := gloC C.sc x && okN x
def fnC (C : CC) (x : Str) : Bool := match C.fs with
  | none => true
  | some s => lclC C.sc x || (match s.names.lookup x with
    | some .cell => true
    | _ => false)
def setC (C : CC) (i : Nat) (x : Str) : Bool := decide (C.N[i]? = some x) && locC C.sc x && fnC C x
def binC : BO → Operator → Bool
  | .add, .Add => true
  | .sub, .Sub => true
  | .mul, .Mult => true
  | .mod, .Mod => true
  | .fdiv, .FloorDiv => true
  | .pow, .Pow => true
  | _, _ => false
def cmpC : CO → CmpOp → Bool
  | .eq, .Eq => true
  | .ne, .NotEq => true
  | .lt, .Lt => true
  | .le, .LtE => true
  | .gt, .Gt => true
  | .ge, .GtE => true
  | .isv, .Is => true
  | .nisv, .IsNot => true
  | .inn, .In => true
  | .nin, .NotIn => true
  | _, _ => false
def isSlice : Expr → Bool
  | .Slice .. => true
  | _ => false
/-- no more than a value's truth is asked -/
def plainT : Expr → Bool
  | .UnaryOp .. => false
  | .BoolOp .. => false
  | .IfExp .. => false
  | .Compare .. => false
  | _ => true
def b1N : B1 → Str
  | .len => "len"
  | .max => "max"
  | .min => "min"
  | .sum => "sum"
  | .all => "all"
  | .any => "any"
  | .list => "list"
  | .tuple => "tuple"
  | .dict => "dict"
  | .int => "int"
  | .abs => "abs"
  | .str => "str"
  | .sorted => "sorted"
def b1V : B1 → Value
  | .len => .builtin "len"
  | .max => .builtin "max"
  | .min => .builtin "min"
  | .sum => .builtin "sum"
  | .all => .builtin "all"
  | .any => .builtin "any"
  | .list => .type "list"
  | .tuple => .type "tuple"
  | .dict => .type "dict"
  | .int => .type "int"
  | .abs => .builtin "abs"
  | .str => .type "str"
  | .sorted => .builtin "sorted"
/-- a free built-in name -/
def freeC (G : Gc) (C : CC) (n x : Str) : Bool := decide (x = n) && gloN C x && G.fr.contains x
def tyC (G : Gc) (C : CC) (k : TyK) (x : Str) : Bool := match k with
  | .int => freeC G C "int" x
  | .bool => freeC G C "bool" x
  | .str => freeC G C "str" x
  | .tuple => freeC G C "tuple" x
  | .list => freeC G C "list" x
  | .dict => freeC G C "dict" x
  | .own c => decide (G.cl.lookup x = some c) && gloN C x
def tysC (G : Gc) (C : CC) : List TyK → List Expr → Bool
  | [], [] => true
  | k :: ks, .Name x _ :: es => tyC G C k x && tysC G C ks es
  | _, _ => false
def isiC (G : Gc) (C : CC) (ks : List TyK) (z : Expr) : Bool := match ks, z with
  | [k], .Name t _ => tyC G C k t
  | ks, .Tuple ts _ _ => tysC G C ks ts && Nat.ble ks.length 15
  | _, _ => false
def lineC (apos pos : Pos) : Bool := apos.endLine == pos.line
def dctC (ks : List (Option Expr)) (vs : List Expr) : Bool := ks.all (·.isSome) && Nat.beq ks.length vs.length && Nat.ble ks.length 15
def bmC : BM → Str → Nat → Bool
  | .append, m, n => decide (m = "append") && Nat.beq n 1
  | .extend, m, n => decide (m = "extend") && Nat.beq n 1
  | .pop, m, n => decide (m = "pop") && Nat.beq n 1
  | .clear, m, n => decide (m = "clear") && Nat.beq n 0
  | .count, m, n => decide (m = "count") && Nat.beq n 1
  | _, _, _ => false
def ownN (C : CC) (own : List Nat) : List (Str × Nat) := own.map fun i => (C.N.getD i "", i)
def relC (C : CC) (scope : Scope) : CC := ⟨C.N, relS scope C.sc, some scope⟩
mutual
def slG : I → List Nat
  | .var i => [i]
  | .tgt ts => slGs ts
  | _ => []
def slGs : I → List Nat
  | .cons t ts => slG t ++ slGs ts
  | _ => []
end
def compC (C : CC) (scope : Scope) (own : List Nat) (t : I) (iter : Expr) : Bool := blkC C.N C.sc scope (ownN C own) && (slG t).all (fun j => own.contains j) && !isSetD iter
def isNil : I → Bool
  | .nil => true
  | _ => false
def isTupl : Expr → Bool
  | .Tuple .. => true
  | _ => false
section
variable (G : Gc)
mutual
def chkE : I → CC → Expr → Bool
  | .var i, C, e => (match e with
    | .Name x _ => varC C i x
    | _ => false)
  | .lit v, _, e => (match e with
    | .Constant c _ _ => litC v c
    | _ => false)
  | .con k, C, e => (match e with
    | .Name x _ => decide (G.co.lookup x = some k) && gloN C x
    | _ => false)
  | .tup es, C, e => (match e with
    | .Tuple as _ _ => chkA es C as
    | _ => false)
  | .lst es, C, e => (match e with
    | .List as _ => chkA es C as
    | _ => false)
  | .dct ps, C, e => (match e with
    | .Dict ks vs _ => dctC ks vs && chkP ps C ks vs
    | _ => false)
  | .bin o a b, C, e => (match e with
    | .BinOp x op y _ => binC o op && chkE a C x && chkE b C y
    | _ => false)
  | .neg a, C, e => (match e with
    | .UnaryOp .USub x _ => chkE a C x
    | _ => false)
  | .cmp o a b, C, e => (match e with
    | .Compare x [op] [y] _ => cmpC o op && chkE a C x && chkE b C y && !isSetD y
    | _ => false)
  | .eqx neg a b, C, e => (match e with
    | .Compare x [op] [y] _ => decide (op = if neg then .NotEq else .Eq) && chkE a C x && chkE b C y && !isSetD y
    | _ => false)
  | .chn o o2 a b c, C, e => (match e with
    | .Compare x [op, op2] [y, z] _ => cmpC o op && cmpC o2 op2 && chkE a C x && chkE b C y && chkE c C z && !isSetD y && !isSetD z
    | _ => false)
  | .and a b, C, e => (match e with
    | .BoolOp .And [x, y] _ => chkE a C x && chkE b C y
    | .BoolOp .And (x :: y :: z :: r) p => chkE a C x && chkE b C (.BoolOp .And (y :: z :: r) p)
    | _ => false)
  | .or a b, C, e => (match e with
    | .BoolOp .Or [x, y] _ => chkE a C x && chkE b C y
    | .BoolOp .Or (x :: y :: z :: r) p => chkE a C x && chkE b C (.BoolOp .Or (y :: z :: r) p)
    | _ => false)
  | .not a, C, e => (match e with
    | .UnaryOp .Not x _ => chkE a C x
    | _ => false)
  | .ife t a b, C, e => (match e with
    | .IfExp c x y _ => chkT t C c && chkE a C x && chkE b C y
    | _ => false)
  | .att a f, C, e => (match e with
    | .Attribute x g _ => decide (f = g) && chkE a C x && !bareCall x
    | _ => false)
  | .sub a i, C, e => (match e with
    | .Subscript x y _ => chkE a C x && chkE i C y && !isSlice y
    | _ => false)
  | .slc a lo hi, C, e => (match e with
    | .Subscript x (.Slice l h none _) _ => chkE a C x && chkO lo C l && chkO hi C h
    | _ => false)
  | .rvs a, C, e => (match e with
    | .Subscript x (.Slice none none (some (.UnaryOp .USub (.Constant (.int 1) _ _) _)) _) _ => chkE a C x
    | _ => false)
  | .call f as, C, e => (match e with
    | .Call (.Name x _) es [] _ => decide (G.fn.lookup x = some f) && gloN C x && chkA as C es && noStar es
    | _ => false)
  | .mk c as, C, e => (match e with
    | .Call (.Name x _) (y :: es) [] _ => decide (G.cl.lookup x = some c) && gloN C x && chkA as C (y :: es) && noStar (y :: es)
    | _ => false)
  | .mkk c as kw, C, e => (match e with
    | .Call (.Name x _) (y :: es) [⟨some k, v, _⟩] _ => decide (G.cl.lookup x = some c) && decide (G.kw.lookup c = some k) && gloN C x && chkA as C (y :: es) && chkE kw C v && noStar (y :: es)
    | _ => false)
  | .mth m o as, C, e => (match e with
    | .Call (.Attribute x n ap) es [] p => decide (m = n) && chkE o C x && chkA as C es && noStar es && Nat.blt es.length 30 && !bareCall x && lineC ap p
    | _ => false)
  | .bm m o as, C, e => (match e with
    | .Call (.Attribute x n ap) es [] p => bmC m n es.length && chkE o C x && chkA as C es && noStar es && !bareCall x && lineC ap p
    | _ => false)
  | .b1 b a, C, e => (match e with
    | .Call (.Name x _) [y] [] _ => freeC G C (b1N b) x && chkE a C y && noStar [y]
    | _ => false)
  | .max2 a b, C, e => (match e with
    | .Call (.Name x _) [y, z] [] _ => freeC G C "max" x && chkE a C y && chkE b C z && noStar [y, z]
    | _ => false)
  | .min2 a b, C, e => (match e with
    | .Call (.Name x _) [y, z] [] _ => freeC G C "min" x && chkE a C y && chkE b C z && noStar [y, z]
    | _ => false)
  | .isi a ks, C, e => (match e with
    | .Call (.Name x _) [y, z] [] _ => freeC G C "isinstance" x && chkE a C y && noStar [y, z] && isiC G C ks z
    | _ => false)
  | .gin neg g a, C, e => (match e with
    | .Compare x [op] [.Name y _] _ => decide (op = if neg then .NotIn else .In) && decide (G.gd.lookup y = some g) && gloN C y && chkE a C x
    | _ => false)
  | .gget g a, C, e => (match e with
    | .Subscript (.Name y _) x _ => decide (G.gd.lookup y = some g) && gloN C y && chkE a C x && !isSlice x
    | _ => false)
  | .lc own t it ifs a, C, e => (match e with
    | .ListComp elt [⟨tg, iter, cs, z⟩] scope _ => decide (z = 0) && compC C scope own t iter && chkI it C tg iter && chkG t (relC C scope) tg && (match cs with
      | [] => isNil ifs
      | [c] => chkT ifs (relC C scope) c
      | _ => false) && chkE a (relC C scope) elt
    | _ => false)
  | .dc own t it ifs k v, C, e => (match e with
    | .DictComp kx vx [⟨tg, iter, cs, z⟩] scope _ => decide (z = 0) && compC C scope own t iter && chkI it C tg iter && chkG t (relC C scope) tg && (match cs with
      | [] => isNil ifs
      | [c] => chkT ifs (relC C scope) c
      | _ => false) && chkE k (relC C scope) kx && chkE v (relC C scope) vx
    | _ => false)
  | _, _, _ => false
def chkT : I → CC → Expr → Bool
  | .and a b, C, e => (match e with
    | .BoolOp .And [x, y] _ => chkT a C x && chkT b C y
    | .BoolOp .And (x :: y :: z :: r) p => chkT a C x && chkT b C (.BoolOp .And (y :: z :: r) p)
    | _ => false)
  | .or a b, C, e => (match e with
    | .BoolOp .Or [x, y] _ => chkT a C x && chkT b C y
    | .BoolOp .Or (x :: y :: z :: r) p => chkT a C x && chkT b C (.BoolOp .Or (y :: z :: r) p)
    | _ => false)
  | .not a, C, e => (match e with
    | .UnaryOp .Not x _ => chkT a C x
    | _ => false)
  | .cmp o a b, C, e => (match e with
    | .Compare x [op] [y] _ => cmpC o op && chkE a C x && chkE b C y && !isSetD y
    | _ => false)
  | .eqx neg a b, C, e => (match e with
    | .Compare x [op] [y] _ => decide (op = if neg then .NotEq else .Eq) && chkE a C x && chkE b C y && !isSetD y
    | _ => false)
  | .chn o o2 a b c, C, e => (match e with
    | .Compare x [op, op2] [y, z] _ => cmpC o op && cmpC o2 op2 && chkE a C x && chkE b C y && chkE c C z && !isSetD y && !isSetD z
    | _ => false)
  | .ex (.gin neg g a), C, e => (match e with
    | .Compare x [op] [.Name y _] _ => decide (op = if neg then .NotIn else .In) && decide (G.gd.lookup y = some g) && gloN C y && chkE a C x
    | _ => false)
  | .ex a, C, e => plainT e && chkE a C e
  | _, _, _ => false
def chkA : I → CC → List Expr → Bool
  | .nil, _, es => (match es with
    | [] => true
    | _ => false)
  | .cons a b, C, es => (match es with
    | x :: r => noStar [x] && chkE a C x && chkA b C r
    | _ => false)
  | .star a b, C, es => (match es with
    | .Starred x _ :: r => chkE a C x && chkA b C r
    | _ => false)
  | _, _, _ => false
def chkP : I → CC → List (Option Expr) → List Expr → Bool
  | .nil, _, ks, vs => (match ks, vs with
    | [], [] => true
    | _, _ => false)
  | .cons k (.cons v ps), C, ks, vs => (match ks, vs with
    | some x :: kr, y :: vr => chkE k C x && chkE v C y && chkP ps C kr vr
    | _, _ => false)
  | _, _, _, _ => false
def chkO : I → CC → Option Expr → Bool
  | .nil, _, o => o.isNone
  | .cons a _, C, o => (match o with
    | some x => chkE a C x
    | none => false)
  | _, _, _ => false
def chkI : I → CC → Expr → Expr → Bool
  | .rng a b, C, _, e => (match e with
    | .Call (.Name x _) [y] [] _ => (match a with
      | .lit (.int 0) => true
      | _ => false) && freeC G C "range" x && chkE b C y && noStar [y]
    | .Call (.Name x _) [y, z] [] _ => freeC G C "range" x && chkE a C y && chkE b C z && noStar [y, z]
    | _ => false)
  | .enm a, C, tg, e => (match e with
    | .Call (.Name x _) [y] [] _ => isTupl tg && freeC G C "enumerate" x && chkE a C y && noStar [y]
    | _ => false)
  | .zip a b, C, tg, e => (match e with
    | .Call (.Name x _) [y, z] [] _ => isTupl tg && freeC G C "zip" x && chkE a C y && chkE b C z && noStar [y, z]
    | _ => false)
  | .itm a, C, tg, e => (match e with
    | .Call (.Attribute x m ap) [] [] p => isTupl tg && decide (m = "items") && chkE a C x && !bareCall x && lineC ap p
    | _ => false)
  | .vls a, C, _, e => (match e with
    | .Call (.Attribute x m ap) [] [] p => decide (m = "values") && chkE a C x && !bareCall x && lineC ap p
    | _ => false)
  | .ex a, C, _, e => chkE a C e
  | _, _, _, _ => false
def chkG : I → CC → Expr → Bool
  | .var i, C, e => (match e with
    | .Name x _ => setC C i x
    | _ => false)
  | .att a f, C, e => (match e with
    | .Attribute x g _ => decide (f = g) && chkE a C x
    | _ => false)
  | .sub a i, C, e => (match e with
    | .Subscript x y _ => chkE a C x && chkE i C y && !isSlice y
    | _ => false)
  | .tgt ts, C, e => (match e with
    | .Tuple es _ _ => chkGs ts C es && noStar es
    | _ => false)
  | _, _, _ => false
def chkGs : I → CC → List Expr → Bool
  | .nil, _, es => (match es with
    | [] => true
    | _ => false)
  | .cons t ts, C, es => (match es with
    | x :: r => chkG t C x && chkGs ts C r
    | _ => false)
  | _, _, _ => false
end
end
/-- what a swapped store of tuples comes to -/
def stoC (sc : Scope) (ts vs : List Expr) : Option (Option (List Str)) :=
  if !(ts.length == 2 || ts.length == 3) || vs.length != ts.length then some none
  else if vs.any fun | .Starred .. => true | _ => false then some none
  else
    let line := (ts.head?.map (·.pos.line)).getD 0
    let names := ts.filterMap fun
      | .Name id pos => if sc.names.lookup id == some .local && pos.line == line then some id else none
      | _ => none
    if names.length != ts.length || names.eraseDups.length != names.length then some none
    else if vs.all (foldedForSure 8) then some none
    else if vs.all (constantsAlone 8) then none
    else some (some names)
def scopeOf : Expr → Option Scope
  | .ListComp _ _ s _ => some s
  | .SetComp _ _ s _ => some s
  | .DictComp _ _ _ s _ => some s
  | _ => none
def swapsC (C : CC) (tg x : Expr) : Bool := match scopeOf x, tg with
  | some scope, .Name t pos => C.sc.names.lookup t == some .local && pos.line == x.pos.line && !(scope.names.any fun (n, k) => n == t && (k == .local || k == .cell))
  | _, _ => false
def isListE : Expr → Bool
  | .List .. => true
  | _ => false
def storesC (C : CC) (tg x : Expr) : Bool := match tg, x with
  | .Tuple ts _ _, .Tuple vs _ _ => decide (stoC C.sc ts vs = some none)
  | _, _ => !isListE tg
def noStarE : Expr → Bool
  | .Starred .. => false
  | _ => true
section
variable (G : Gc)
mutual
def chkS : I → CC → Stmt → Bool
  | .asg t (.lc own t2 it ifs a), C, st => (match st with
    | .Assign [tg] x _ => chkG G t C tg && chkE G (.lc own t2 it ifs a) C x && storesC C tg x && noStarE tg
    | _ => false)
  | .asg t (.dc own t2 it ifs k v), C, st => (match st with
    | .Assign [tg] x _ => chkG G t C tg && chkE G (.dc own t2 it ifs k v) C x && storesC C tg x && noStarE tg
    | _ => false)
  | .asg t v, C, st => (match st with
    | .Assign [tg] x _ => chkG G t C tg && chkE G v C x && !isComp x && storesC C tg x && noStarE tg
    | _ => false)
  | .par ts es, C, st => (match st with
    | .Assign [.Tuple tgs _ _] (.Tuple vals _ _) _ => chkA G es C vals && (match ts, tgs, vals with
      | .cons (.var i) (.cons (.var j) .nil), [.Name x _, .Name y _], [_, _] => decide (C.N[i]? = some x) && decide (C.N[j]? = some y) && !Nat.beq i j && lclC C.sc x && lclC C.sc y && decide (stoC C.sc tgs vals = some (some [x, y]))
      | .cons (.var i) (.cons (.var j) (.cons (.var l) .nil)), [.Name x _, .Name y _, .Name z _], [_, _, _] => decide (C.N[i]? = some x) && decide (C.N[j]? = some y) && decide (C.N[l]? = some z) && !Nat.beq i j && !Nat.beq i l && !Nat.beq j l && lclC C.sc x && lclC C.sc y && lclC C.sc z && decide (stoC C.sc tgs vals = some (some [x, y, z]))
      | _, _, _ => false)
    | _ => false)
  | .aug i o v, C, st => (match st with
    | .AugAssign (.Name x _) op y _ => setC C i x && chkE G v C y && (match o, op with
      | .add, .Add => true
      | .sub, .Sub => true
      | _, _ => false)
    | _ => false)
  | .ex v, C, st => (match st with
    | .Expr x _ => chkE G v C x && !isComp x
    | _ => false)
  | .ifs t a b, C, st => (match st with
    | .If c x y _ => chkT G t C c && chkSs a C x && chkSs b C y
    | _ => false)
  | .whl t b, C, st => (match st with
    | .While c x [] _ => chkT G t C c && chkSs b C x
    | _ => false)
  | .for t it b, C, st => (match st with
    | .For tg iter x [] _ => chkG G t C tg && chkI G it C tg iter && chkSs b C x && !isSetD iter
    | _ => false)
  | .ret v, C, st => (match st with
    | .Return (some x) _ => chkE G v C x
    | _ => false)
  | .pass, _, st => (match st with
    | .Pass _ => true
    | _ => false)
  | .cont, _, st => (match st with
    | .Continue _ => true
    | _ => false)
  | .rais _ _, _, _ => true
  | .tri _ _, _, _ => true
  | .wth _ _ _, _, _ => true
  | _, _, _ => false
def chkSs : I → CC → List Stmt → Bool
  | .nil, _, es => (match es with
    | [] => true
    | _ => false)
  | .cons s ss, C, es => (match es with
    | x :: r => chkS s C x && chkSs ss C r
    | _ => false)
  | _, _, _ => false
end
end
end VI
set_option autoImplicit false
set_option linter.all false
set_option Elab.async false
set_option maxRecDepth 100000
set_option maxHeartbeats 2000000
/-! VI over the hand layer: dict(pairs), dict(d), clear, count. -/
namespace VI
open PySem PySem.Spec PyProof.Rows L2
section
variable {X : Cx} {cls : Nat → Addr} {W : L2.St → XW} {W1 : XW} {pins : List (Addr × Obj)} {σ σ' : L2.St} {H H' : Hp} {s : Shared} {ι ι' : List Addr} {ρ : Rho} {h : VH}
theorem m_clearL : MB X cls "list.clear" (fun h p ps => vBM 0 .clear h p ps) := by
  intro W1 pins s σ H ι h p x v ps vs us Q I R rx ev rv eu hw
  cases p <;> try exact False.elim hw
  simp only [vBM] at hw
  split at hw
  · rename_i xs e
    rw [if_pos (show Nat.beq 0 0 = true from rfl)] at hw
    match ps, rv, hw with
    | [], rv, hw =>
      cases (show vs = [] from rv)
      obtain ⟨a, ws, ea, rfl, hH, rws⟩ := opn_at R e rx
      obtain ⟨kp, R'⟩ := lst_set (ys := []) (ws := []) R e ea hH rfl
      exact mt_clear pins s σ H (.ref a) [] v us Q I ev eu ⟨a, ws, rfl, rfl, hH, hw ι _ .non (.refl _) kp R' rfl⟩
    | _ :: _, _, hw => exact hw.elim
  · exact hw.elim
  · exact hw.elim
theorem m_clearD : MB X cls "dict.clear" (fun h p ps => vBM 1 .clear h p ps) := by
  intro W1 pins s σ H ι h p x v ps vs us Q I R rx ev rv eu hw
  cases p <;> try exact False.elim hw
  rename_i n
  simp only [vBM] at hw
  split at hw
  · exact hw.elim
  · rename_i kvs lk e
    rw [if_neg (show ¬ Nat.beq 1 0 = true by decide)] at hw
    match ps, rv, hw with
    | [], rv, hw =>
      cases (show vs = [] from rv)
      cases lk with
      | true => exact hw.elim
      | false =>
        obtain ⟨a, ea, rfl, o, hH, rd⟩ := R.at e rx
        obtain rfl : v = Value.ref a := ev
        cases eu
        have ho : s.heap.get? a = some o := (I.hok a _ hH).1
        obtain ⟨es, ep, hx, hd, E⟩ := rd_ents rd ho
        refine call_meetsIn F.slot_dict_clear ⟨o, ho, hx.1⟩ F.entry_dict_clear (F.args_dict_clear_1 _) (meets_dict_clear_raw a) ⟨es, ep, ⟨o, ho, hx, hd⟩, by rw [E.size]; exact rd.1, fun h' hr' hs' => ?_⟩
        obtain ⟨o2, g1, g2, g3⟩ := hr'
        have kp : Kp H (upd H a (.ext (Is a o2))) := .upd hH (fun _ e => by cases e) fun _ _ e => by cases e
        have hrd : RD X.prog X.w X.K ι (upd H a (.ext (Is a o2))) a [] o2 := ⟨Nat.zero_le _, rd.2.1, .inl ⟨[], rfl, fun hp e => ⟨o2, #[], _, e, g2, g3, fun _ he => by simp at he, .nil, by simp⟩⟩⟩
        exact ⟨.non, _, I.write (t' := s.toks) (by rw [hH]; trivial) (.inl rfl) (fun b ob hb q => (hs'.2 b hb).trans q) ⟨o2, g1⟩ (ext_ok g1), rfl, hw ι _ .non (.refl _) kp (R.write ea kp (no_kc e fun _ z => by cases z) (fun ys z => by rw [e] at z; cases z) ⟨o2, upd_same, hrd⟩) rfl⟩
    | _ :: _, _, hw =>
      cases lk <;> exact hw.elim
  · exact hw.elim
theorem bools_vals : ∀ {bs : List Bool} {its : List Value}, Vals (bs.map V.bl) its → its = bs.map Value.bool
  | [], _, .nil => rfl
  | b :: bs, _, .cons r t => by rw [bools_vals t, show _ = Value.bool b from r]; rfl
theorem count_bools {l : Addr} {its : List Value} {bs : List Bool} {k : Bool} {Q : Value → Shared → Prop} {A : Around} {E : Value → Shared → Prop} {prog : Program} {w : World} (hl : PlainL s.heap l its.toArray) (hi : Vals (bs.map V.bl) its)
    (hq : Q (.int (bs.count k : Nat) s.toks) { s with toks := s.toks + 1 }) : wpAny (model prog w) A (call (.builtin "list.count") [.ref l, .bool k]) Q E s := by
  obtain ⟨⟨cls, dd, data, sl⟩, n, ho, hc, _, hd⟩ := id hl
  simp only at hc hd
  subst hc hd
  have he := bools_vals hi
  have hb : ∀ (b : Bool) (A' : Around) (s' : Shared), SeqAt.EqAt A' s' (.bool b) (.bool k) (decide (b = k)) := fun b A' s' => by
    have := PySem.W.keq_flat (A := A') (s := s') (PyProof.V.Flat.bool b) (PyProof.V.Flat.bool k)
    have e : PyData.eqv (.bool b) (.bool k) = decide (b = k) := by cases b <;> cases k <;> simp [PyData.eqv]
    rw [e] at this
    exact this
  refine call_meets PySem.F.slot_list_count ⟨_, ho, rfl⟩ PySem.F.entry_list_count (PySem.F.args_list_count_2 _ _) (SeqAt.list_countAt l its.toArray n dd sl (.bool k) (fun v => match v with | .bool b => decide (b = k) | _ => false)) ⟨ho, fun y hy => ?_, ?_⟩
  · have hy : y ∈ its := by simpa using hy
    rw [he] at hy
    obtain ⟨b, _, rfl⟩ := List.mem_map.mp hy
    exact hb b _ _
  · have hcnt : its.toArray.toList.countP (fun v => match v with | .bool b => decide (b = k) | _ => false) = bs.count k := by
      show its.countP _ = _
      rw [he, List.countP_map, List.count]
      congr 1
    rw [hcnt]
    exact hq
theorem m_count : MB X cls "list.count" (fun h p ps => vBM 0 .count h p ps) := by
  intro W1 pins s σ H ι h p x v ps vs us Q I R rx ev rv eu hw
  cases p <;> try exact False.elim hw
  simp only [vBM] at hw
  split at hw
  · rename_i xs e
    rw [if_pos (show Nat.beq 0 0 = true from rfl)] at hw
    match ps, rv, hw with
    | [q], rv, hw =>
      cases q <;> try exact False.elim hw
      rename_i b
      dsimp only at hw
      split at hw
      · rename_i bs eb
        obtain ⟨y, _, rfl, ry, rfl⟩ := rv
        obtain rfl : y = .bl b := ry
        obtain ⟨a, ws, ea, rfl, hH, rws⟩ := opn_at R e rx
        obtain rfl : v = Value.ref a := ev
        have e1 := bools_map eb rws
        subst e1
        obtain ⟨its, k1, t1, _⟩ := I.list (.of hH)
        cases eu with
        | cons r1 r2 =>
          cases r2
          obtain rfl := (show _ = Value.bool b from r1)
          exact count_bools t1 k1 ⟨.int (bs.count b : Nat), H, I.tok _, ⟨_, rfl⟩, hw.val R rfl⟩
      · exact hw.elim
    | [], _, hw => exact hw.elim
    | q :: _ :: _, _, hw => cases q <;> exact hw.elim
  · exact hw.elim
  · exact hw.elim
end
end VI
set_option autoImplicit false
set_option linter.all false
set_option Elab.async false
set_option maxRecDepth 100000
set_option maxHeartbeats 2000000
/-! VI over the hand layer: dict(pairs), dict(d), clear, count. -/
namespace VI
open PySem PySem.Spec PyProof.Rows L2
section
variable {X : Cx} {cls : Nat → Addr} {W : L2.St → XW} {W1 : XW} {pins : List (Addr × Obj)} {σ σ' : L2.St} {H H' : Hp} {s : Shared} {ι ι' : List Addr} {ρ : Rho} {h : VH}
theorem tup_is' {hp : Heap} {a : Addr} {its : Array Value} (x : IsTup hp a its) : hp.IsTuple a its := by
  obtain ⟨⟨c, dd, d, sl⟩, e, rfl, n, rfl⟩ := x
  exact ⟨_, e, rfl, n, rfl⟩
/-- dict(d): keys that are objects -/
theorem dict_copyH {prog : Program} {w : World} {A : Around} {E : Value → Shared → Prop} {s : Shared} {KT : Type} [DecidableEq KT] {knd : HeapKind prog w KT} {o : Addr} {more : List (KT × Addr × Value)} {Q : Value → Shared → Prop} (hu : knd.room A.in1.in1) (hoS : (o == sysModules) = false) (ho : s.heap.DictOfH knd o more)
    (st : ∀ h', (∀ b u, s.heap.get? b = some u → h'.get? b = some u) → ∀ x ∈ more, knd.is h' x.1 x.2.1) (hty : ∀ x ∈ more, s.TypeIs (.ref x.2.1) "tuple") (hap : (more.map fun x => knd.hash x.1).Nodup) (hsz : more.length ≤ sizeLine)
    (hq : ∀ h', h'.DictOfH knd s.heap.objs.size (storedAllH [] more) → Heap.SameBut s.heap.objs.size (s.heap.push { cls := .type "dict", data := .dict #[] }) h' → Q (.ref s.heap.objs.size) { s with heap := h' }) :
    wpAny (model prog w) A (call (.type "dict") [.ref o]) Q E s := by
  refine callType_codes (Q₁ := fun obj s1 => obj = .ref s.heap.objs.size ∧ s1 = { s with heap := s.heap.push { cls := .type "dict", data := .dict #[] } }) F.kt_called_dict (F.kt_typeCall_dict_1 _) F.entry_dict_init (kt_code_dict_new _ ⟨rfl, rfl⟩) ?_
  intro obj s1 z
  obtain ⟨rfl, rfl⟩ := z
  have keep : ∀ b u, s.heap.get? b = some u → (s.heap.push { cls := .type "dict", data := .dict #[] }).get? b = some u := fun b u e => Heap.get?_push_of_some _ e
  have d0 : (s.heap.push { cls := .type "dict", data := .dict #[] }).DictOfH knd s.heap.objs.size [] := Heap.DictOfH.new s.heap
  obtain ⟨oo, es, ep, g1, g2, g3, g4, g5, g6⟩ := id ho
  have d1 : (s.heap.push { cls := .type "dict", data := .dict #[] }).DictOfH knd o more := ⟨oo, es, ep, keep _ _ g1, g2, g3, g4, st _ keep, g6⟩
  have hne : s.heap.objs.size ≠ o := fun e => absurd (Heap.lt_size g1) (by rw [e]; exact Nat.lt_irrefl _)
  refine ⟨d0.typeIs, F.args_dict_init_2 _ _, ?_⟩
  unfold Builtin.«dict.__init__»
  refine wpAny_bind ?_
  unfold Builtin.Dict.selfAndRest
  refine wpAny_bind (wpAny_notOrdered_dict d0.typeIs ?_)
  show wpAny _ _ (pure (s.heap.objs.size, [Value.ref o])) _ _ _
  refine wpAny_pure ?_
  exact updateFrom_dictH (A := A.in1) .none hu hne hoS d0 d1 (.inr ⟨fun x hx => let ⟨b, e, c⟩ := hty x hx; ⟨b, keep _ _ e, c⟩, hap⟩) (by simpa using hsz) fun h' hd' _ sb => ⟨rfl, hq h' hd' sb⟩
/-! ### dict(..) -/
/-- pairs as they stand -/
def PZ (K : PySem.W.Frag) (ι : List Addr) (H : Hp) : List (PV × PV) → List (Value × Value) → Prop
  | [], ps => ps = []
  | q :: r, ps => ∃ x y u t r', ps = (u, t) :: r' ∧ RV K ι H q.1 x ∧ RelV x u ∧ RV K ι H q.2 y ∧ RelV y t ∧ PZ K ι H r r'
theorem PZ.length {K : PySem.W.Frag} : ∀ {kvs : List (PV × PV)} {ps : List (Value × Value)}, PZ K ι H kvs ps → ps.length = kvs.length
  | [], _, h => by cases (show _ = [] from h); rfl
  | _ :: _, _, ⟨_, _, _, _, _, e, _, _, _, _, r⟩ => by subst e; simp [r.length]
theorem pairs_at (I : Inv X pins σ H s) : ∀ {xs : List PV} {kvs : List (PV × PV)} {vs : List V} {its : List Value}, pairsOf xs = some kvs → RVs X.K ι H xs vs → Vals vs its →
    ∃ (ts : List Addr) (ps : List (Value × Value)), ts.length = ps.length ∧ its.length = ps.length ∧ PZ X.K ι H kvs ps ∧ ∀ (j : Nat) k v, ps[j]? = some (k, v) → its[j]? = some (.ref (ts.getD j 0)) ∧ PairAt s.heap (ts.getD j 0) k v
  | [], kvs, vs, its, e, r, rv => by
    cases e
    cases (show vs = [] from r)
    cases rv
    exact ⟨[], [], rfl, rfl, rfl, fun j k v h => by simp at h⟩
  | x :: xs, kvs, vs, its, e, r, rv => by
    obtain ⟨v, vr, rfl, r1, r2⟩ := r
    cases rv with
    | cons q1 q2 =>
      rename_i u us
      unfold pairsOf at e
      split at e
      · rename_i hh; cases hh
      · rename_i k' v' r' hh
        cases hh
        cases em : pairsOf xs with
        | none => rw [em] at e; cases e
        | some kr =>
          rw [em] at e
          cases e
          obtain ⟨ts, ps, l1, l2, z, g⟩ := pairs_at I em r2 q2
          obtain ⟨a, ws, rfl, sq, rk, zs, rfl, rk1, rv', zs', rfl, rk2, rfl⟩ := r1
          obtain rfl : u = Value.ref a := q1
          obtain ⟨its', k1, t1, _⟩ := I.tuple sq
          cases k1 with
          | cons p1 p2 =>
            cases p2 with
            | cons p3 p4 =>
              cases p4
              rename_i uk uv
              refine ⟨a :: ts, (uk, uv) :: ps, by simp [l1], by simp [l2], ⟨_, _, _, _, _, rfl, rk1, p1, rk2, p3, z⟩, fun j k v h => ?_⟩
              cases j with
              | zero =>
                simp only [List.getElem?_cons_zero, Option.some.injEq, Prod.mk.injEq] at h
                obtain ⟨rfl, rfl⟩ := h
                exact ⟨rfl, .inl (tup_is' t1)⟩
              | succ j =>
                simpa using g j k v (by simpa using h)
      · cases e
theorem pz_leaf {P : Program} {w : World} {K : PySem.W.Frag} : ∀ {kvs : List (PV × PV)} {ps : List (Value × Value)}, PZ K ι H kvs ps → (∀ q ∈ kvs, PV.keyOk q.1 = true ∧ PV.isTup q.1 = false) →
    ∃ ls, RL K ι H kvs ls ∧ ls.length = ps.length ∧ (∀ k ∈ ls.map (·.1), ∃ q ∈ kvs, k = keyL q.1) ∧ ∀ (i : Nat) key v, ps[i]? = some (key, v) → ∃ k, ls[i]? = some (k, v) ∧ (pKind P w).is k key = true
  | [], ps, h, _ => by
    cases (show ps = [] from h)
    exact ⟨[], rfl, rfl, fun k hk => by simp at hk, fun i key v h => by simp at h⟩
  | q :: r, ps, h, hk => by
    obtain ⟨x, y, u, t, r', rfl, a, b, c, d, z⟩ := h
    obtain ⟨ls, g1, g2, g3, g4⟩ := pz_leaf (P := P) (w := w) z fun q' hq => hk q' (by simp [hq])
    obtain ⟨k1, k2⟩ := hk q (by simp)
    refine ⟨(keyL q.1, t) :: ls, ⟨y, t, ls, rfl, k1, k2, c, d, g1⟩, by simp [g2], fun k hk' => ?_, fun i key v e => ?_⟩
    · simp only [List.map_cons, List.mem_cons] at hk'
      rcases hk' with rfl | hk'
      · exact ⟨q, by simp, rfl⟩
      · obtain ⟨q', m, e⟩ := g3 k hk'
        exact ⟨q', by simp [m], e⟩
    · cases i with
      | zero =>
        simp only [List.getElem?_cons_zero, Option.some.injEq, Prod.mk.injEq] at e
        obtain ⟨rfl, rfl⟩ := e
        exact ⟨_, rfl, leaf_is k1 k2 a b⟩
      | succ i => simpa using g4 i key v (by simpa using e)
theorem pz_tup {K : PySem.W.Frag} : ∀ {kvs : List (PV × PV)} {ps : List (Value × Value)}, PZ K ι H kvs ps → (∀ q ∈ kvs, PV.keyOk q.1 = true ∧ PV.isTup q.1 = true ∧ PV.deep q.1 ≤ 8) →
    ∃ ls, RN K ι H kvs ls ∧ ls.length = ps.length ∧ (∀ k ∈ ls.map (·.1), ∃ q ∈ kvs, k = keyN q.1) ∧ ∀ (i : Nat) key v, ps[i]? = some (key, v) → ∃ k b, ls[i]? = some (k, b, v) ∧ key = .ref b
  | [], ps, h, _ => by
    cases (show ps = [] from h)
    exact ⟨[], rfl, rfl, fun k hk => by simp at hk, fun i key v h => by simp at h⟩
  | q :: r, ps, h, hk => by
    obtain ⟨x, y, u, t, r', rfl, a, b, c, d, z⟩ := h
    obtain ⟨ls, g1, g2, g3, g4⟩ := pz_tup z fun q' hq => hk q' (by simp [hq])
    obtain ⟨k1, k2, k3⟩ := hk q (by simp)
    have hx : ∃ a', x = .ref a' := by
      cases hq : q.1 with
      | tup zs => rw [hq] at a; obtain ⟨a', _, e, _⟩ := a; exact ⟨a', e⟩
      | _ => rw [hq] at k2; cases k2
    obtain ⟨a', rfl⟩ := hx
    obtain rfl : u = Value.ref a' := b
    refine ⟨(keyN q.1, a', t) :: ls, ⟨a', y, t, ls, rfl, k1, k2, k3, a, c, d, g1⟩, by simp [g2], fun k hk' => ?_, fun i key v e => ?_⟩
    · simp only [List.map_cons, List.mem_cons] at hk'
      rcases hk' with rfl | hk'
      · exact ⟨q, by simp, rfl⟩
      · obtain ⟨q', m, e⟩ := g3 k hk'
        exact ⟨q', by simp [m], e⟩
    · cases i with
      | zero =>
        simp only [List.getElem?_cons_zero, Option.some.injEq, Prod.mk.injEq] at e
        obtain ⟨rfl, rfl⟩ := e
        exact ⟨_, _, rfl, rfl⟩
      | succ i => simpa using g4 i key v (by simpa using e)
theorem look_notin {k : PV} : ∀ {kvs : List (PV × PV)}, look k kvs = none → ∀ q ∈ kvs, q.1 ≠ k
  | [], _, q, hq => by simp at hq
  | p :: r, h, q, hq => by
    obtain ⟨k', v'⟩ := p
    unfold VI.look at h
    split at h
    · cases h
    · rename_i hb
      rcases List.mem_cons.mp hq with rfl | hq
      · exact fun e => hb (beq_iff.mpr e)
      · exact look_notin h q hq
theorem rl_nd {K : PySem.W.Frag} : ∀ {kvs : List (PV × PV)} {ls : List (Leaf × Value)}, RL K ι H kvs ls → distK kvs = true → (∀ q ∈ kvs, PV.keyOk q.1 = true ∧ PV.isTup q.1 = false) → (ls.map (·.1)).Nodup ∧ ∀ k ∈ ls.map (·.1), ∃ q ∈ kvs, k = keyL q.1
  | [], _, r, _, _ => by cases (show _ = [] from r); simp
  | q :: kvs, _, ⟨v, u, r, e, a, b, c, d, f⟩, hd, hk => by
    subst e
    unfold distK at hd
    rw [Bool.and_eq_true] at hd
    obtain ⟨i1, i2⟩ := rl_nd f hd.2 fun q' hq => hk q' (by simp [hq])
    refine ⟨List.nodup_cons.mpr ⟨fun hm => ?_, i1⟩, fun k hm => ?_⟩
    · obtain ⟨q', m, e⟩ := i2 _ hm
      exact look_notin (by simpa using hd.1) q' m (keyL_inj a (hk q' (by simp [m])).1 b (hk q' (by simp [m])).2 e).symm
    · simp only [List.map_cons, List.mem_cons] at hm
      rcases hm with rfl | hm
      · exact ⟨q, by simp, rfl⟩
      · obtain ⟨q', m, e⟩ := i2 k hm
        exact ⟨q', by simp [m], e⟩
theorem rn_nd {K : PySem.W.Frag} : ∀ {kvs : List (PV × PV)} {ls : List (NestedKey × Addr × Value)}, RN K ι H kvs ls → distK kvs = true → (∀ q ∈ kvs, PV.keyOk q.1 = true) → (ls.map (·.1)).Nodup ∧ ∀ k ∈ ls.map (·.1), ∃ q ∈ kvs, k = keyN q.1
  | [], _, r, _, _ => by cases (show _ = [] from r); simp
  | q :: kvs, _, ⟨aa, v, u, r, e, a, b, dp, rk, c, d, f⟩, hd, hk => by
    subst e
    unfold distK at hd
    rw [Bool.and_eq_true] at hd
    obtain ⟨i1, i2⟩ := rn_nd f hd.2 fun q' hq => hk q' (by simp [hq])
    refine ⟨List.nodup_cons.mpr ⟨fun hm => ?_, i1⟩, fun k hm => ?_⟩
    · obtain ⟨q', m, e⟩ := i2 _ hm
      exact look_notin (by simpa using hd.1) q' m (keyN_inj a (hk q' (by simp [m])) e).symm
    · simp only [List.map_cons, List.mem_cons] at hm
      rcases hm with rfl | hm
      · exact ⟨q, by simp, rfl⟩
      · obtain ⟨q', m, e⟩ := i2 k hm
        exact ⟨q', by simp [m], e⟩
theorem rn_is (I : Inv X pins σ H s) : ∀ {kvs : List (PV × PV)} {xs : List (NestedKey × Addr × Value)}, RN X.K ι H kvs xs → ∀ x ∈ xs, (nestedKind X.prog X.w).is s.heap x.1 x.2.1
  | [], _, r, x, hx => by cases (show _ = [] from r); simp at hx
  | _ :: _, _, ⟨aa, v, u, r', e, a1, a2, a3, a4, a5, a6, f⟩, x, hx => by
    subst e
    rcases List.mem_cons.mp hx with e | hx
    · subst e
      exact ⟨key_is I a1 a4 rfl, Nat.le_trans (keyN_depth _) a3⟩
    · exact rn_is I f x hx
/-- the kind of all keys -/
theorem fit_kind {kvs : List (PV × PV)} (h : kvs.all (fun q => keyFit kvs q.1) = true) : (∀ q ∈ kvs, PV.keyOk q.1 = true ∧ PV.isTup q.1 = false) ∨ (∀ q ∈ kvs, PV.keyOk q.1 = true ∧ PV.isTup q.1 = true ∧ PV.deep q.1 ≤ 8) := by
  cases kvs with
  | nil => exact .inl fun q hq => by simp at hq
  | cons p r =>
    have all := List.all_eq_true.mp h
    cases hp : PV.isTup p.1 with
    | false =>
      refine .inl fun q hq => ?_
      obtain ⟨a, _, c⟩ := keyFit_ok (all q hq)
      rcases c with c | ⟨k', v', r', e, et⟩
      · cases c
      · cases e
        exact ⟨a, by rw [← et]; exact hp⟩
    | true =>
      refine .inr fun q hq => ?_
      obtain ⟨a, b, c⟩ := keyFit_ok (all q hq)
      rcases c with c | ⟨k', v', r', e, et⟩
      · cases c
      · cases e
        exact ⟨a, by rw [← et]; exact hp, b⟩
theorem dict_new {kvs : List (PV × PV)} {Q : VK} {h' : Heap} {tk : Nat} {o : Obj} (I : Inv X pins σ H s) (R : Rx X cls ι h H) (hw : Wx X cls (RV X.K) W1 (newD kvs h) ι H Q) (hk : ∀ b u, s.heap.get? b = some u → h'.get? b = some u) (ho : h'.get? s.heap.objs.size = some o)
    (rd : ∀ {ι' H'}, Le ι ι' → Kp H H' → RD X.prog X.w X.K ι' H' s.heap.objs.size kvs o) : EP X pins σ Q (.ref s.heap.objs.size) { s with heap := h', toks := tk } := by
  have hf : H s.heap.objs.size = none := I.hok.fresh (Nat.le_refl _)
  have sm : Same H (upd H s.heap.objs.size (.ext (Is s.heap.objs.size o))) := same_upd hf
  have l : Le ι (ι ++ [s.heap.objs.size]) := ⟨_, rfl⟩
  refine ⟨.ref s.heap.objs.size, _, I.laid (t' := tk) hk (Nat.le_refl _) (ext_ok ho), rfl, hw _ _ _ l (.same sm) (R.new hf sm ⟨o, upd_same, rd l (.same sm)⟩) ⟨_, by rw [← R.len]; simp, rfl⟩⟩
theorem nd_one {α β : Type} {f : α → β} : ∀ {ls : List α}, ls.length ≤ 1 → (ls.map f).Nodup
  | [], _ => List.nodup_nil
  | [_], _ => by simp
  | _ :: _ :: _, h => by simp at h
theorem c_dict (hc : X.calm = true) (hu : X.A.units + 64 < cLine) : Call1 X cls (.type "dict") (vB1 .dict) := by
  intro W pins s σ H ι h p x us Q I R rx ru hw
  cases p with
  | ref n =>
    simp only [vB1] at hw
    have big : (s.heap.objs.size == sysModules) = false := beq_eq_false_iff_ne.mpr (Nat.ne_of_gt I.big)
    split at hw
    · rename_i xs lk e
      split at hw
      · rename_i kvs ek
        split at hw
        · rename_i hz
          rw [Bool.and_eq_true] at hz
          obtain ⟨a, vs, rfl, hq, rv⟩ := vlist_inv R e rx
          obtain ⟨its, k1, t1, l1⟩ := I.list hq
          obtain ⟨ts, ps, g1, g2, pz, g3⟩ := pairs_at I ek rv k1
          rw [Vals.ref1 ru]
          have hn : ps.length ≤ sizeLine := by rw [← g2, ← k1.length]; exact l1
          have hkl : kvs.length ≤ sizeLine := by rw [← pz.length]; exact hn
          have ok : PlainSeq "list" s.heap a its.toArray ∧ PairItems s.heap its.toArray (fun j => ts.getD j 0) ps := ⟨t1, by rw [List.size_toArray]; exact g2, fun j k v hj => by
            obtain ⟨q1, q2⟩ := g3 j k v hj
            exact ⟨by simpa using q1, q2⟩⟩
          have hh : X.A.handled = none := I.ok.hd hc
          rcases fit_kind hz.2 with fk | fk
          · obtain ⟨ls, r1, r2, _, r3⟩ := pz_leaf (P := X.prog) (w := X.w) pz fk
            obtain ⟨nd, _⟩ := rl_nd r1 hz.1 fk
            refine call_dict_pairs (knd := pKind X.prog X.w) (kvs := ls) (PairArg.list a its.toArray _ ps) hh ok ⟨r2, r3⟩ hn fun h' tk hd' hk => ?_
            rw [merged_nil_of_nodup ls nd] at hd'
            obtain ⟨o, es, ep, e1, e2⟩ := hd'
            exact dict_new I R hw (fun b u q => hk b u (by simp) q) e1 fun l kp => ⟨hkl, big, .inl ⟨ls, r1.mono l kp, fun hp e => ⟨o, es, ep, e, e2⟩⟩⟩
          · obtain ⟨ls, r1, r2, _, r3⟩ := pz_tup pz fk
            obtain ⟨nd, _⟩ := rn_nd r1 hz.1 fun q hq => (fk q hq).1
            refine call_dict_pairsH (knd := nestedKind X.prog X.w) (ps := ls) (PairArg.list a its.toArray _ ps) hh (show X.A.units + 1 + 1 + 8 < cLine by omega) ok ⟨r2, r3⟩ (fun h' hk' y hy => ?_) hn fun h' tk hd' hk => ?_
            · obtain ⟨z1, z2⟩ := rn_is I r1 y hy
              exact ⟨NestedIs.at (fun b o vs m hb _ => hk' b o (Nat.ne_of_lt (Heap.lt_size hb)) (by simp) hb) _ _ z1, z2⟩
            · rw [storedAllH_nil_of_nodup ls nd] at hd'
              obtain ⟨o, es, ep, e1, e2, e3, e4, e5, e6⟩ := hd'
              exact dict_new I R hw (fun b u q => hk b u (by simp) q) e1 fun l kp => ⟨hkl, big, .inr ⟨ls, es, ep, r1.mono l kp, e2, e3, e4, nd⟩⟩
        · exact hw.elim
      · exact hw.elim
    · rename_i kvs lk e
      split at hw
      · rename_i hz
        obtain ⟨a, ea, rfl, ro⟩ := R.at e rx
        obtain ⟨o, ho, rd⟩ := dct_at I ro
        rw [Vals.ref1 ru]
        have hal : s.heap.objs.size ≠ a := fun z => absurd (Heap.lt_size ho) (by rw [z]; exact Nat.lt_irrefl _)
        have keep : ∀ {h' : Heap}, Heap.SameBut s.heap.objs.size (s.heap.push { cls := .type "dict", data := .dict #[] }) h' → ∀ b u, s.heap.get? b = some u → h'.get? b = some u := fun sb b u q => (sb.2 b (Nat.ne_of_lt (Heap.lt_size q))).trans (Heap.get?_push_of_some _ q)
        obtain ⟨q1, q2, q3⟩ := id rd
        rcases q3 with ⟨ls, r1, r2⟩ | ⟨ls, es, ep, r1, e1, e2, e3, e4⟩
        · refine kt_call_dict (knd := pKind X.prog X.w) q2 (r2 _ ho) (by rw [rl_len r1]; exact q1) fun h' hd' sb => ?_
          obtain ⟨o2, es, ep, f1, f2⟩ := hd'
          exact dict_new (tk := s.toks) I R hw (keep sb) f1 fun l kp => ⟨q1, big, .inl ⟨ls, r1.mono l kp, fun hp e => ⟨o2, es, ep, e, f2⟩⟩⟩
        · have nd : NDict X.prog X.w X.K ι H kvs o ls := ⟨r1, ⟨es, ep, e1, e2, e3⟩, e4⟩
          have one : ls.length ≤ 1 := by
            unfold copyK at hz
            rw [Bool.or_eq_true] at hz
            rw [rn_len r1]
            rcases hz with hz | hz
            · exact Nat.le_of_ble_eq_true hz
            · cases kvs with
              | nil => simp
              | cons q r =>
                exfalso
                obtain ⟨_, _, _, _, _, _, t, _⟩ := r1
                have := List.all_eq_true.mp hz q (by simp)
                rw [t] at this
                cases this
          have d1 := nd.of I ho
          refine dict_copyH (knd := nestedKind X.prog X.w) (show X.A.units + 1 + 1 + 8 < cLine by omega) q2 d1 (fun h' hk' y hy => ?_) (fun y hy => ?_) ?_ (by rw [rn_len r1]; exact q1) fun h' hd' sb => ?_
          · obtain ⟨z1, z2⟩ := rn_is I r1 y hy
            exact ⟨NestedIs.at (fun b o vs m hb _ => hk' b o hb) _ _ z1, z2⟩
          · obtain ⟨z1, _⟩ := rn_is I r1 y hy
            have : ∀ {k : NestedKey} {b : Addr}, NestedIs s.heap k (.ref b) → s.TypeIs (.ref b) "tuple" := fun z => by
              cases z
              rename_i q1 q2 q3 q4
              exact ⟨_, by assumption, by assumption⟩
            exact this z1
          · exact nd_one one
          · rw [storedAllH_nil_of_nodup ls e4] at hd'
            obtain ⟨o2, es2, ep2, f1, f2, f3, f4, f5, f6⟩ := hd'
            exact dict_new (tk := s.toks) I R hw (keep sb) f1 fun l kp => ⟨q1, big, .inr ⟨ls, es2, ep2, r1.mono l kp, f2, f3, f4, e4⟩⟩
      · exact hw.elim
    · exact hw.elim
  | _ => exact False.elim hw
end
end VI
set_option autoImplicit false
set_option linter.all false
set_option Elab.async false
set_option maxRecDepth 100000
set_option maxHeartbeats 4000000
/-! VI over the hand layer: what the checker lets pass is so. -/
namespace VI
open PySem PySem.Spec PyProof.Rows L2
/-- the module as the tables say -/
structure GF (P : Program) (w : World) (K : PySem.W.Frag) (mg : Str → Option Value) (base : Heap) (cls ad : Nat → Addr) (T : Tb) (k : Nat) (G : Gc) : Prop where
  fn : ∀ x f, G.fn.lookup x = some f → mg x = some (.ref (ad f)) ∧ FI P w K mg base cls T k f (ad f)
  cl : ∀ x c, G.cl.lookup x = some c → mg x = some (.ref (cls c)) ∧ ∀ f, T.init c = some f → Mk K (cls c) (ad f) ∧ Cls K (cls c) ∧ FI P w K mg base cls T k f (ad f)
  kw : ∀ c kw f, G.kw.lookup c = some kw → T.init c = some f → FK P w K mg base cls T k f (ad f) kw
  co : ∀ x i, G.co.lookup x = some i → ∃ v u y, T.con i = some v ∧ mg x = some u ∧ RelV y u ∧ ∀ ι H, RV K ι H v y
  gd : ∀ x g, G.gd.lookup x = some g → ∃ d kvs, T.gd g = some kvs ∧ mg x = some (.ref d) ∧ GD K w d kvs
  fr : ∀ x, G.fr.contains x = true → mg x = none
  mm : MI P w K mg base cls T k ad
  pl : ∀ c f, T.plain c f = true → NoAttr K (cls c) f
  pr : ∀ c f, T.prop c f = none
  gi : ∀ c, T.meth c "__getitem__" = none
  kit : KitF K cls T
  eq : EqF K cls T
/-- where one stands, as the checker has it -/
structure XF (cls ad : Nat → Addr) (T : Tb) (k : Nat) (G : Gc) (X : Cx) (C : CC) : Prop where
  N : X.N = C.N
  sc : X.env.scope = C.sc
  kd : C.sc.kind = .function
  nd : C.N.Nodup
  calm : X.calm = true
  room : Room (k + 1) X.A
  fn : ∀ x, fnC C x = true → X.fn x = true ∨ C.sc.names.lookup x = some .local
  xe : X.xe = fun _ _ => False
  gf : GF X.prog X.w X.K X.mg X.base cls ad T k G
section
variable {cls ad : Nat → Addr} {T : Tb} {k : Nat} {G : Gc} {X : Cx} {C : CC}
theorem XF.hu (F : XF cls ad T k G X C) : X.A.units + 64 < cLine := F.room.units
theorem XF.hu5 (F : XF cls ad T k G X C) : X.A.units + 65 < cLine := by have := F.room.un; omega
theorem XF.hu0 (F : XF cls ad T k G X C) : X.A.units < cLine := by have := F.room.un; omega
theorem XF.rm (F : XF cls ad T k G X C) : Room k X.A := F.room.mono (Nat.le_succ k)
theorem okN_d {x : Str} (h : okN x = true) : (x == ("__debug__" : Str)) = false ∧ (x == ("__classdict__" : Str)) = false ∧ x ≠ "__name__" := by
  unfold okN at h
  simp only [Bool.and_eq_true, Bool.not_eq_true'] at h
  exact ⟨h.1.1, h.1.2, fun e => by rw [e] at h; simp at h⟩
theorem glo_of (F : XF cls ad T k G X C) {x : Str} (h : gloN C x = true) : Gl X x ∧ (x == ("__debug__" : Str)) = false ∧ x ≠ "__name__" := by
  unfold gloN at h
  rw [Bool.and_eq_true] at h
  exact ⟨glo_ok (by rw [F.sc]; exact h.1), (okN_d h.2).1, (okN_d h.2).2.2⟩
theorem free_of (F : XF cls ad T k G X C) {n x : Str} (h : freeC G C n x = true) : x = n ∧ Gl X x ∧ (x == ("__debug__" : Str)) = false ∧ x ≠ "__name__" ∧ X.mg x = none := by
  unfold freeC at h
  simp only [Bool.and_eq_true, decide_eq_true_eq] at h
  obtain ⟨a, b, c⟩ := glo_of F h.1.2
  exact ⟨h.1.1, a, b, c, F.gf.fr _ h.2⟩
theorem XF.blk (F : XF cls ad T k G X C) {scope : Scope} (hk : scope.kind = .function) : Blk X scope fun Y => XF cls ad T k G Y (relC C scope) := by
  intro s H D cl fp
  refine ⟨F.N, ?_, ?_, F.nd, F.calm, F.room, ?_, rfl, F.gf⟩
  · show relabel scope X.env = relS scope C.sc
    rw [← F.sc]
    rfl
  · exact hk
  · intro x h
    unfold fnC relC at h
    simp only [Bool.or_eq_true] at h
    rcases h with h | h
    · exact .inr (lcl_ok h)
    · left
      show (scope.names.lookup x == some .cell) = true
      split at h
      · rename_i e; rw [e]; rfl
      · cases h
theorem bin_ok {o : BO} {op : Operator} (h : binC o op = true) : Op2 X cls (binaryOp op) (fun h => vBin o h) := by
  cases o <;> cases op <;> first | exact absurd h Bool.false_ne_true | exact v_add | exact v_sub | exact v_mul | exact v_mod | exact v_fdiv | exact v_pow
theorem cmp_ok (F : XF cls ad T k G X C) {o : CO} {op : CmpOp} (h : cmpC o op = true) : Op2B X cls (compareOp op) (fun h => vCmp o h) := by
  cases o <;> cases op <;> first | exact absurd h Bool.false_ne_true | exact v_eq F.hu | exact v_ne F.hu | exact v_lt F.hu0 | exact v_le | exact v_gt | exact v_ge | exact v_is | exact v_nis | exact v_in F.hu5 | exact v_nin F.hu5
theorem lit_ok {v : PV} {c : Const} {kk : Nat} {pos : Pos} (h : litC v c = true) : PE X (.Constant c kk pos) (tE X cls W0 fun _ h => .ok v h) := by
  unfold litC at h
  split at h
  · exact ve_lit pe_non fun _ _ => rfl
  · rw [beq_iff_eq] at h; subst h; exact ve_lit pe_bl fun _ _ => rfl
  · rw [decide_eq_true_eq] at h; subst h; exact ve_lit pe_int fun _ _ => rfl
  · rw [decide_eq_true_eq] at h; subst h; exact ve_lit pe_str fun _ _ => rfl
  · cases h
theorem plainIx_ok {e : Expr} (h : isSlice e = false) : PlainIx e := by
  cases e <;> first | exact fun _ _ => rfl | exact absurd h (by simp [isSlice])
theorem call1_no {g : Value} {vf : VH → PV → Res PV} (h : ∀ x y, vf x y = .no) : Call1 X cls g vf := fun W pins s σ H ι hh p x us Q I R rx ev hw => by
  rw [h] at hw
  exact hw.elim
theorem c_lenT (F : XF cls ad T k G X C) {a : Expr} {ea : EX} {x : Str} {p pos : Pos} (hg : Gl X x) (hm : X.mg x = none) (hx : x = "len") (hdb : (x == ("__debug__" : Str)) = false) (ha : PE X a (tE X cls W0 ea)) (hs : noStar [a] = true) :
    PE X (.Call (.Name x p) [a] [] pos) (tE X cls W0 fun r h => (ea r h).bind fun v h1 => T.vB .len h1 v) := by
  subst hx
  have hc : ∀ (pins : List (Addr × Obj)) (s : Shared) (σ : L2.St) (H : Hp) (ι : List Addr) (h : VH) (q : PV) (y : V) (us : List Value) (Q : VK), Inv X pins σ H s → Rx X cls ι h H → RV X.K ι H q y → Vals [y] us → Wx X cls (RV X.K) (W0 σ) (T.vB .len h q) ι H Q →
      wpAny (model X.prog X.w) X.A (call (.builtin "len") us) (EP X pins σ Q) X.xe s := by
    intro pins s σ H ι h q y us Q I R ry ev hw
    simp only [Tb.vB] at hw
    split at hw
    · exact c_lenO F.gf.mm F.room I R ry ev (fun _ _ _ _ _ z => z) hw
    · exact c_len (W0 σ) pins s σ H ι h q y us Q I R ry ev hw
  refine ⟨fun pins s σ H Q I ⟨ι, ρ, h, R, rr, hw⟩ => ?_⟩
  refine wpAny_Call_Name_kw (ld_blt I hg hm boot_len ?_ (by decide) hdb)
  refine blt_with (.inl ⟨_, rfl⟩) hs ?_
  have hw' : Wx X cls (RV X.K) (W0 σ) (((fun r h => (ea r h).bind fun x h1 => .ok [x] h1 : AX) ρ h).bind fun vs h1 => match vs with
    | [v] => T.vB .len h1 v
    | _ => .no) ι H Q := by
    dsimp only at hw ⊢
    cases hr : ea ρ h with
    | ok v h1 => rw [hr] at hw; exact hw
    | ex c p h1 => rw [hr] at hw; exact hw
    | no => rw [hr] at hw; exact hw
  refine runA (pos := pos) (hW0 σ) (one_arg hW0 ha hs) I R rr hw' fun us s1 ι1 h1 H1 ps vs I1 l1 k1 R1 rr1 rv ev hw1 => ?_
  match ps, rv, hw1 with
  | [q], rv, hw1 =>
    obtain ⟨y, _, rfl, ry, rfl⟩ := rv
    exact hc pins s1 σ H1 ι1 h1 q y us Q I1 R1 ry ev hw1
  | [], _, hw1 => exact hw1.elim
  | _ :: _ :: _, _, hw1 => exact hw1.elim
theorem b1_ok (F : XF cls ad T k G X C) {b : B1} {a : Expr} {ea : EX} {x : Str} {p pos : Pos} (h : freeC G C (b1N b) x = true) (ha : PE X a (tE X cls W0 ea)) (hs : noStar [a] = true) :
    PE X (.Call (.Name x p) [a] [] pos) (tE X cls W0 fun r h => (ea r h).bind fun v h1 => T.vB b h1 v) := by
  obtain ⟨e, hg, hd, hn, hm⟩ := free_of F h
  have go : ∀ {g : Value} {vf : VH → PV → Res PV}, Call1 X cls g vf → IsBlt g → bootBuiltins x = some g → PE X (.Call (.Name x p) [a] [] pos) (tE X cls W0 fun r h => (ea r h).bind fun v h1 => vf h1 v) := fun hc hb hv => ve_b1 hW0 hc hb hg hm hv hn hd ha hs
  cases b with
  | len => exact c_lenT F hg hm e hd ha hs
  | max => subst e; exact go (c_max F.calm F.hu) (.inl ⟨_, rfl⟩) (by decide +kernel)
  | min => subst e; exact go (c_min F.calm F.hu) (.inl ⟨_, rfl⟩) (by decide +kernel)
  | sum => subst e; exact go (c_sum F.calm) (.inl ⟨_, rfl⟩) (by decide +kernel)
  | all => subst e; exact go (c_all F.calm) (.inl ⟨_, rfl⟩) (by decide +kernel)
  | any => subst e; exact go (c_any F.calm) (.inl ⟨_, rfl⟩) (by decide +kernel)
  | list => subst e; exact go (c_list F.calm) (.inr ⟨_, rfl⟩) (by decide +kernel)
  | tuple => subst e; exact go c_tuple (.inr ⟨_, rfl⟩) (by decide +kernel)
  | dict => subst e; exact go (c_dict F.calm F.hu) (.inr ⟨_, rfl⟩) (by decide +kernel)
  | int => subst e; exact go c_int (.inr ⟨_, rfl⟩) (by decide +kernel)
  | abs => subst e; exact go c_abs (.inl ⟨_, rfl⟩) (by decide +kernel)
  | str => subst e; exact go (g := .type "str") (call1_no fun _ _ => rfl) (.inr ⟨_, rfl⟩) (by decide +kernel)
  | sorted => subst e; exact go (c_sorted F.calm) (.inl ⟨_, rfl⟩) (by decide +kernel)
theorem ty_ok (F : XF cls ad T k G X C) {t : TyK} {x : Str} {p : Pos} (h : tyC G C t x = true) : PE X (.Name x p) (tC (tyW cls t)) := by
  have go : ∀ {n : String}, freeC G C (PySem.Str.ofString n) x = true → bootBuiltins (PySem.Str.ofString n) = some (.type n) → PE X (.Name x p) (tC (.ty n)) := fun h hv => by
    obtain ⟨e, hg, hd, hn, hm⟩ := free_of F h
    exact pe_bltn hg hm (by rw [e]; exact hv) rfl hn hd
  cases t with
  | own c =>
    unfold tyC at h
    simp only [Bool.and_eq_true, decide_eq_true_eq] at h
    obtain ⟨hg, hd, hn⟩ := glo_of F h.2
    exact pe_glob hg (F.gf.cl _ _ h.1).1 rfl hd
  | int => exact go h (by decide +kernel)
  | bool => exact go h (by decide +kernel)
  | str => exact go h (by decide +kernel)
  | tuple => exact go h (by decide +kernel)
  | list => exact go h (by decide +kernel)
  | dict => exact go h (by decide +kernel)
end
end VI
set_option autoImplicit false
set_option linter.all false
set_option Elab.async false
set_option maxRecDepth 100000
set_option maxHeartbeats 4000000
/-! VI over the hand layer: what the checker lets pass is so: expressions. -/
namespace VI
open PySem PySem.Spec PyProof.Rows L2
section
variable {cls ad : Nat → Addr} {T : Tb} {k : Nat} {G : Gc} {X : Cx} {C : CC}
theorem tys_pa (F : XF cls ad T k G X C) : ∀ {ks : List TyK} {ts : List Expr}, tysC G C ks ts = true → PA X ts (fun _ H Q => Q (ks.map (tyW cls)) H)
  | [], [], _ => pa_nil
  | [], _ :: _, h => by simp [tysC] at h
  | _ :: _, [], h => by simp [tysC] at h
  | t :: ks, e :: ts, h => by
    unfold tysC at h
    split at h
    · rename_i heq; simp at heq
    · rename_i x p es h1 h2
      cases h1
      cases h2
      rw [Bool.and_eq_true] at h
      exact pa_cons (ty_ok F h.1) (tys_pa F h.2) rfl
    · cases h
theorem tys_ok (F : XF cls ad T k G X C) {ks : List TyK} {ts : List Expr} {kk : Nat} {pos : Pos} (h : tysC G C ks ts = true) (hl : ks.length ≤ 15) : PE X (.Tuple ts kk pos) (fun _ H Q => ∀ t, H t = none → Q (.ref t) (upd H t (.tup (ks.map (tyW cls))))) :=
  ⟨fun pins s σ H Q I q => (pe_tup (tys_pa F h)).run pins s σ H Q I ⟨by rw [List.length_map, sizeLine_eq]; omega, q⟩⟩
theorem noStar1 {x : Expr} {r : List Expr} (h : noStar [x] = true) {env : Env} : starEach (x :: r) env = (false, eval x env) :: starEach r env := by
  cases x <;> first | rfl | exact absurd h (by simp [noStar])
theorem isStarTup {ts : I} {es : List Expr} (h : noStar es = true) {env : Env} : (assignEach es env).findIdx? (·.1) = none ∧ (assignEach es env).length = es.length := by
  induction es with
  | nil => exact ⟨rfl, rfl⟩
  | cons e es ih =>
    obtain ⟨i1, i2⟩ := ih (star_rest h)
    have : assignEach (e :: es) env = (false, assign e env) :: assignEach es env := by
      cases e <;> first | rfl | exact absurd h Bool.false_ne_true
    rw [this]
    refine ⟨?_, by simp [i2]⟩
    rw [List.findIdx?_cons]
    simp [i1]
theorem asg_cons {e : Expr} {es : List Expr} {env : Env} (h : noStar (e :: es) = true) : (assignEach (e :: es) env).map (·.2) = assign e env :: (assignEach es env).map (·.2) := by
  cases e <;> first | rfl | exact absurd h Bool.false_ne_true
theorem comp_own {C : CC} {scope : Scope} {own : List Nat} {t : I} {iter : Expr} (h : compC C scope own t iter = true) :
    BlkOk C.N C.sc scope (ownN C own) ∧ (ownN C own).map (·.2) = own ∧ (∀ j ∈ slG t, j ∈ (ownN C own).map (·.2)) ∧ isSetD iter = false := by
  unfold compC at h
  simp only [Bool.and_eq_true, Bool.not_eq_true'] at h
  have e : (ownN C own).map (·.2) = own := by
    unfold ownN
    rw [List.map_map]
    exact List.map_id own
  refine ⟨blkOk_by h.1.1, e, fun j hj => ?_, h.2⟩
  rw [e]
  have := List.all_eq_true.mp h.1.2 j hj
  simpa using this
theorem blk_kind {C : CC} {scope : Scope} {own : List (Str × Nat)} (h : BlkOk C.N C.sc scope own) : scope.kind = .function := h.kind
theorem dGs_len (T : Tb) {G : Gc} {C : CC} : ∀ (t : I) {es : List Expr}, chkGs G t C es = true → ∀ ps r h, ps.length ≠ es.length → ∀ r' h', dGs T t ps r h ≠ .ok r' h' := by
  intro t
  induction t with
  | nil =>
    intro es hc ps r h hl r' h' e
    simp only [chkGs] at hc
    split at hc
    · cases ps with
      | nil => exact absurd rfl hl
      | cons a b => exact absurd e (by simp [dGs])
    · cases hc
  | cons t ts _ ih =>
    intro es hc ps r h hl r' h' e
    simp only [chkGs] at hc
    split at hc
    · rename_i x es'
      rw [Bool.and_eq_true] at hc
      cases ps with
      | nil => exact absurd e (by simp [dGs])
      | cons a b =>
        simp only [dGs] at e
        cases hd : dG T t a r h with
        | ok r1 h1 =>
          rw [hd] at e
          exact ih hc.2 b r1 h1 (fun z => hl (by simp [z])) r' h' e
        | ex c p h1 => rw [hd] at e; cases e
        | no => rw [hd] at e; cases e
    · cases hc
  | _ => intro es hc; simp [chkGs] at hc
end
end VI
set_option autoImplicit false
set_option linter.all false
set_option Elab.async false
set_option maxRecDepth 100000
set_option maxHeartbeats 8000000
/-! VI over the hand layer: what the checker lets pass is so: the induction. -/
namespace VI
open PySem PySem.Spec PyProof.Rows L2
section
variable {cls ad : Nat → Addr} {T : Tb} {k : Nat} {G : Gc} {X : Cx} {C : CC} {pos : Pos}
/-! ### each case, over its parts -/
theorem e_var (F : XF cls ad T k G X C) {i : Nat} {x : Str} (h : varC C i x = true) : PE X (.Name x pos) (tE X cls W0 (dE T (.var i))) := by
  unfold varC at h
  simp only [Bool.and_eq_true, decide_eq_true_eq] at h
  exact ve_var (by rw [F.N]; exact h.1.1) (vis_ok (by rw [F.sc]; exact h.1.2)) (okN_d h.2).1 (okN_d h.2).2.1
theorem e_con (F : XF cls ad T k G X C) {i : Nat} {x : Str} (h : (decide (G.co.lookup x = some i) && gloN C x) = true) : PE X (.Name x pos) (tE X cls W0 (dE T (.con i))) := by
  simp only [Bool.and_eq_true, decide_eq_true_eq] at h
  obtain ⟨v, u, y, e1, e2, e3, e4⟩ := F.gf.co _ _ h.1
  obtain ⟨a, b, c⟩ := glo_of F h.2
  refine ve_cg (fun r h => ?_) (ve_lit (pe_glob a e2 e3 b) e4)
  show _ = (match T.con i with
    | some v => Res.ok v h
    | none => .no)
  rw [e1]
theorem e_dct (F : XF cls ad T k G X C) {ps : I} {ks : List (Option Expr)} {vs : List Expr} (h : dctC ks vs = true) (h0 : ks ≠ []) (hp : PD2 X cls W0 pos ks vs (dP T ps)) : PE X (.Dict ks vs pos) (tE X cls W0 (dE T (.dct ps))) := by
  unfold dctC at h
  simp only [Bool.and_eq_true] at h
  exact ve_disp F.hu hW0 hp h.1.1 (Nat.eq_of_beq_eq_true h.1.2) h0 (Nat.le_of_ble_eq_true h.2)
theorem e_call (F : XF cls ad T k G X C) {f : Nat} {as : I} {x : Str} {es : List Expr} {p : Pos} (h1 : G.fn.lookup x = some f) (h2 : gloN C x = true) (ha : PA X es (tA X cls W0 (dA T as))) (hn : es = [] → as = .nil) (hs : noStar es = true) : PE X (.Call (.Name x p) es [] pos) (tE X cls W0 (dE T (.call f as))) := by
  obtain ⟨a, b, c⟩ := glo_of F h2
  obtain ⟨m, fi⟩ := F.gf.fn _ _ h1
  cases es with
  | nil => cases hn rfl; exact ve_call0 (fun _ _ _ _ _ _ z => z) fi F.rm a m b
  | cons e es => exact ve_call hW0 (fun _ _ _ _ _ _ z => z) fi F.rm a m b ha hs
theorem e_mk (F : XF cls ad T k G X C) {c : Nat} {as : I} {x : Str} {e : Expr} {es : List Expr} {p : Pos} (h1 : G.cl.lookup x = some c) (h2 : gloN C x = true) (ha : PA X (e :: es) (tA X cls W0 (dA T as))) (hs : noStar (e :: es) = true) : PE X (.Call (.Name x p) (e :: es) [] pos) (tE X cls W0 (dE T (.mk c as))) := by
  obtain ⟨a, b, _⟩ := glo_of F h2
  obtain ⟨m, q⟩ := F.gf.cl _ _ h1
  cases hi : T.init c with
  | some f =>
    obtain ⟨M, hc, fi⟩ := q f hi
    exact ve_mk hW0 (fun _ _ _ _ _ _ z => z) M hc fi F.room hi a m b ha hs
  | none =>
    refine ⟨fun pins s σ H Q I ⟨ι, ρ, h, R, rr, hw⟩ => ?_⟩
    have : ∀ vs h1, T.make c vs h1 = .no := fun vs h1 => by unfold Tb.make; rw [hi]
    simp only [dE, this] at hw
    cases hr : dA T as ρ h with
    | ok v h1 => rw [hr] at hw; exact hw.elim
    | ex c p h1 => rw [hr] at hw; exact hw.elim
    | no => rw [hr] at hw; exact hw.elim
theorem e_mkk (F : XF cls ad T k G X C) {c : Nat} {as kw : I} {x kn : Str} {e v : Expr} {es : List Expr} {p kp : Pos} (h1 : G.cl.lookup x = some c) (hk : G.kw.lookup c = some kn) (h2 : gloN C x = true) (ha : PA X (e :: es) (tA X cls W0 (dA T as))) (hv : PE X v (tE X cls W0 (dE T kw))) (hs : noStar (e :: es) = true) :
    PE X (.Call (.Name x p) (e :: es) [⟨some kn, v, kp⟩] pos) (tE X cls W0 (dE T (.mkk c as kw))) := by
  obtain ⟨a, b, _⟩ := glo_of F h2
  obtain ⟨m, q⟩ := F.gf.cl _ _ h1
  cases hi : T.init c with
  | some f =>
    obtain ⟨M, hc, fi⟩ := q f hi
    exact ve_mkk hW0 (fun _ _ _ _ _ _ z => z) M hc (F.gf.kw _ _ _ hk hi) F.room hi a m b ha hv hs
  | none =>
    refine ⟨fun pins s σ H Q I ⟨ι, ρ, h, R, rr, hw⟩ => ?_⟩
    have : ∀ vs w h1, T.makeK c vs w h1 = .no := fun vs w h1 => by unfold Tb.makeK; rw [hi]
    simp only [dE, this] at hw
    cases hr : dA T as ρ h with
    | ok vs h1 =>
      rw [hr] at hw
      simp only [Res.bind] at hw
      cases hr2 : dE T kw ρ h1 with
      | ok w h2 => rw [hr2] at hw; exact hw.elim
      | ex c p h2 => rw [hr2] at hw; exact hw.elim
      | no => rw [hr2] at hw; exact hw.elim
    | ex c p h1 => rw [hr] at hw; exact hw.elim
    | no => rw [hr] at hw; exact hw.elim
theorem e_mth (F : XF cls ad T k G X C) {m : Str} {o as : I} {x : Expr} {es : List Expr} {ap : Pos} (ho : PE X x (tE X cls W0 (dE T o))) (ha : PA X es (tA X cls W0 (dA T as))) (hn : es = [] → as = .nil) (hs : noStar es = true) (hl : es.length < 30) (hb : bareCall x = false) (hp : lineC ap pos = true) :
    PE X (.Call (.Attribute x m ap) es [] pos) (tE X cls W0 (dE T (.mth m o as))) := by
  cases es with
  | nil => cases hn rfl; exact ve_mth0 hW0 (fun _ _ _ _ _ _ z => z) F.gf.mm F.rm ho (base_ok hb) hp
  | cons e es => exact ve_mth hW0 (fun _ _ _ _ _ _ z => z) F.gf.mm F.rm ho ha hs hl (base_ok hb) hp
theorem kindB_le (h : VH) (x : PV) : kindB h x = 0 ∨ kindB h x = 1 ∨ kindB h x = 2 := by
  cases x <;> try exact .inl rfl
  simp only [kindB]
  split <;> simp
theorem vpop0 (h : VH) (p : PV) : vBM 0 .pop h p [] = .no := by
  cases p <;> first | rfl | skip
  simp only [vBM]
  split <;> first | rfl | (split <;> rfl)
theorem vpop2 (h : VH) (p a b : PV) (c : List PV) : vBM 0 .pop h p (a :: b :: c) = .no := by
  cases p <;> first | rfl | skip
  simp only [vBM]
  split <;> first | rfl | (split <;> rfl)
theorem mb_pop : MB X cls "list.pop" (fun h p ps => vBM 0 .pop h p ps) := by
  intro W1 pins s σ H ι h p x v ps vs us Q I R rx ev rv eu hw
  match ps, rv, hw with
  | [q], rv, hw => exact m_popAt W1 pins s σ H ι h p x v [q] vs us Q I R rx ev rv eu hw
  | [], _, hw =>
    dsimp only at hw
    rw [vpop0] at hw
    exact hw.elim
  | _ :: _ :: _, _, hw =>
    dsimp only at hw
    rw [vpop2] at hw
    exact hw.elim
theorem vBM_no {k : Nat} {m : BM} (h : VH) (p : PV) (ps : List PV) (hk : (k = 1 ∧ (m = .append ∨ m = .extend ∨ m = .count)) ∨ False) : vBM k m h p ps = .no := by
  rcases hk with ⟨rfl, hm⟩ | hm
  · rcases hm with rfl | rfl | rfl <;> (unfold vBM; split <;> first | rfl | (split <;> rfl))
  · exact hm.elim
theorem vBM1_pop (h : VH) (p : PV) (ps : List PV) : vBM 1 .pop h p ps = .no := by
  unfold vBM
  split <;> first | rfl | (split <;> rfl)
/-- what a method of lists or dicts comes to: the built-in one, or nothing -/
def MbOk (X : Cx) (cls : Nat → Addr) (k : Nat) (T : String) (m : BM) (n : Str) : Prop := (∃ id, Slot T n id ∧ typeOf (.builtin id) = pure (.type "method_descriptor") ∧ MB X cls id (fun h p ps => vBM k m h p ps)) ∨ ∀ h p ps, vBM k m h p ps = .no
theorem ve_bmU {m : BM} {n : Str} {X : Cx} {o : Expr} {es : List Expr} {eo : EX} {eas : AX} {apos pos : Pos} (hL : MbOk X cls 0 "list" m n) (hD : MbOk X cls 1 "dict" m n) (ho : PE X o (tE X cls W0 eo)) (ha : PA X es (tA X cls W0 eas)) (hn : es = [] → eas = fun _ h => .ok [] h) (hs : noStar es = true) (hl : es.length < 30) (hbase : attributeBase o n X.env (eval o X.env) = eval o X.env) (hline : (apos.endLine == pos.line) = true) :
    PE X (.Call (.Attribute o n apos) es [] pos) (tE X cls W0 fun r h => (eo r h).bind fun x h1 => (match kindB h1 x with
      | 0 => .no
      | k + 1 => (eas r h1).bind fun vs h2 => vBM k m h2 x vs)) := by
  have dead : ∀ {k : Nat} {σ : L2.St} {ι : List Addr} {H : Hp} {Q : VK} {r : Rho} {h1 : VH} {x : PV}, (∀ h p ps, vBM k m h p ps = .no) → Wx X cls (RV X.K) (W0 σ) ((eas r h1).bind fun vs h2 => vBM k m h2 x vs) ι H Q → False := fun hno hw => by
    simp only [hno] at hw
    cases hr2 : eas _ _ with
    | ok w h2 => rw [hr2] at hw; exact hw
    | ex c p h2 => rw [hr2] at hw; exact hw
    | no => rw [hr2] at hw; exact hw
  have go : ∀ {k : Nat} {T : String} {pins : List (Addr × Obj)} {σ : L2.St} {Q : VK} {u : Value} {s1 : Shared} {ι1 : List Addr} {h1 : VH} {H1 : Hp} {x : PV} {v : V} {ρ : Rho}, (k = 0 ∧ T = "list") ∨ (k = 1 ∧ T = "dict") → MbOk X cls k T m n → kindB h1 x = k + 1 → Inv X pins σ H1 s1 → Rx X cls ι1 h1 H1 → RR X.K ι1 H1 ρ σ → RV X.K ι1 H1 x v → RelV v u →
      Wx X cls (RV X.K) (W0 σ) ((eas ρ h1).bind fun vs h2 => vBM k m h2 x vs) ι1 H1 Q → ∃ T id, PlainAttrs T ∧ Slot T n id ∧ typeOf (.builtin id) = pure (.type "method_descriptor") ∧ s1.TypeIs u T ∧ (∀ a, u = .ref a → ∃ ob, s1.heap.get? a = some ob ∧ ob.dict = none) ∧ MB X cls id (fun h p ps => vBM k m h p ps) := by
    intro k T pins σ Q u s1 ι1 h1 H1 x v ρ hT hm hk I1 R1 rr1 rx ev hw1
    obtain ⟨t1, t2⟩ := kind_is hT I1 R1 rx ev hk
    rcases hm with ⟨id, slot, hty, mb⟩ | hno
    · refine ⟨T, id, ?_, slot, hty, t1, t2, mb⟩
      rcases hT with ⟨_, rfl⟩ | ⟨_, rfl⟩
      · exact PySem.F.plainAttrs_list
      · exact PySem.F.plainAttrs_dict
    · exact (dead hno hw1).elim
  have pick : ∀ {pins : List (Addr × Obj)} {σ : L2.St} {Q : VK} {u : Value} {s1 : Shared} {ι1 : List Addr} {h1 : VH} {H1 : Hp} {x : PV} {v : V} {ρ : Rho}, Inv X pins σ H1 s1 → Rx X cls ι1 h1 H1 → RR X.K ι1 H1 ρ σ → RV X.K ι1 H1 x v → RelV v u →
      Wx X cls (RV X.K) (W0 σ) (match kindB h1 x with
        | 0 => .no
        | k + 1 => (eas ρ h1).bind fun vs h2 => vBM k m h2 x vs) ι1 H1 Q → ∃ k, Wx X cls (RV X.K) (W0 σ) ((eas ρ h1).bind fun vs h2 => vBM k m h2 x vs) ι1 H1 Q ∧ ∃ T id, PlainAttrs T ∧ Slot T n id ∧ typeOf (.builtin id) = pure (.type "method_descriptor") ∧ s1.TypeIs u T ∧ (∀ a, u = .ref a → ∃ ob, s1.heap.get? a = some ob ∧ ob.dict = none) ∧ MB X cls id (fun h p ps => vBM k m h p ps) := by
    intro pins σ Q u s1 ι1 h1 H1 x v ρ I1 R1 rr1 rx ev hw1
    rcases kindB_le h1 x with e0 | e0 | e0
    · rw [e0] at hw1; exact hw1.elim
    · rw [e0] at hw1; exact ⟨0, hw1, go (.inl ⟨rfl, rfl⟩) hL e0 I1 R1 rr1 rx ev hw1⟩
    · rw [e0] at hw1; exact ⟨1, hw1, go (.inr ⟨rfl, rfl⟩) hD e0 I1 R1 rr1 rx ev hw1⟩
  refine ⟨fun pins s σ H Q I ⟨ι, ρ, h, R, rr, hw⟩ => ?_⟩
  cases es with
  | nil =>
    refine wpAny_Call_method0_late hbase hline (runE (hW0 σ) ho I R rr hw fun u s1 ι1 h1 H1 x v I1 l1 k1 R1 rr1 rx ev hw1 => ?_)
    obtain ⟨k, hw2, T, id, pa, slot, hty, t1, t2, mb⟩ := pick I1 R1 rr1 rx ev hw1
    rw [hn rfl] at hw2
    exact ⟨T, id, pa, slot, hty, t1, t2, Calls.callWith_builtin rfl (PySem.evalArgs_none (mb (W0 σ) pins s1 σ H1 ι1 h1 x v u [] [] [] Q I1 R1 rx ev rfl .nil hw2))⟩
  | cons e es =>
    refine wpAny_Call_method_late hbase (few_of hs hl) hline rfl (runE (hW0 σ) ho I R rr hw fun u s1 ι1 h1 H1 x v I1 l1 k1 R1 rr1 rx ev hw1 => ?_)
    obtain ⟨k, hw2, T, id, pa, slot, hty, t1, t2, mb⟩ := pick I1 R1 rr1 rx ev hw1
    refine ⟨T, id, pa, slot, hty, t1, t2, ?_⟩
    have hA := runA (pos := pos) (Qf := fun us s' => wpAny (model X.prog X.w) X.A (call (.builtin id) (u :: us)) (EP X pins σ Q) X.xe s') (hW0 σ) ha I1 R1 rr1 hw2 fun us s2 ι2 h2 H2 ps vs I2 l2 k2 R2 rr2 rv ev2 hw3 => mb (W0 σ) pins s2 σ H2 ι2 h2 x v u ps vs us Q I2 R2 (rx.mono l2 k2) ev rv ev2 hw3
    rw [star_cons hs] at hA ⊢
    exact Calls.callWith_builtin (by show (false || (backTo pos (starEach es X.env)).any (·.1)) = false; rw [star_plain (star_rest hs)]; rfl) (Calls.evalArgs_plain hA)
theorem bm_ok {m : BM} {n : Str} {j : Nat} (hm : bmC m n j = true) : MbOk X cls 0 "list" m n ∧ MbOk X cls 1 "dict" m n ∧ j < 30 := by
  unfold bmC at hm
  split at hm
  · simp only [Bool.and_eq_true, decide_eq_true_eq] at hm
    obtain ⟨rfl, hl⟩ := hm
    exact ⟨.inl ⟨_, PySem.F.slot_list_append, PySem.F.type_list_append, m_append⟩, .inr fun h p ps => vBM_no h p ps (.inl ⟨rfl, .inl rfl⟩), by have := Nat.eq_of_beq_eq_true hl; omega⟩
  · simp only [Bool.and_eq_true, decide_eq_true_eq] at hm
    obtain ⟨rfl, hl⟩ := hm
    exact ⟨.inl ⟨_, PySem.F.slot_list_extend, PySem.F.type_list_extend, m_extend⟩, .inr fun h p ps => vBM_no h p ps (.inl ⟨rfl, .inr (.inl rfl)⟩), by have := Nat.eq_of_beq_eq_true hl; omega⟩
  · simp only [Bool.and_eq_true, decide_eq_true_eq] at hm
    obtain ⟨rfl, hl⟩ := hm
    exact ⟨.inl ⟨_, PySem.F.slot_list_pop, PySem.F.type_list_pop, mb_pop⟩, .inr fun h p ps => vBM1_pop h p ps, by have := Nat.eq_of_beq_eq_true hl; omega⟩
  · simp only [Bool.and_eq_true, decide_eq_true_eq] at hm
    obtain ⟨rfl, hl⟩ := hm
    exact ⟨.inl ⟨_, PySem.F.slot_list_clear, PySem.F.type_list_clear, m_clearL⟩, .inl ⟨_, PySem.F.slot_dict_clear, PySem.F.type_dict_clear, m_clearD⟩, by have := Nat.eq_of_beq_eq_true hl; omega⟩
  · simp only [Bool.and_eq_true, decide_eq_true_eq] at hm
    obtain ⟨rfl, hl⟩ := hm
    exact ⟨.inl ⟨_, PySem.F.slot_list_count, PySem.F.type_list_count, m_count⟩, .inr fun h p ps => vBM_no h p ps (.inl ⟨rfl, .inr (.inr rfl)⟩), by have := Nat.eq_of_beq_eq_true hl; omega⟩
  · cases hm
theorem e_bm (F : XF cls ad T k G X C) {m : BM} {n : Str} {o as : I} {x : Expr} {es : List Expr} {ap : Pos} (hm : bmC m n es.length = true) (ho : PE X x (tE X cls W0 (dE T o))) (ha : PA X es (tA X cls W0 (dA T as))) (hn : es = [] → as = .nil) (hs : noStar es = true) (hb : bareCall x = false) (hp : lineC ap pos = true) :
    PE X (.Call (.Attribute x n ap) es [] pos) (tE X cls W0 (dE T (.bm m o as))) := by
  obtain ⟨hL, hD, hl⟩ := bm_ok (X := X) (cls := cls) hm
  exact ve_bmU hL hD ho ha (fun z => by rw [hn z]; rfl) hs hl (base_ok (m := n) (env := X.env) (t := eval x X.env) hb) hp
theorem e_isi (F : XF cls ad T k G X C) {a : I} {ks : List TyK} {x : Str} {y z : Expr} {p : Pos} (h1 : freeC G C "isinstance" x = true) (ha : PE X y (tE X cls W0 (dE T a))) (hs : noStar [y, z] = true) (hz : isiC G C ks z = true) : PE X (.Call (.Name x p) [y, z] [] pos) (tE X cls W0 (dE T (.isi a ks))) := by
  obtain ⟨rfl, hg, hd, hn, hm⟩ := free_of F h1
  unfold isiC at hz
  split at hz
  · exact ve_isi hW0 F.gf.kit hg hm ha (ty_ok F hz) (by assumption)
  · rw [Bool.and_eq_true] at hz
    exact ve_isiT hW0 F.gf.kit hg hm ha (tys_ok F hz.1 (Nat.le_of_ble_eq_true hz.2)) (by assumption)
  · cases hz
theorem e_two (F : XF cls ad T k G X C) {a b : I} {x : Str} {y z : Expr} {p : Pos} (ha : PE X y (tE X cls W0 (dE T a))) (hb : PE X z (tE X cls W0 (dE T b))) (hs : noStar [y, z] = true) :
    (freeC G C "max" x = true → PE X (.Call (.Name x p) [y, z] [] pos) (tE X cls W0 (dE T (.max2 a b)))) ∧ (freeC G C "min" x = true → PE X (.Call (.Name x p) [y, z] [] pos) (tE X cls W0 (dE T (.min2 a b)))) := by
  constructor
  · intro h
    obtain ⟨rfl, hg, hd, hn, hm⟩ := free_of F h
    exact ve_two (r := fun _ _ _ => True) hW0 (call_max2 F.calm) (.inl ⟨_, rfl⟩) hg hm (by decide +kernel) hn hd ha hb hs
  · intro h
    obtain ⟨rfl, hg, hd, hn, hm⟩ := free_of F h
    exact ve_two (r := fun _ _ _ => True) hW0 (call_min2 F.calm) (.inl ⟨_, rfl⟩) hg hm (by decide +kernel) hn hd ha hb hs
end
end VI
set_option autoImplicit false
set_option linter.all false
set_option Elab.async false
set_option maxRecDepth 100000
set_option maxHeartbeats 8000000
/-! VI over the hand layer: what the checker lets pass is so: stores, the induction over expressions. -/
namespace VI
open PySem PySem.Spec PyProof.Rows L2
section
variable {cls ad : Nat → Addr} {T : Tb} {k : Nat} {G : Gc} {X : Cx} {C : CC} {pos : Pos}
theorem blockKind_fn (F : XF cls ad T k G X C) : X.env.blockKind = .function := by
  unfold Env.blockKind
  rw [F.sc, F.kd]
  rfl
theorem stores_tup (F : XF cls ad T k G X C) {ts vs : List Expr} {r : Option (List Str)} {k1 k2 : Nat} {p1 p2 : Pos} (h : stoC C.sc ts vs = some r) : swappedStores [.Tuple ts k1 p1] (.Tuple vs k2 p2) X.env = pure r := by
  have hb := blockKind_fn F
  unfold stoC at h
  unfold swappedStores Env.kindOf
  rw [hb, F.sc]
  dsimp only
  by_cases c1 : (!(ts.length == 2 || ts.length == 3) || vs.length != ts.length) = true
  · rw [if_pos c1] at h
    rw [if_pos (by rw [c1]; rfl)]
    cases h
    rfl
  rw [if_neg c1] at h
  rw [if_neg (by rw [Bool.eq_false_iff.mpr c1]; decide)]
  split at h
  · rename_i c2
    cases h
    exact if_pos c2
  rename_i c2
  refine (if_neg c2).trans ?_
  dsimp only at h
  split at h
  · rename_i c3
    cases h
    exact if_pos c3
  rename_i c3
  refine (if_neg c3).trans ?_
  split at h
  · rename_i c4
    cases h
    exact if_pos c4
  rename_i c4
  refine (if_neg c4).trans ?_
  split at h
  · cases h
  · rename_i c5
    cases h
    exact if_neg c5
theorem swaps_eq (F : XF cls ad T k G X C) {tg x : Expr} {l : Nat} : swapsWith x (some tg) l X.env = pure (swapsC C tg x) := by
  have hb := blockKind_fn F
  unfold swapsC
  cases x <;> try rfl
  all_goals
    cases tg <;> try rfl
    rename_i t p
    unfold swapsWith scopeOf
    dsimp only
    rw [hb, ← F.sc]
    rfl
theorem sole_no (F : XF cls ad T k G X C) {tg x : Expr} {l : Nat} (h : swapsC C tg x = false) : swapsWithSole [tg] x l X.env = pure false := by
  show swapsWith x (some tg) l X.env = pure false
  rw [swaps_eq F, h]
theorem swaps_none {tg x : Expr} (h : isComp x = false) : swapsC C tg x = false := by
  cases x <;> first | rfl | exact absurd h (by simp [isComp])
theorem stores_ok (F : XF cls ad T k G X C) {tg x : Expr} (h : storesC C tg x = true) : swappedStores [tg] x X.env = pure none := by
  unfold storesC at h
  split at h
  · rw [decide_eq_true_eq] at h
    exact stores_tup F h
  · rename_i hno
    rw [Bool.not_eq_true'] at h
    cases tg with
    | Tuple ts k p =>
      cases x <;> first | rfl | (exact absurd rfl (hno _ _ _ _ _ _ rfl))
    | List ts p => cases h
    | _ => rfl
end
end VI
set_option autoImplicit false
set_option linter.all false
set_option Elab.async false
set_option maxRecDepth 100000
set_option maxHeartbeats 16000000
/-! VI over the hand layer: what the checker lets pass is so: the induction over expressions. -/
namespace VI
open PySem PySem.Spec PyProof.Rows L2
section
variable {cls ad : Nat → Addr} {T : Tb} {k : Nat} {G : Gc} {pos : Pos}
theorem vt_gin {W : L2.St → XW} {X : Cx} {neg : Bool} {g : Nat} {x : Str} {d : Addr} {kvs : List (Str × PV)} {a : Expr} {i : I} {p2 : Pos} (hW : ∀ σ, XMono (W σ)) (hgd : T.gd g = some kvs) (hg : Gl X x) (hm : X.mg x = some (.ref d)) (hdb : (x == ("__debug__" : Str)) = false) (D : GD X.K X.w d kvs) (ha : PE X a (tE X cls W (dE T i))) :
    PT X (.Compare a [if neg then .NotIn else .In] [.Name x p2] pos) (tT X cls W (dT T (.ex (.gin neg g i)))) := by
  obtain ⟨es, n, KD, E⟩ := D.ex
  have hb : PE X (.Name x p2) (tC (.ref d)) := pe_glob hg hm rfl hdb
  refine ⟨fun pins s σ H Q I ⟨ι, ρ, h, R, rr, hw⟩ => ?_⟩
  have hw' : Wx X cls (REq Bool) (W σ) ((dE T i ρ h).bind fun (x : PV) h1 => (match T.gd g, x with
    | some kvs, .str s => .ok (neg != (kvs.lookup s).isSome) h1
    | _, _ => .no)) ι H Q := by
    simp only [dT, dE] at hw
    cases hr : dE T i ρ h with
    | ok v h1 =>
      rw [hr] at hw
      rw [hgd] at hw ⊢
      cases v <;> exact hw
    | ex c p h1 => rw [hr] at hw; exact hw
    | no => rw [hr] at hw; exact hw
  have fin : tE X cls W (dE T i) σ H fun y H1 => ∃ (z : Str) (r : Option Value), y = .str z ∧ PySem.W.nsIn X.K d z = some r ∧ Q (neg != r.isSome) H1 := by
    refine (tE_bind (hW σ) R rr hw').mono fun y H1 ⟨ι1, h1, q, l1, k1, R1, rr1, rv1, hw1⟩ => ?_
    rw [hgd] at hw1
    cases q with
    | str z =>
      have e := gd_ns KD E z
      cases hz : kvs.lookup z with
      | some q =>
        rw [hz] at e
        obtain ⟨u, v, e1, _⟩ := e
        refine ⟨z, some u, rv1, e1, ?_⟩
        have := Wx.bl (b := neg != (kvs.lookup z).isSome) hw1 R1
        rw [hz] at this
        exact this
      | none =>
        rw [hz] at e
        refine ⟨z, none, rv1, e, ?_⟩
        have := Wx.bl (b := neg != (kvs.lookup z).isSome) hw1 R1
        rw [hz] at this
        exact this
    | _ => exact False.elim hw1
  cases neg with
  | false =>
    refine (pt_cmpR (op_in_kd KD) ha hb rfl).run pins s σ H Q I ?_
    refine fin.mono fun y H1 ⟨z, r, e1, e2, q⟩ => ?_
    refine ⟨z, r, e1, rfl, e2, _, rfl, ?_⟩
    simpa using q
  | true =>
    refine (pt_cmpR (op_notIn_kd KD) ha hb rfl).run pins s σ H Q I ?_
    refine fin.mono fun y H1 ⟨z, r, e1, e2, q⟩ => ?_
    refine ⟨z, r, e1, rfl, e2, _, rfl, ?_⟩
    simpa using q
theorem marks2 {o p : CmpOp} {y z : Expr} (h1 : isSetD y = false) (h2 : isSetD z = false) : lastMarks [o, p] [y, z] = false := by
  first
  | exact marks_no h2
  | (unfold lastMarks; simp [marks_no h1, marks_no h2])
theorem plainT_ok {X : Cx} {e : Expr} (h : plainT e = true) (whole : Sem Value) : isTrue e X.env whole = (do let v ← whole; standAt e.pos; holding [v] (truthy v)) := by
  cases e <;> first | rfl | exact absurd h (by simp [plainT])
end
end VI
set_option autoImplicit false
set_option linter.all false
set_option Elab.async false
set_option maxRecDepth 100000
set_option maxHeartbeats 16000000
/-! VI over the hand layer: what the checker lets pass is so: the induction over expressions. -/
namespace VI
open PySem PySem.Spec PyProof.Rows L2
section
variable {cls ad : Nat → Addr} {T : Tb} {k : Nat} {G : Gc}
theorem nodict_eq (r : Rho) (h : VH) : (Res.ok (PV.ref h.length) (h ++ [VO.dct [] false]) : Res PV) = dE T (.dct .nil) r h := by
  show _ = (match (h ++ [VO.dct [] false])[h.length]? with
      | some (.dct [] false) => (match putAll [] [] with
        | some kvs' => Res.ok (PV.ref h.length) ((h ++ [VO.dct [] false]).set h.length (.dct kvs' false))
        | none => .no)
      | _ => .no)
  rw [List.getElem?_append_right (Nat.le_refl _)]
  simp [putAll]
theorem rng1_eq (b : I) (r : Rho) (h : VH) : ((dE T b r h).bind fun (y : PV) h2 => (match y with
    | .int j => if inRange j then Res.ok (rangeL 0 (j - 0).toNat, ([] : List Nat)) h2 else .no
    | _ => .no)) = dI T (.rng (.lit (.int 0)) b) r h := by
  have e : inRange 0 = true := by decide
  show _ = (dE T b r h).bind fun (y : PV) h2 => (match (PV.int 0), y with
    | .int i, .int j => if inRange i && inRange j then Res.ok (rangeL i (j - i).toNat, ([] : List Nat)) h2 else .no
    | _, _ => .no)
  congr 1
  funext y h2
  cases y <;> first | rfl | (simp only [e, Bool.true_and])
theorem isNil_ok {i : I} (h : isNil i = true) : i = .nil := by
  cases i <;> first | rfl | exact absurd h (by simp [isNil])
theorem ts_nil {X : Cx} : PTs X [] (tT X cls W0 (dT T .nil)) := ⟨fun pins s σ H Q I ⟨ι, ρ, h, R, rr, hw⟩ => pts_nil.run pins s σ H Q I (Wx.bl hw R)⟩
theorem tupl_inv {e : Expr} (h : isTupl e = true) : ∃ es n p, e = .Tuple es n p := by
  cases e <;> first | exact ⟨_, _, _, rfl⟩ | cases h
theorem chkA_nil {C : CC} {i : I} (h : chkA G i C [] = true) : i = .nil := by
  cases i <;> first | rfl | (simp [chkA] at h)
theorem chkP_nil {C : CC} {i : I} {vs : List Expr} (h : chkP G i C [] vs = true) : i = .nil ∧ vs = [] := by
  cases i with
  | nil =>
    simp only [chkP] at h
    split at h
    · exact ⟨rfl, rfl⟩
    · cases h
  | cons a b => cases b <;> simp [chkP] at h
  | _ => simp [chkP] at h
theorem asg_sub {o i : Expr} {p : Pos} {env : Env} (h : isSlice i = false) (v : Value) : assign (.Subscript o i p) env v = (do
      let ov ← holding [v] (eval o env)
      let iv ← holding [v, ov] (eval i env)
      standAt p
      holding [v, ov, iv] (setItem ov iv v)
      release [v, ov, iv] []) := by
  cases i <;> first | rfl | exact absurd h (by simp [isSlice])
theorem dG_var (i : Nat) : dG T (.var i) = fun v r h => .ok (r.set i (some v)) h := by
  funext v r h
  simp only [dG] <;> rfl
theorem dG_att (e : I) (f : Str) : dG T (.att e f) = fun v r h => (dE T e r h).bind fun x h1 => (match x with
    | .ref n => (match h1[n]? with
      | some (.ins c fs) => if T.plain c f && Nat.ble (fs.length + 1) 1000 then .ok r (h1.set n (.ins c (fput f v fs))) else .no
      | _ => .no)
    | _ => .no) := by
  funext v r h
  simp only [dG] <;> rfl
theorem dG_sub (a i : I) : dG T (.sub a i) = fun v r h => (dE T a r h).bind fun x h1 => (dE T i r h1).bind fun y h2 => (match vSet h2 x y v with
    | some h3 => .ok r h3
    | none => .no) := by
  funext v r h
  simp only [dG] <;> rfl
theorem dG_tgt (ts : I) : dG T (.tgt ts) = fun v r h => (match v with
    | .tup xs => dGs T ts xs r h
    | _ => .no) := by
  funext v r h
  cases v <;> simp only [dG] <;> rfl
theorem slG_var (i : Nat) : slG (.var i) = [i] := by simp only [slG]
theorem slG_att (e : I) (f : Str) : slG (.att e f) = [] := by simp only [slG]
theorem slG_sub (e f : I) : slG (.sub e f) = [] := by simp only [slG]
theorem slG_tgt (e : I) : slG (.tgt e) = slGs e := by simp only [slG]
mutual
theorem chkE_ok : ∀ (i : I) {X : Cx} {C : CC} {e : Expr}, XF cls ad T k G X C → chkE G i C e = true → PE X e (tE X cls W0 (dE T i))
  | .var i, X, C, e, F, h => by
    simp only [chkE] at h
    split at h
    · exact e_var F h
    · cases h
  | .lit v, X, C, e, F, h => by
    simp only [chkE] at h
    split at h
    · exact lit_ok h
    · cases h
  | .con i, X, C, e, F, h => by
    simp only [chkE] at h
    split at h
    · exact e_con F h
    · cases h
  | .tup es, X, C, e, F, h => by
    simp only [chkE] at h
    split at h
    · exact ve_tup hW0 (chkA_ok es F h)
    · cases h
  | .lst es, X, C, e, F, h => by
    simp only [chkE] at h
    split at h
    · exact ve_lst hW0 (chkA_ok es F h)
    · cases h
  | .dct ps, X, C, e, F, h => by
    simp only [chkE] at h
    split at h
    · rename_i ks vs p
      rw [Bool.and_eq_true] at h
      by_cases h0 : ks = []
      · subst h0
        obtain ⟨rfl, rfl⟩ := chkP_nil h.2
        exact ve_cg nodict_eq ve_nodict
      · exact e_dct F h.1 h0 (chkP_ok ps F h.2)
    · cases h
  | .bin o a b, X, C, e, F, h => by
    simp only [chkE] at h
    split at h
    · simp only [Bool.and_eq_true] at h
      exact ve_bin hW0 (bin_ok h.1.1) (chkE_ok a F h.1.2) (chkE_ok b F h.2)
    · cases h
  | .neg a, X, C, e, F, h => by
    simp only [chkE] at h
    split at h
    · exact ve_neg hW0 (chkE_ok a F h)
    · cases h
  | .cmp o a b, X, C, e, F, h => by
    simp only [chkE] at h
    split at h
    · simp only [Bool.and_eq_true, Bool.not_eq_true'] at h
      exact ve_cmp hW0 (cmp_ok F h.1.1.1) (chkE_ok a F h.1.1.2) (chkE_ok b F h.1.2) (marks_no h.2)
    · cases h
  | .eqx neg a b, X, C, e, F, h => by
    simp only [chkE] at h
    split at h
    · simp only [Bool.and_eq_true, decide_eq_true_eq, Bool.not_eq_true'] at h
      obtain ⟨⟨⟨rfl, h2⟩, h3⟩, h4⟩ := h
      exact ve_cmp hW0 (op_eqx F.gf.mm F.gf.eq F.room neg) (chkE_ok a F h2) (chkE_ok b F h3) (marks_no h4)
    · cases h
  | .chn o o2 a b c, X, C, e, F, h => by
    simp only [chkE] at h
    split at h
    · simp only [Bool.and_eq_true, Bool.not_eq_true'] at h
      obtain ⟨⟨⟨⟨⟨⟨h1, h2⟩, h3⟩, h4⟩, h5⟩, h6⟩, h7⟩ := h
      exact ve_chn hW0 (cmp_ok F h1) (cmp_ok F h2) (chkE_ok a F h3) (chkE_ok b F h4) (chkE_ok c F h5) (marks2 h6 h7)
    · cases h
  | .and a b, X, C, e, F, h => by
    simp only [chkE] at h
    split at h
    · rw [Bool.and_eq_true] at h
      exact ve_and hW0 (chkE_ok a F h.1) (ve_one (chkE_ok b F h.2))
    · rw [Bool.and_eq_true] at h
      exact ve_and hW0 (chkE_ok a F h.1) (chkE_ok b F h.2)
    · cases h
  | .or a b, X, C, e, F, h => by
    simp only [chkE] at h
    split at h
    · rw [Bool.and_eq_true] at h
      exact ve_or hW0 (chkE_ok a F h.1) (ve_one (chkE_ok b F h.2))
    · rw [Bool.and_eq_true] at h
      exact ve_or hW0 (chkE_ok a F h.1) (chkE_ok b F h.2)
    · cases h
  | .not a, X, C, e, F, h => by
    simp only [chkE] at h
    split at h
    · exact ve_not hW0 (chkE_ok a F h)
    · cases h
  | .ife t a b, X, C, e, F, h => by
    simp only [chkE] at h
    split at h
    · simp only [Bool.and_eq_true] at h
      exact ve_ife hW0 (chkT_ok t F h.1.1) (chkE_ok a F h.1.2) (chkE_ok b F h.2)
    · cases h
  | .att a f, X, C, e, F, h => by
    simp only [chkE] at h
    split at h
    · simp only [Bool.and_eq_true, decide_eq_true_eq, Bool.not_eq_true'] at h
      obtain ⟨⟨rfl, h2⟩, h3⟩ := h
      exact ve_attT hW0 F.gf.pr F.gf.pl (chkE_ok a F h2) (base_ok h3)
    · cases h
  | .sub a i, X, C, e, F, h => by
    simp only [chkE] at h
    split at h
    · simp only [Bool.and_eq_true, Bool.not_eq_true'] at h
      exact ve_subT hW0 F.hu F.gf.gi (chkE_ok a F h.1.1) (chkE_ok i F h.1.2) (plainIx_ok h.2)
    · cases h
  | .slc a lo hi, X, C, e, F, h => by
    simp only [chkE] at h
    split at h
    · simp only [Bool.and_eq_true] at h
      exact ve_slc hW0 (chkE_ok a F h.1.1) (chkO_ok lo F h.1.2) (chkO_ok hi F h.2)
    · cases h
  | .rvs a, X, C, e, F, h => by
    simp only [chkE] at h
    split at h
    · refine ve_cg (fun r h => ?_) (ve_rvs hW0 (chkE_ok a F h))
      show _ = (dE T a r h).bind fun x h1 => vRev h1 x
      congr 1
    · cases h
  | .call f as, X, C, e, F, h => by
    simp only [chkE] at h
    split at h
    · rename_i x p es pos
      simp only [Bool.and_eq_true, decide_eq_true_eq] at h
      exact e_call F h.1.1.1 h.1.1.2 (chkA_ok as F h.1.2) (fun e => chkA_nil (by rw [← e]; exact h.1.2)) h.2
    · cases h
  | .mk c as, X, C, e, F, h => by
    simp only [chkE] at h
    split at h
    · simp only [Bool.and_eq_true, decide_eq_true_eq] at h
      exact e_mk F h.1.1.1 h.1.1.2 (chkA_ok as F h.1.2) h.2
    · cases h
  | .mkk c as kw, X, C, e, F, h => by
    simp only [chkE] at h
    split at h
    · simp only [Bool.and_eq_true, decide_eq_true_eq] at h
      obtain ⟨⟨⟨⟨⟨h1, h2⟩, h3⟩, h4⟩, h5⟩, h6⟩ := h
      exact e_mkk F h1 h2 h3 (chkA_ok as F h4) (chkE_ok kw F h5) h6
    · cases h
  | .mth m o as, X, C, e, F, h => by
    simp only [chkE] at h
    split at h
    · simp only [Bool.and_eq_true, decide_eq_true_eq, Bool.not_eq_true'] at h
      obtain ⟨⟨⟨⟨⟨⟨rfl, h2⟩, h3⟩, h4⟩, h5⟩, h6⟩, h7⟩ := h
      exact e_mth F (chkE_ok o F h2) (chkA_ok as F h3) (fun e => chkA_nil (by rw [← e]; exact h3)) h4 (Nat.le_of_ble_eq_true h5) h6 h7
    · cases h
  | .bm m o as, X, C, e, F, h => by
    simp only [chkE] at h
    split at h
    · simp only [Bool.and_eq_true, Bool.not_eq_true'] at h
      obtain ⟨⟨⟨⟨⟨h1, h2⟩, h3⟩, h4⟩, h5⟩, h6⟩ := h
      exact e_bm F h1 (chkE_ok o F h2) (chkA_ok as F h3) (fun e => chkA_nil (by rw [← e]; exact h3)) h4 h5 h6
    · cases h
  | .b1 b a, X, C, e, F, h => by
    simp only [chkE] at h
    split at h
    · simp only [Bool.and_eq_true] at h
      exact b1_ok F h.1.1 (chkE_ok a F h.1.2) h.2
    · cases h
  | .max2 a b, X, C, e, F, h => by
    simp only [chkE] at h
    split at h
    · simp only [Bool.and_eq_true] at h
      exact (e_two F (chkE_ok a F h.1.1.2) (chkE_ok b F h.1.2) h.2).1 h.1.1.1
    · cases h
  | .min2 a b, X, C, e, F, h => by
    simp only [chkE] at h
    split at h
    · simp only [Bool.and_eq_true] at h
      exact (e_two F (chkE_ok a F h.1.1.2) (chkE_ok b F h.1.2) h.2).2 h.1.1.1
    · cases h
  | .isi a ks, X, C, e, F, h => by
    simp only [chkE] at h
    split at h
    · rw [Bool.and_eq_true, Bool.and_eq_true, Bool.and_eq_true] at h
      exact e_isi F h.1.1.1 (chkE_ok a F h.1.1.2) h.1.2 h.2
    · cases h
  | .gin neg g a, X, C, e, F, h => by
    simp only [chkE] at h
    split at h
    · simp only [Bool.and_eq_true, decide_eq_true_eq] at h
      obtain ⟨⟨⟨rfl, h2⟩, h3⟩, h4⟩ := h
      obtain ⟨d, kvs, g1, g2, D⟩ := F.gf.gd _ _ h2
      obtain ⟨a1, a2, _⟩ := glo_of F h3
      exact ve_gin hW0 g1 a1 g2 a2 D (chkE_ok a F h4)
    · cases h
  | .gget g a, X, C, e, F, h => by
    simp only [chkE] at h
    split at h
    · simp only [Bool.and_eq_true, decide_eq_true_eq, Bool.not_eq_true'] at h
      obtain ⟨⟨⟨h1, h2⟩, h3⟩, h4⟩ := h
      obtain ⟨d, kvs, g1, g2, D⟩ := F.gf.gd _ _ h1
      obtain ⟨a1, a2, _⟩ := glo_of F h2
      exact ve_gget hW0 g1 a1 g2 a2 D (chkE_ok a F h3) (plainIx_ok h4)
    · cases h
  | .lc own t it ifs a, X, C, e, F, h => by
    simp only [chkE] at h
    split at h
    · rename_i elt tg iter cs z scope p
      rw [Bool.and_eq_true, Bool.and_eq_true, Bool.and_eq_true, Bool.and_eq_true, Bool.and_eq_true, decide_eq_true_eq] at h
      obtain ⟨⟨⟨⟨⟨h0, h1⟩, h2⟩, h3⟩, h4⟩, h5⟩ := h
      subst h0
      obtain ⟨ok, eo, hsl, hs⟩ := comp_own h1
      have FB := F.blk ok.kind
      have ht : ∀ s H D cl fp, PTs (X.blk s H scope (compEnvC scope cl D X.env) fp) cs (tT (X.blk s H scope (compEnvC scope cl D X.env) fp) cls W0 (dT T ifs)) := by
        intro s H D cl fp
        split at h4
        · rw [isNil_ok h4]; exact ts_nil
        · exact pts_one (chkT_ok ifs (FB s H D cl fp) h4)
        · cases h4
      have q := ve_lc (own := ownN C own) (sl := slG t) F.calm (by rw [F.N]; exact F.nd) (chkI_ok it F h2) (by rw [F.N, F.sc]; exact ok) hsl (fun s H D cl fp => chkG_ok t (FB s H D cl fp) h3) ht (fun s H D cl fp => chkE_ok a (FB s H D cl fp) h5) (fun x => fold_no hs) (pos := p)
      rw [eo] at q
      exact q
    · cases h
  | .dc own t it ifs a b, X, C, e, F, h => by
    simp only [chkE] at h
    split at h
    · rename_i kx vx tg iter cs z scope p
      rw [Bool.and_eq_true, Bool.and_eq_true, Bool.and_eq_true, Bool.and_eq_true, Bool.and_eq_true, Bool.and_eq_true, decide_eq_true_eq] at h
      obtain ⟨⟨⟨⟨⟨⟨h0, h1⟩, h2⟩, h3⟩, h4⟩, h5⟩, h6⟩ := h
      subst h0
      obtain ⟨ok, eo, hsl, hs⟩ := comp_own h1
      have FB := F.blk ok.kind
      have ht : Blk X scope fun Y => PTs Y cs (tT Y cls W0 (dT T ifs)) := by
        intro s H D cl fp
        split at h4
        · rw [isNil_ok h4]; exact ts_nil
        · exact pts_one (chkT_ok ifs (FB s H D cl fp) h4)
        · cases h4
      have q := ve_dc (own := ownN C own) (sl := slG t) F.hu F.calm (by rw [F.N]; exact F.nd) (chkI_ok it F h2) (by rw [F.N, F.sc]; exact ok) hsl (fun s H D cl fp => chkG_ok t (FB s H D cl fp) h3) ht (fun s H D cl fp => chkE_ok a (FB s H D cl fp) h5) (fun s H D cl fp => chkE_ok b (FB s H D cl fp) h6) (fun x => fold_no hs) (pos := p)
      rw [eo] at q
      exact q
    · cases h
  | .nil, _, _, _, _, h | .cons _ _, _, _, _, _, h | .star _ _, _, _, _, _, h | .srtk _, _, _, _, _, h | .lc2 .., _, _, _, _, h | .lam _ _, _, _, _, _, h | .cal _ _, _, _, _, _, h | .rng _ _, _, _, _, _, h | .enm _, _, _, _, _, h | .zip _ _, _, _, _, _, h | .itm _, _, _, _, _, h | .vls _, _, _, _, _, h | .tgt _, _, _, _, _, h
  | .asg _ _, _, _, _, _, h | .aug _ _ _, _, _, _, _, h | .ex _, _, _, _, _, h | .ifs _ _ _, _, _, _, _, h | .whl _ _, _, _, _, _, h | .for _ _ _, _, _, _, _, h | .ret _, _, _, _, _, h | .pass, _, _, _, _, h | .cont, _, _, _, _, h | .par _ _, _, _, _, _, h | .rais _ _, _, _, _, _, h | .tri _ _, _, _, _, _, h | .hnd _ _ _, _, _, _, _, h | .wth _ _ _, _, _, _, _, h => by simp [chkE] at h
theorem chkT_ok : ∀ (i : I) {X : Cx} {C : CC} {e : Expr}, XF cls ad T k G X C → chkT G i C e = true → PT X e (tT X cls W0 (dT T i))
  | .and a b, X, C, e, F, h => by
    simp only [chkT] at h
    split at h
    · rw [Bool.and_eq_true] at h
      exact (vt_and hW0 (chkT_ok a F h.1) (vw_and1 (chkT_ok b F h.2))).pt
    · rw [Bool.and_eq_true] at h
      exact (vt_and hW0 (chkT_ok a F h.1) (pw_of (chkT_ok b F h.2))).pt
    · cases h
  | .or a b, X, C, e, F, h => by
    simp only [chkT] at h
    split at h
    · rw [Bool.and_eq_true] at h
      exact (vt_or hW0 (chkT_ok a F h.1) (vw_or1 (chkT_ok b F h.2))).pt
    · rw [Bool.and_eq_true] at h
      exact (vt_or hW0 (chkT_ok a F h.1) (pw_of (chkT_ok b F h.2))).pt
    · cases h
  | .not a, X, C, e, F, h => by
    simp only [chkT] at h
    split at h
    · exact vt_not hW0 (chkT_ok a F h)
    · cases h
  | .cmp o a b, X, C, e, F, h => by
    simp only [chkT] at h
    split at h
    · simp only [Bool.and_eq_true, Bool.not_eq_true'] at h
      exact vt_cmp hW0 (cmp_ok F h.1.1.1) (chkE_ok a F h.1.1.2) (chkE_ok b F h.1.2) (marks_no h.2)
    · cases h
  | .eqx neg a b, X, C, e, F, h => by
    simp only [chkT] at h
    split at h
    · simp only [Bool.and_eq_true, decide_eq_true_eq, Bool.not_eq_true'] at h
      obtain ⟨⟨⟨rfl, h2⟩, h3⟩, h4⟩ := h
      exact vt_cmp hW0 (op_eqx F.gf.mm F.gf.eq F.room neg) (chkE_ok a F h2) (chkE_ok b F h3) (marks_no h4)
    · cases h
  | .chn o o2 a b c, X, C, e, F, h => by
    simp only [chkT] at h
    split at h
    · simp only [Bool.and_eq_true, Bool.not_eq_true'] at h
      obtain ⟨⟨⟨⟨⟨⟨h1, h2⟩, h3⟩, h4⟩, h5⟩, h6⟩, h7⟩ := h
      exact vt_chn hW0 (cmp_ok F h1) (cmp_ok F h2) (chkE_ok a F h3) (chkE_ok b F h4) (chkE_ok c F h5) (marks2 h6 h7)
    · cases h
  | .ex a, X, C, e, F, h => by
    cases a with
    | gin neg g a =>
      simp only [chkT] at h
      split at h
      · simp only [Bool.and_eq_true, decide_eq_true_eq] at h
        obtain ⟨⟨⟨rfl, h2⟩, h3⟩, h4⟩ := h
        obtain ⟨d, kvs, g1, g2, D⟩ := F.gf.gd _ _ h2
        obtain ⟨a1, a2, _⟩ := glo_of F h3
        exact vt_gin hW0 g1 a1 g2 a2 D (chkE_ok a F h4)
      · cases h
    | _ =>
      simp only [chkT, Bool.and_eq_true] at h
      exact vt_val hW0 (chkE_ok _ F h.2) (plainT_ok h.1)
  | .nil, _, _, _, _, h | .cons _ _, _, _, _, _, h | .star _ _, _, _, _, _, h | .var _, _, _, _, _, h | .lit _, _, _, _, _, h | .con _, _, _, _, _, h | .tup _, _, _, _, _, h | .lst _, _, _, _, _, h | .dct _, _, _, _, _, h | .bin _ _ _, _, _, _, _, h | .neg _, _, _, _, _, h | .ife _ _ _, _, _, _, _, h | .att _ _, _, _, _, _, h | .sub _ _, _, _, _, _, h | .slc _ _ _, _, _, _, _, h | .rvs _, _, _, _, _, h
  | .call _ _, _, _, _, _, h | .mk _ _, _, _, _, _, h | .mkk _ _ _, _, _, _, _, h | .mth _ _ _, _, _, _, _, h | .bm _ _ _, _, _, _, _, h | .b1 _ _, _, _, _, _, h | .max2 _ _, _, _, _, _, h | .min2 _ _, _, _, _, _, h | .isi _ _, _, _, _, _, h | .gin _ _ _, _, _, _, _, h | .gget _ _, _, _, _, _, h | .lc .., _, _, _, _, h | .dc .., _, _, _, _, h
  | .srtk _, _, _, _, _, h | .lc2 .., _, _, _, _, h | .lam _ _, _, _, _, _, h | .cal _ _, _, _, _, _, h | .rng _ _, _, _, _, _, h | .enm _, _, _, _, _, h | .zip _ _, _, _, _, _, h | .itm _, _, _, _, _, h | .vls _, _, _, _, _, h | .tgt _, _, _, _, _, h
  | .asg _ _, _, _, _, _, h | .aug _ _ _, _, _, _, _, h | .ifs _ _ _, _, _, _, _, h | .whl _ _, _, _, _, _, h | .for _ _ _, _, _, _, _, h | .ret _, _, _, _, _, h | .pass, _, _, _, _, h | .cont, _, _, _, _, h | .par _ _, _, _, _, _, h | .rais _ _, _, _, _, _, h | .tri _ _, _, _, _, _, h | .hnd _ _ _, _, _, _, _, h | .wth _ _ _, _, _, _, _, h => by simp [chkT] at h
theorem chkA_ok : ∀ (i : I) {X : Cx} {C : CC} {es : List Expr}, XF cls ad T k G X C → chkA G i C es = true → PA X es (tA X cls W0 (dA T i))
  | .nil, X, C, es, F, h => by
    simp only [chkA] at h
    split at h
    · exact va_nil
    · cases h
  | .cons a b, X, C, es, F, h => by
    simp only [chkA] at h
    split at h
    · simp only [Bool.and_eq_true] at h
      exact va_cons hW0 (chkE_ok a F h.1.2) (chkA_ok b F h.2) (noStar1 h.1.1)
    · cases h
  | .star a b, X, C, es, F, h => by
    simp only [chkA] at h
    split at h
    · rw [Bool.and_eq_true] at h
      exact va_star hW0 (chkE_ok a F h.1) (chkA_ok b F h.2)
    · cases h
  | .var _, _, _, _, _, h | .lit _, _, _, _, _, h | .con _, _, _, _, _, h | .tup _, _, _, _, _, h | .lst _, _, _, _, _, h | .dct _, _, _, _, _, h | .bin _ _ _, _, _, _, _, h | .neg _, _, _, _, _, h | .cmp _ _ _, _, _, _, _, h | .chn .., _, _, _, _, h | .and _ _, _, _, _, _, h | .or _ _, _, _, _, _, h | .not _, _, _, _, _, h | .ife _ _ _, _, _, _, _, h | .att _ _, _, _, _, _, h | .sub _ _, _, _, _, _, h | .slc _ _ _, _, _, _, _, h | .rvs _, _, _, _, _, h
  | .call _ _, _, _, _, _, h | .mk _ _, _, _, _, _, h | .mkk _ _ _, _, _, _, _, h | .mth _ _ _, _, _, _, _, h | .bm _ _ _, _, _, _, _, h | .b1 _ _, _, _, _, _, h | .max2 _ _, _, _, _, _, h | .min2 _ _, _, _, _, _, h | .isi _ _, _, _, _, _, h | .gin _ _ _, _, _, _, _, h | .gget _ _, _, _, _, _, h | .lc .., _, _, _, _, h | .dc .., _, _, _, _, h
  | .srtk _, _, _, _, _, h | .lc2 .., _, _, _, _, h | .lam _ _, _, _, _, _, h | .cal _ _, _, _, _, _, h | .rng _ _, _, _, _, _, h | .enm _, _, _, _, _, h | .zip _ _, _, _, _, _, h | .itm _, _, _, _, _, h | .vls _, _, _, _, _, h | .tgt _, _, _, _, _, h | .eqx _ _ _, _, _, _, _, h
  | .asg _ _, _, _, _, _, h | .aug _ _ _, _, _, _, _, h | .ex _, _, _, _, _, h | .ifs _ _ _, _, _, _, _, h | .whl _ _, _, _, _, _, h | .for _ _ _, _, _, _, _, h | .ret _, _, _, _, _, h | .pass, _, _, _, _, h | .cont, _, _, _, _, h | .par _ _, _, _, _, _, h | .rais _ _, _, _, _, _, h | .tri _ _, _, _, _, _, h | .hnd _ _ _, _, _, _, _, h | .wth _ _ _, _, _, _, _, h => by simp [chkA] at h
theorem chkP_ok : ∀ (i : I) {X : Cx} {C : CC} {ks : List (Option Expr)} {vs : List Expr} {pos : Pos}, XF cls ad T k G X C → chkP G i C ks vs = true → PD2 X cls W0 pos ks vs (dP T i)
  | .nil, X, C, ks, vs, pos, F, h => by
    simp only [chkP] at h
    split at h
    · exact pd_nil
    · cases h
  | .cons a (.cons b ps), X, C, ks, vs, pos, F, h => by
    simp only [chkP] at h
    split at h
    · simp only [Bool.and_eq_true] at h
      exact pd_cons hW0 (chkE_ok a F h.1.1) (chkE_ok b F h.1.2) (chkP_ok ps F h.2)
    · cases h
  | .star _ _, _, _, _, _, _, _, h
  | .var _, _, _, _, _, _, _, h
  | .lit _, _, _, _, _, _, _, h
  | .con _, _, _, _, _, _, _, h
  | .tup _, _, _, _, _, _, _, h
  | .lst _, _, _, _, _, _, _, h
  | .dct _, _, _, _, _, _, _, h
  | .bin _ _ _, _, _, _, _, _, _, h
  | .neg _, _, _, _, _, _, _, h
  | .cmp _ _ _, _, _, _, _, _, _, h
  | .chn _ _ _ _ _, _, _, _, _, _, _, h
  | .and _ _, _, _, _, _, _, _, h
  | .or _ _, _, _, _, _, _, _, h
  | .not _, _, _, _, _, _, _, h
  | .ife _ _ _, _, _, _, _, _, _, h
  | .att _ _, _, _, _, _, _, _, h
  | .sub _ _, _, _, _, _, _, _, h
  | .slc _ _ _, _, _, _, _, _, _, h
  | .rvs _, _, _, _, _, _, _, h
  | .call _ _, _, _, _, _, _, _, h
  | .mk _ _, _, _, _, _, _, _, h
  | .mkk _ _ _, _, _, _, _, _, _, h
  | .mth _ _ _, _, _, _, _, _, _, h
  | .bm _ _ _, _, _, _, _, _, _, h
  | .b1 _ _, _, _, _, _, _, _, h
  | .max2 _ _, _, _, _, _, _, _, h
  | .min2 _ _, _, _, _, _, _, _, h
  | .isi _ _, _, _, _, _, _, _, h
  | .gin _ _ _, _, _, _, _, _, _, h
  | .gget _ _, _, _, _, _, _, _, h
  | .srtk _, _, _, _, _, _, _, h
  | .lc _ _ _ _ _, _, _, _, _, _, _, h
  | .lc2 _ _ _ _ _ _ _, _, _, _, _, _, _, h
  | .dc _ _ _ _ _ _, _, _, _, _, _, _, h
  | .lam _ _, _, _, _, _, _, _, h
  | .cal _ _, _, _, _, _, _, _, h
  | .rng _ _, _, _, _, _, _, _, h
  | .enm _, _, _, _, _, _, _, h
  | .zip _ _, _, _, _, _, _, _, h
  | .itm _, _, _, _, _, _, _, h
  | .vls _, _, _, _, _, _, _, h
  | .tgt _, _, _, _, _, _, _, h
  | .eqx _ _ _, _, _, _, _, _, _, h
  | .asg _ _, _, _, _, _, _, _, h
  | .aug _ _ _, _, _, _, _, _, _, h
  | .ex _, _, _, _, _, _, _, h
  | .ifs _ _ _, _, _, _, _, _, _, h
  | .whl _ _, _, _, _, _, _, _, h
  | .for _ _ _, _, _, _, _, _, _, h
  | .ret _, _, _, _, _, _, _, h
  | .pass, _, _, _, _, _, _, h
  | .cont, _, _, _, _, _, _, h
  | .par _ _, _, _, _, _, _, _, h
  | .rais _ _, _, _, _, _, _, _, h
  | .tri _ _, _, _, _, _, _, _, h
  | .hnd _ _ _, _, _, _, _, _, _, h
  | .wth _ _ _, _, _, _, _, _, _, h
  | .cons _ (.nil), _, _, _, _, _, _, h
  | .cons _ (.star _ _), _, _, _, _, _, _, h
  | .cons _ (.var _), _, _, _, _, _, _, h
  | .cons _ (.lit _), _, _, _, _, _, _, h
  | .cons _ (.con _), _, _, _, _, _, _, h
  | .cons _ (.tup _), _, _, _, _, _, _, h
  | .cons _ (.lst _), _, _, _, _, _, _, h
  | .cons _ (.dct _), _, _, _, _, _, _, h
  | .cons _ (.bin _ _ _), _, _, _, _, _, _, h
  | .cons _ (.neg _), _, _, _, _, _, _, h
  | .cons _ (.cmp _ _ _), _, _, _, _, _, _, h
  | .cons _ (.chn _ _ _ _ _), _, _, _, _, _, _, h
  | .cons _ (.and _ _), _, _, _, _, _, _, h
  | .cons _ (.or _ _), _, _, _, _, _, _, h
  | .cons _ (.not _), _, _, _, _, _, _, h
  | .cons _ (.ife _ _ _), _, _, _, _, _, _, h
  | .cons _ (.att _ _), _, _, _, _, _, _, h
  | .cons _ (.sub _ _), _, _, _, _, _, _, h
  | .cons _ (.slc _ _ _), _, _, _, _, _, _, h
  | .cons _ (.rvs _), _, _, _, _, _, _, h
  | .cons _ (.call _ _), _, _, _, _, _, _, h
  | .cons _ (.mk _ _), _, _, _, _, _, _, h
  | .cons _ (.mkk _ _ _), _, _, _, _, _, _, h
  | .cons _ (.mth _ _ _), _, _, _, _, _, _, h
  | .cons _ (.bm _ _ _), _, _, _, _, _, _, h
  | .cons _ (.b1 _ _), _, _, _, _, _, _, h
  | .cons _ (.max2 _ _), _, _, _, _, _, _, h
  | .cons _ (.min2 _ _), _, _, _, _, _, _, h
  | .cons _ (.isi _ _), _, _, _, _, _, _, h
  | .cons _ (.gin _ _ _), _, _, _, _, _, _, h
  | .cons _ (.gget _ _), _, _, _, _, _, _, h
  | .cons _ (.srtk _), _, _, _, _, _, _, h
  | .cons _ (.lc _ _ _ _ _), _, _, _, _, _, _, h
  | .cons _ (.lc2 _ _ _ _ _ _ _), _, _, _, _, _, _, h
  | .cons _ (.dc _ _ _ _ _ _), _, _, _, _, _, _, h
  | .cons _ (.lam _ _), _, _, _, _, _, _, h
  | .cons _ (.cal _ _), _, _, _, _, _, _, h
  | .cons _ (.rng _ _), _, _, _, _, _, _, h
  | .cons _ (.enm _), _, _, _, _, _, _, h
  | .cons _ (.zip _ _), _, _, _, _, _, _, h
  | .cons _ (.itm _), _, _, _, _, _, _, h
  | .cons _ (.vls _), _, _, _, _, _, _, h
  | .cons _ (.tgt _), _, _, _, _, _, _, h
  | .cons _ (.eqx _ _ _), _, _, _, _, _, _, h
  | .cons _ (.asg _ _), _, _, _, _, _, _, h
  | .cons _ (.aug _ _ _), _, _, _, _, _, _, h
  | .cons _ (.ex _), _, _, _, _, _, _, h
  | .cons _ (.ifs _ _ _), _, _, _, _, _, _, h
  | .cons _ (.whl _ _), _, _, _, _, _, _, h
  | .cons _ (.for _ _ _), _, _, _, _, _, _, h
  | .cons _ (.ret _), _, _, _, _, _, _, h
  | .cons _ (.pass), _, _, _, _, _, _, h
  | .cons _ (.cont), _, _, _, _, _, _, h
  | .cons _ (.par _ _), _, _, _, _, _, _, h
  | .cons _ (.rais _ _), _, _, _, _, _, _, h
  | .cons _ (.tri _ _), _, _, _, _, _, _, h
  | .cons _ (.hnd _ _ _), _, _, _, _, _, _, h
  | .cons _ (.wth _ _ _), _, _, _, _, _, _, h => by simp [chkP] at h
theorem chkO_ok : ∀ (i : I) {X : Cx} {C : CC} {o : Option Expr}, XF cls ad T k G X C → chkO G i C o = true → PO X o (tO X cls W0 (dO T i))
  | .nil, X, C, o, F, h => by
    simp only [chkO] at h
    cases o with
    | none => exact vo_none
    | some x => cases h
  | .cons a b, X, C, o, F, h => by
    simp only [chkO] at h
    split at h
    · exact vo_some hW0 (chkE_ok a F h)
    · cases h
  | .star _ _, _, _, _, _, h
  | .var _, _, _, _, _, h
  | .lit _, _, _, _, _, h
  | .con _, _, _, _, _, h
  | .tup _, _, _, _, _, h
  | .lst _, _, _, _, _, h
  | .dct _, _, _, _, _, h
  | .bin _ _ _, _, _, _, _, h
  | .neg _, _, _, _, _, h
  | .cmp _ _ _, _, _, _, _, h
  | .chn _ _ _ _ _, _, _, _, _, h
  | .and _ _, _, _, _, _, h
  | .or _ _, _, _, _, _, h
  | .not _, _, _, _, _, h
  | .ife _ _ _, _, _, _, _, h
  | .att _ _, _, _, _, _, h
  | .sub _ _, _, _, _, _, h
  | .slc _ _ _, _, _, _, _, h
  | .rvs _, _, _, _, _, h
  | .call _ _, _, _, _, _, h
  | .mk _ _, _, _, _, _, h
  | .mkk _ _ _, _, _, _, _, h
  | .mth _ _ _, _, _, _, _, h
  | .bm _ _ _, _, _, _, _, h
  | .b1 _ _, _, _, _, _, h
  | .max2 _ _, _, _, _, _, h
  | .min2 _ _, _, _, _, _, h
  | .isi _ _, _, _, _, _, h
  | .gin _ _ _, _, _, _, _, h
  | .gget _ _, _, _, _, _, h
  | .srtk _, _, _, _, _, h
  | .lc _ _ _ _ _, _, _, _, _, h
  | .lc2 _ _ _ _ _ _ _, _, _, _, _, h
  | .dc _ _ _ _ _ _, _, _, _, _, h
  | .lam _ _, _, _, _, _, h
  | .cal _ _, _, _, _, _, h
  | .rng _ _, _, _, _, _, h
  | .enm _, _, _, _, _, h
  | .zip _ _, _, _, _, _, h
  | .itm _, _, _, _, _, h
  | .vls _, _, _, _, _, h
  | .tgt _, _, _, _, _, h
  | .eqx _ _ _, _, _, _, _, h
  | .asg _ _, _, _, _, _, h
  | .aug _ _ _, _, _, _, _, h
  | .ex _, _, _, _, _, h
  | .ifs _ _ _, _, _, _, _, h
  | .whl _ _, _, _, _, _, h
  | .for _ _ _, _, _, _, _, h
  | .ret _, _, _, _, _, h
  | .pass, _, _, _, _, h
  | .cont, _, _, _, _, h
  | .par _ _, _, _, _, _, h
  | .rais _ _, _, _, _, _, h
  | .tri _ _, _, _, _, _, h
  | .hnd _ _ _, _, _, _, _, h
  | .wth _ _ _, _, _, _, _, h => by simp [chkO] at h
theorem chkI_ok : ∀ (i : I) {X : Cx} {C : CC} {tg e : Expr}, XF cls ad T k G X C → chkI G i C tg e = true → PI X tg e (tI X cls W0 (dI T i))
  | .rng a b, X, C, tg, e, F, h => by
    simp only [chkI] at h
    split at h
    · rename_i x p y pos
      rw [Bool.and_eq_true, Bool.and_eq_true, Bool.and_eq_true] at h
      obtain ⟨⟨⟨h1, h2⟩, h3⟩, h4⟩ := h
      obtain ⟨rfl, hg, hd, hn, hm⟩ := free_of F h2
      split at h1
      · exact vi_cg (rng1_eq b) (vi_rng1 hW0 hg hm (one_arg hW0 (chkE_ok b F h3) h4) (star_cons h4))
      · cases h1
    · rename_i x p y z pos
      simp only [Bool.and_eq_true] at h
      obtain ⟨⟨⟨h1, h2⟩, h3⟩, h4⟩ := h
      obtain ⟨rfl, hg, hd, hn, hm⟩ := free_of F h1
      have hA : PA X [y, z] (tA X cls W0 fun r h => (dE T a r h).bind fun x h1 => (dE T b r h1).bind fun y h2 => .ok [x, y] h2) := by
        have q := va_cons hW0 (chkE_ok a F h2) (one_arg hW0 (chkE_ok b F h3) (star_rest h4)) (star_cons h4)
        have e : (fun (r : Rho) h => (dE T a r h).bind fun x h1 => ((dE T b r h1).bind fun y h2 => .ok [y] h2).bind fun xs h2 => .ok (x :: xs) h2 : AX) = fun r h => (dE T a r h).bind fun x h1 => (dE T b r h1).bind fun y h2 => .ok [x, y] h2 := by
          funext r h
          congr 1
          funext x h1
          cases dE T b r h1 <;> rfl
        rw [e] at q
        exact q
      exact vi_rng2 hW0 hg hm hA (by rw [star_cons h4, star_cons (star_rest h4)]; rfl) (star_cons (star_rest h4))
    · cases h
  | .enm a, X, C, tg, e, F, h => by
    simp only [chkI] at h
    split at h
    · simp only [Bool.and_eq_true] at h
      obtain ⟨⟨⟨h1, h2⟩, h3⟩, h4⟩ := h
      obtain ⟨rfl, hg, hd, hn, hm⟩ := free_of F h2
      obtain ⟨_, _, _, rfl⟩ := tupl_inv h1
      exact vi_enmL hg hm (one_arg hW0 (chkE_ok a F h3) h4) (star_cons h4) fun pins s σ H R I ⟨ι, ρ, h, Rr, rr, ⟨xs, h1, e⟩, w⟩ => by
        unfold eEnm at w
        rw [e] at w
        exact w.elim
    · cases h
  | .zip a b, X, C, tg, e, F, h => by
    simp only [chkI] at h
    split at h
    · rename_i x p y z pos
      simp only [Bool.and_eq_true] at h
      obtain ⟨⟨⟨⟨h0, h1⟩, h2⟩, h3⟩, h4⟩ := h
      obtain ⟨rfl, hg, hd, hn, hm⟩ := free_of F h1
      obtain ⟨_, _, _, rfl⟩ := tupl_inv h0
      have hA : PA X [y, z] (tA X cls W0 fun r h => (dE T a r h).bind fun x h1 => (dE T b r h1).bind fun y h2 => .ok [x, y] h2) := by
        have q := va_cons hW0 (chkE_ok a F h2) (one_arg hW0 (chkE_ok b F h3) (star_rest h4)) (star_cons h4)
        have e : (fun (r : Rho) h => (dE T a r h).bind fun x h1 => ((dE T b r h1).bind fun y h2 => .ok [y] h2).bind fun xs h2 => .ok (x :: xs) h2 : AX) = fun r h => (dE T a r h).bind fun x h1 => (dE T b r h1).bind fun y h2 => .ok [x, y] h2 := by
          funext r h
          congr 1
          funext x h1
          cases dE T b r h1 <;> rfl
        rw [e] at q
        exact q
      exact vi_zip hg hm hA (star_cons h4) (star_plain (star_rest h4))
    · cases h
  | .itm a, X, C, tg, e, F, h => by
    simp only [chkI] at h
    split at h
    · simp only [Bool.and_eq_true, decide_eq_true_eq, Bool.not_eq_true'] at h
      obtain ⟨⟨⟨⟨h0, rfl⟩, h2⟩, h3⟩, h4⟩ := h
      obtain ⟨_, _, _, rfl⟩ := tupl_inv h0
      exact vi_itm (chkE_ok a F h2) (base_ok h3) h4
    · cases h
  | .vls a, X, C, tg, e, F, h => by
    simp only [chkI] at h
    split at h
    · simp only [Bool.and_eq_true, decide_eq_true_eq, Bool.not_eq_true'] at h
      obtain ⟨⟨⟨rfl, h2⟩, h3⟩, h4⟩ := h
      exact vi_vls (chkE_ok a F h2) (base_ok h3) h4
    · cases h
  | .ex a, X, C, tg, e, F, h => by
    simp only [chkI] at h
    exact vi_val (chkE_ok a F h)
  | .nil, _, _, _, _, _, h
  | .cons _ _, _, _, _, _, _, h
  | .star _ _, _, _, _, _, _, h
  | .var _, _, _, _, _, _, h
  | .lit _, _, _, _, _, _, h
  | .con _, _, _, _, _, _, h
  | .tup _, _, _, _, _, _, h
  | .lst _, _, _, _, _, _, h
  | .dct _, _, _, _, _, _, h
  | .bin _ _ _, _, _, _, _, _, h
  | .neg _, _, _, _, _, _, h
  | .cmp _ _ _, _, _, _, _, _, h
  | .chn _ _ _ _ _, _, _, _, _, _, h
  | .and _ _, _, _, _, _, _, h
  | .or _ _, _, _, _, _, _, h
  | .not _, _, _, _, _, _, h
  | .ife _ _ _, _, _, _, _, _, h
  | .att _ _, _, _, _, _, _, h
  | .sub _ _, _, _, _, _, _, h
  | .slc _ _ _, _, _, _, _, _, h
  | .rvs _, _, _, _, _, _, h
  | .call _ _, _, _, _, _, _, h
  | .mk _ _, _, _, _, _, _, h
  | .mkk _ _ _, _, _, _, _, _, h
  | .mth _ _ _, _, _, _, _, _, h
  | .bm _ _ _, _, _, _, _, _, h
  | .b1 _ _, _, _, _, _, _, h
  | .max2 _ _, _, _, _, _, _, h
  | .min2 _ _, _, _, _, _, _, h
  | .isi _ _, _, _, _, _, _, h
  | .gin _ _ _, _, _, _, _, _, h
  | .gget _ _, _, _, _, _, _, h
  | .srtk _, _, _, _, _, _, h
  | .lc _ _ _ _ _, _, _, _, _, _, h
  | .lc2 _ _ _ _ _ _ _, _, _, _, _, _, h
  | .dc _ _ _ _ _ _, _, _, _, _, _, h
  | .lam _ _, _, _, _, _, _, h
  | .cal _ _, _, _, _, _, _, h
  | .tgt _, _, _, _, _, _, h
  | .eqx _ _ _, _, _, _, _, _, h
  | .asg _ _, _, _, _, _, _, h
  | .aug _ _ _, _, _, _, _, _, h
  | .ifs _ _ _, _, _, _, _, _, h
  | .whl _ _, _, _, _, _, _, h
  | .for _ _ _, _, _, _, _, _, h
  | .ret _, _, _, _, _, _, h
  | .pass, _, _, _, _, _, h
  | .cont, _, _, _, _, _, h
  | .par _ _, _, _, _, _, _, h
  | .rais _ _, _, _, _, _, _, h
  | .tri _ _, _, _, _, _, _, h
  | .hnd _ _ _, _, _, _, _, _, h
  | .wth _ _ _, _, _, _, _, _, h => by simp [chkI] at h
theorem chkG_ok : ∀ (i : I) {X : Cx} {C : CC} {e : Expr}, XF cls ad T k G X C → chkG G i C e = true → PG X e (tG X cls (slG i) (dG T i))
  | .var i, X, C, e, F, h => by
    simp only [chkG] at h
    split at h
    · unfold setC at h
      simp only [Bool.and_eq_true, decide_eq_true_eq] at h
      rw [slG_var, dG_var]
      exact vg_name (by rw [F.N]; exact F.nd) (by rw [F.N]; exact h.1.1) (loc_ok (by rw [F.sc]; exact h.1.2)) (by rw [F.sc]; exact F.fn _ h.2)
    · cases h
  | .att a f, X, C, e, F, h => by
    simp only [chkG] at h
    split at h
    · simp only [Bool.and_eq_true, decide_eq_true_eq] at h
      obtain ⟨rfl, h2⟩ := h
      rw [slG_att, dG_att]
      exact vg_att hW0 F.gf.pl (chkE_ok a F h2) fun v => rfl
    · cases h
  | .sub a i, X, C, e, F, h => by
    simp only [chkG] at h
    split at h
    · simp only [Bool.and_eq_true, Bool.not_eq_true'] at h
      rw [slG_sub, dG_sub]
      exact vg_sub hW0 (v_set F.hu) (chkE_ok a F h.1.1) (chkE_ok i F h.1.2) (asg_sub h.2)
    · cases h
  | .tgt ts, X, C, e, F, h => by
    simp only [chkG] at h
    split at h
    · rw [Bool.and_eq_true] at h
      rw [slG_tgt, dG_tgt]
      exact vg_tup F.calm (chkGs_ok ts F h.1 h.2) (dGs_len T ts h.1) (isStarTup (ts := .nil) h.2).2 (isStarTup (ts := .nil) h.2).1
    · cases h
  | .nil, _, _, _, _, h
  | .cons _ _, _, _, _, _, h
  | .star _ _, _, _, _, _, h
  | .lit _, _, _, _, _, h
  | .con _, _, _, _, _, h
  | .tup _, _, _, _, _, h
  | .lst _, _, _, _, _, h
  | .dct _, _, _, _, _, h
  | .bin _ _ _, _, _, _, _, h
  | .neg _, _, _, _, _, h
  | .cmp _ _ _, _, _, _, _, h
  | .chn _ _ _ _ _, _, _, _, _, h
  | .and _ _, _, _, _, _, h
  | .or _ _, _, _, _, _, h
  | .not _, _, _, _, _, h
  | .ife _ _ _, _, _, _, _, h
  | .slc _ _ _, _, _, _, _, h
  | .rvs _, _, _, _, _, h
  | .call _ _, _, _, _, _, h
  | .mk _ _, _, _, _, _, h
  | .mkk _ _ _, _, _, _, _, h
  | .mth _ _ _, _, _, _, _, h
  | .bm _ _ _, _, _, _, _, h
  | .b1 _ _, _, _, _, _, h
  | .max2 _ _, _, _, _, _, h
  | .min2 _ _, _, _, _, _, h
  | .isi _ _, _, _, _, _, h
  | .gin _ _ _, _, _, _, _, h
  | .gget _ _, _, _, _, _, h
  | .srtk _, _, _, _, _, h
  | .lc _ _ _ _ _, _, _, _, _, h
  | .lc2 _ _ _ _ _ _ _, _, _, _, _, h
  | .dc _ _ _ _ _ _, _, _, _, _, h
  | .lam _ _, _, _, _, _, h
  | .cal _ _, _, _, _, _, h
  | .rng _ _, _, _, _, _, h
  | .enm _, _, _, _, _, h
  | .zip _ _, _, _, _, _, h
  | .itm _, _, _, _, _, h
  | .vls _, _, _, _, _, h
  | .eqx _ _ _, _, _, _, _, h
  | .asg _ _, _, _, _, _, h
  | .aug _ _ _, _, _, _, _, h
  | .ex _, _, _, _, _, h
  | .ifs _ _ _, _, _, _, _, h
  | .whl _ _, _, _, _, _, h
  | .for _ _ _, _, _, _, _, h
  | .ret _, _, _, _, _, h
  | .pass, _, _, _, _, h
  | .cont, _, _, _, _, h
  | .par _ _, _, _, _, _, h
  | .rais _ _, _, _, _, _, h
  | .tri _ _, _, _, _, _, h
  | .hnd _ _ _, _, _, _, _, h
  | .wth _ _ _, _, _, _, _, h => by simp [chkG] at h
theorem chkGs_ok : ∀ (i : I) {X : Cx} {C : CC} {es : List Expr}, XF cls ad T k G X C → chkGs G i C es = true → noStar es = true → PGs X es (tGs X cls (slGs i) (dGs T i))
  | .nil, X, C, es, F, h, hs => by
    simp only [chkGs] at h
    split at h
    · have e : dGs T .nil = fun vs r h => match vs with | [] => .ok r h | _ :: _ => .no := by
        funext vs r h
        cases vs <;> rfl
      rw [e]
      exact vgs_nil
    · cases h
  | .cons t ts, X, C, es, F, h, hs => by
    simp only [chkGs] at h
    split at h
    · rw [Bool.and_eq_true] at h
      have e : dGs T (.cons t ts) = fun vs r h => match vs with
        | [] => .no
        | x :: xs => (dG T t x r h).bind fun r' h' => dGs T ts xs r' h' := by
        funext vs r h
        cases vs <;> rfl
      rw [e]
      exact vgs_cons (chkG_ok t F h.1) (chkGs_ok ts F h.2 (star_rest hs)) (asg_cons hs)
    · cases h
  | .star _ _, _, _, _, _, h, _
  | .var _, _, _, _, _, h, _
  | .lit _, _, _, _, _, h, _
  | .con _, _, _, _, _, h, _
  | .tup _, _, _, _, _, h, _
  | .lst _, _, _, _, _, h, _
  | .dct _, _, _, _, _, h, _
  | .bin _ _ _, _, _, _, _, h, _
  | .neg _, _, _, _, _, h, _
  | .cmp _ _ _, _, _, _, _, h, _
  | .chn _ _ _ _ _, _, _, _, _, h, _
  | .and _ _, _, _, _, _, h, _
  | .or _ _, _, _, _, _, h, _
  | .not _, _, _, _, _, h, _
  | .ife _ _ _, _, _, _, _, h, _
  | .att _ _, _, _, _, _, h, _
  | .sub _ _, _, _, _, _, h, _
  | .slc _ _ _, _, _, _, _, h, _
  | .rvs _, _, _, _, _, h, _
  | .call _ _, _, _, _, _, h, _
  | .mk _ _, _, _, _, _, h, _
  | .mkk _ _ _, _, _, _, _, h, _
  | .mth _ _ _, _, _, _, _, h, _
  | .bm _ _ _, _, _, _, _, h, _
  | .b1 _ _, _, _, _, _, h, _
  | .max2 _ _, _, _, _, _, h, _
  | .min2 _ _, _, _, _, _, h, _
  | .isi _ _, _, _, _, _, h, _
  | .gin _ _ _, _, _, _, _, h, _
  | .gget _ _, _, _, _, _, h, _
  | .srtk _, _, _, _, _, h, _
  | .lc _ _ _ _ _, _, _, _, _, h, _
  | .lc2 _ _ _ _ _ _ _, _, _, _, _, h, _
  | .dc _ _ _ _ _ _, _, _, _, _, h, _
  | .lam _ _, _, _, _, _, h, _
  | .cal _ _, _, _, _, _, h, _
  | .rng _ _, _, _, _, _, h, _
  | .enm _, _, _, _, _, h, _
  | .zip _ _, _, _, _, _, h, _
  | .itm _, _, _, _, _, h, _
  | .vls _, _, _, _, _, h, _
  | .tgt _, _, _, _, _, h, _
  | .eqx _ _ _, _, _, _, _, h, _
  | .asg _ _, _, _, _, _, h, _
  | .aug _ _ _, _, _, _, _, h, _
  | .ex _, _, _, _, _, h, _
  | .ifs _ _ _, _, _, _, _, h, _
  | .whl _ _, _, _, _, _, h, _
  | .for _ _ _, _, _, _, _, h, _
  | .ret _, _, _, _, _, h, _
  | .pass, _, _, _, _, h, _
  | .cont, _, _, _, _, h, _
  | .par _ _, _, _, _, _, h, _
  | .rais _ _, _, _, _, _, h, _
  | .tri _ _, _, _, _, _, h, _
  | .hnd _ _ _, _, _, _, _, h, _
  | .wth _ _ _, _, _, _, _, h, _ => by simp [chkGs] at h
end
end
end VI
set_option autoImplicit false
set_option linter.all false
set_option Elab.async false
set_option maxRecDepth 100000
set_option maxHeartbeats 16000000
/-! VI over the hand layer: what the checker lets pass is so: statements. -/
namespace VI
open PySem PySem.Spec PyProof.Rows L2
section
variable {cls ad : Nat → Addr} {T : Tb} {k : Nat} {G : Gc}
theorem noE (σ : L2.St) (c : Nat) (p : PV) (h : VH) (ι : List Addr) (H : Hp) : ¬ W0 σ c p h ι H := fun z => z
theorem asg1 {tg : Expr} {env : Env} (h : noStarE tg = true) : (assignEach [tg] env).map (·.2) = [assign tg env] := by
  cases tg <;> first | rfl | exact absurd h (by simp [noStarE])
theorem never_ret {st : Stmt} {X : Cx} {i : I} (h : ∀ r h, (∃ c p h', dS T i r h = .ex c p r h') ∨ dS T i r h = .no) : PS X st (tS X cls W0 (dS T i)) := vs_never noE h
theorem rais_never (c : Nat) (e : I) (r : Rho) (h : VH) : (∃ c' p h', dS T (.rais c e) r h = .ex c' p r h') ∨ dS T (.rais c e) r h = .no := by
  simp only [dS]
  cases dE T e r h with
  | ok v h1 => exact .inl ⟨_, _, _, rfl⟩
  | ex c p h1 => exact .inl ⟨_, _, _, rfl⟩
  | no => exact .inr rfl
theorem chkG_name {C : CC} {t : I} {y : Str} {py : Pos} (h : chkG G t C (.Name y py) = true) : ∃ i, t = .var i ∧ setC C i y = true := by
  cases t with
  | var i => exact ⟨i, rfl, by simpa only [chkG] using h⟩
  | _ => simp [chkG] at h
/-- a plain store -/
theorem s_asg {X : Cx} {C : CC} {t v : I} {tg x : Expr} {p : Pos} (F : XF cls ad T k G X C) (hg : chkG G t C tg = true) (hv : chkE G v C x = true) (hsw : swapsC C tg x = false) (hst : storesC C tg x = true) (hn : noStarE tg = true) : PS X (.Assign [tg] x p) (tS X cls W0 (dS T (.asg t v))) :=
  vs_asg hW0 (chkE_ok v F hv) (chkG_ok t F hg) (sole_no F hsw) (stores_ok F hst) (asg1 hn)
theorem s_lc {X : Cx} {C : CC} {t t2 it ifs a : I} {own : List Nat} {tg x : Expr} {p : Pos} (F : XF cls ad T k G X C) (hg : chkG G t C tg = true) (hv : chkE G (.lc own t2 it ifs a) C x = true) (hst : storesC C tg x = true) (hn : noStarE tg = true) : PS X (.Assign [tg] x p) (tS X cls W0 (dS T (.asg t (.lc own t2 it ifs a)))) := by
  cases hsw : swapsC C tg x with
  | false => exact s_asg F hg hv hsw hst hn
  | true =>
    simp only [chkE] at hv
    split at hv
    · rename_i elt tg2 iter cs z scope vp
      rw [Bool.and_eq_true, Bool.and_eq_true, Bool.and_eq_true, Bool.and_eq_true, Bool.and_eq_true, decide_eq_true_eq] at hv
      obtain ⟨⟨⟨⟨⟨h0, h1⟩, h2⟩, h3⟩, h4⟩, h5⟩ := hv
      subst h0
      cases tg with
      | Name y py =>
        have hsw2 := hsw
        unfold swapsC scopeOf at hsw
        simp only [Bool.and_eq_true] at hsw
        obtain ⟨i, rfl, hq⟩ := chkG_name hg
        unfold setC at hq
        simp only [Bool.and_eq_true, decide_eq_true_eq] at hq
        obtain ⟨ok, eo, hsl, hs⟩ := comp_own h1
        have FB := F.blk ok.kind
        have ht : ∀ s H D cl fp, PTs (X.blk s H scope (compEnvC scope cl D X.env) fp) cs (tT (X.blk s H scope (compEnvC scope cl D X.env) fp) cls W0 (dT T ifs)) := by
          intro s H D cl fp
          split at h4
          · rw [isNil_ok h4]; exact ts_nil
          · exact pts_one (chkT_ok ifs (FB s H D cl fp) h4)
          · cases h4
        have q := vs_setLc (own := ownN C own) (sl := slG t2) (spos := p) hW0 F.calm (by rw [F.N]; exact F.nd) (by rw [F.N]; exact hq.1.1) (by rw [F.sc]; exact beq_iff_eq.mp hsw.1.1) (py := py) ((swaps_eq F).trans (by rw [hsw2])) (chkI_ok it F h2) (by rw [F.N, F.sc]; exact ok) hsl (fun s H D cl fp => chkG_ok t2 (FB s H D cl fp) h3) ht (fun s H D cl fp => chkE_ok a (FB s H D cl fp) h5) (fun x => fold_no hs)
        rw [eo] at q
        refine vs_cg (fun r h => ?_) q
        simp only [dS, dG]
        show _ = (match dE T (.lc own t2 it ifs a) r h with
          | .ok v h1 => SR.nx (r.set i (some v)) h1
          | .ex c p h1 => .ex c p r h1
          | .no => .no)
        rfl
      | _ => exact absurd hsw (by simp [swapsC, scopeOf])
    · cases hv
theorem s_dc {X : Cx} {C : CC} {t t2 it ifs a b : I} {own : List Nat} {tg x : Expr} {p : Pos} (F : XF cls ad T k G X C) (hg : chkG G t C tg = true) (hv : chkE G (.dc own t2 it ifs a b) C x = true) (hst : storesC C tg x = true) (hn : noStarE tg = true) : PS X (.Assign [tg] x p) (tS X cls W0 (dS T (.asg t (.dc own t2 it ifs a b)))) := by
  cases hsw : swapsC C tg x with
  | false => exact s_asg F hg hv hsw hst hn
  | true =>
    simp only [chkE] at hv
    split at hv
    · rename_i kx vx tg2 iter cs z scope vp
      rw [Bool.and_eq_true, Bool.and_eq_true, Bool.and_eq_true, Bool.and_eq_true, Bool.and_eq_true, Bool.and_eq_true, decide_eq_true_eq] at hv
      obtain ⟨⟨⟨⟨⟨⟨h0, h1⟩, h2⟩, h3⟩, h4⟩, h5⟩, h6⟩ := hv
      subst h0
      cases tg with
      | Name y py =>
        have hsw2 := hsw
        unfold swapsC scopeOf at hsw
        simp only [Bool.and_eq_true] at hsw
        obtain ⟨i, rfl, hq⟩ := chkG_name hg
        unfold setC at hq
        simp only [Bool.and_eq_true, decide_eq_true_eq] at hq
        obtain ⟨ok, eo, hsl, hs⟩ := comp_own h1
        have FB := F.blk ok.kind
        have ht : Blk X scope fun Y => PTs Y cs (tT Y cls W0 (dT T ifs)) := by
          intro s H D cl fp
          split at h4
          · rw [isNil_ok h4]; exact ts_nil
          · exact pts_one (chkT_ok ifs (FB s H D cl fp) h4)
          · cases h4
        have q := vs_setDc (own := ownN C own) (sl := slG t2) (spos := p) F.hu hW0 F.calm (by rw [F.N]; exact F.nd) (by rw [F.N]; exact hq.1.1) (by rw [F.sc]; exact beq_iff_eq.mp hsw.1.1) (py := py) ((swaps_eq F).trans (by rw [hsw2])) (chkI_ok it F h2) (by rw [F.N, F.sc]; exact ok) hsl (fun s H D cl fp => chkG_ok t2 (FB s H D cl fp) h3) ht (fun s H D cl fp => chkE_ok a (FB s H D cl fp) h5) (fun s H D cl fp => chkE_ok b (FB s H D cl fp) h6) (fun x => fold_no hs)
        rw [eo] at q
        refine vs_cg (fun r h => ?_) q
        simp only [dS, dG]
        rfl
      | _ => exact absurd hsw (by simp [swapsC, scopeOf])
    · cases hv
theorem s_par2 {X : Cx} {C : CC} {i j : Nat} {es : I} {x y : Str} {a b : Expr} {px py pt pt2 pos : Pos} {kt k2 : Nat} (F : XF cls ad T k G X C) (hA : chkA G es C [a, b] = true)
    (h : (decide (C.N[i]? = some x) && decide (C.N[j]? = some y) && !Nat.beq i j && lclC C.sc x && lclC C.sc y && decide (stoC C.sc [.Name x px, .Name y py] [a, b] = some (some [x, y]))) = true) :
    PS X (.Assign [.Tuple [.Name x px, .Name y py] kt pt] (.Tuple [a, b] k2 pt2) pos) (tS X cls W0 (dS T (.par (.cons (.var i) (.cons (.var j) .nil)) es))) := by
  simp only [Bool.and_eq_true, decide_eq_true_eq, Bool.not_eq_true'] at h
  obtain ⟨⟨⟨⟨⟨h1, h2⟩, h3⟩, h4⟩, h5⟩, h6⟩ := h
  have q := vs_par2 (px := px) (py := py) (kt := kt) (pt := pt) (k2 := k2) (pt2 := pt2) (pos := pos) hW0 F.calm (by rw [F.N]; exact F.nd) (by rw [F.N]; exact h1) (by rw [F.N]; exact h2) (Nat.ne_of_beq_eq_false h3) (by rw [F.sc]; exact lcl_ok h4) (by rw [F.sc]; exact lcl_ok h5) (chkA_ok es F hA) (stores_tup F h6) (sole_no F rfl)
  refine vs_cg (fun r h => ?_) q
  simp only [dS]
  cases dA T es r h with
  | ok vs h1 =>
    cases vs with
    | nil => rfl
    | cons v vs =>
      cases vs with
      | nil => rfl
      | cons w vs => cases vs <;> rfl
  | ex c p h1 => rfl
  | no => rfl
theorem s_par3 {X : Cx} {C : CC} {i j l : Nat} {es : I} {x y z : Str} {a b c : Expr} {px py pz pt pt2 pos : Pos} {kt k2 : Nat} (F : XF cls ad T k G X C) (hA : chkA G es C [a, b, c] = true)
    (h : (decide (C.N[i]? = some x) && decide (C.N[j]? = some y) && decide (C.N[l]? = some z) && !Nat.beq i j && !Nat.beq i l && !Nat.beq j l && lclC C.sc x && lclC C.sc y && lclC C.sc z && decide (stoC C.sc [.Name x px, .Name y py, .Name z pz] [a, b, c] = some (some [x, y, z]))) = true) :
    PS X (.Assign [.Tuple [.Name x px, .Name y py, .Name z pz] kt pt] (.Tuple [a, b, c] k2 pt2) pos) (tS X cls W0 (dS T (.par (.cons (.var i) (.cons (.var j) (.cons (.var l) .nil))) es))) := by
  simp only [Bool.and_eq_true, decide_eq_true_eq, Bool.not_eq_true'] at h
  obtain ⟨⟨⟨⟨⟨⟨⟨⟨⟨h1, h2⟩, h3⟩, h4⟩, h5⟩, h6⟩, h7⟩, h8⟩, h9⟩, h10⟩ := h
  have q := vs_par3 (px := px) (py := py) (pz := pz) (kt := kt) (pt := pt) (k2 := k2) (pt2 := pt2) (pos := pos) hW0 F.calm (by rw [F.N]; exact F.nd) (by rw [F.N]; exact h1) (by rw [F.N]; exact h2) (by rw [F.N]; exact h3) (Nat.ne_of_beq_eq_false h4) (Nat.ne_of_beq_eq_false h5) (Nat.ne_of_beq_eq_false h6) (by rw [F.sc]; exact lcl_ok h7) (by rw [F.sc]; exact lcl_ok h8) (by rw [F.sc]; exact lcl_ok h9) (chkA_ok es F hA) (stores_tup F h10) (sole_no F rfl)
  refine vs_cg (fun r h => ?_) q
  simp only [dS]
  cases dA T es r h with
  | ok vs h1 =>
    cases vs with
    | nil => rfl
    | cons v vs =>
      cases vs with
      | nil => rfl
      | cons w vs =>
        cases vs with
        | nil => rfl
        | cons u vs => cases vs <;> rfl
  | ex c p h1 => rfl
  | no => rfl
theorem pass_own {X : Cx} {C : CC} (F : XF cls ad T k G X C) : PassesOwn (model X.prog X.w) X.A X.env X.xe := by
  rw [F.xe]
  exact PassesOwn.never
theorem plain_asg {C : CC} {t v : I} {st : Stmt} (h : chkS G (.asg t v) C st = true) : (∃ own t2 it ifs a, v = .lc own t2 it ifs a) ∨ (∃ own t2 it ifs a b, v = .dc own t2 it ifs a b) ∨ ∃ tg x p, st = .Assign [tg] x p ∧ chkG G t C tg = true ∧ chkE G v C x = true ∧ isComp x = false ∧ storesC C tg x = true ∧ noStarE tg = true := by
  cases v with
  | lc own t2 it ifs a => exact .inl ⟨_, _, _, _, _, rfl⟩
  | dc own t2 it ifs a b => exact .inr (.inl ⟨_, _, _, _, _, _, rfl⟩)
  | _ =>
    simp only [chkS] at h
    split at h
    · simp only [Bool.and_eq_true, Bool.not_eq_true'] at h
      exact .inr (.inr ⟨_, _, _, rfl, h.1.1.1.1, h.1.1.1.2, h.1.1.2, h.1.2, h.2⟩)
    · cases h
theorem chkS_asg {X : Cx} {C : CC} {t v : I} {st : Stmt} (F : XF cls ad T k G X C) (h : chkS G (.asg t v) C st = true) : PS X st (tS X cls W0 (dS T (.asg t v))) := by
  rcases plain_asg h with ⟨own, t2, it, ifs, a, rfl⟩ | ⟨own, t2, it, ifs, a, b, rfl⟩ | ⟨tg, x, p, rfl, h1, h2, h3, h4, h5⟩
  · simp only [chkS] at h
    split at h
    · simp only [Bool.and_eq_true] at h
      exact s_lc F h.1.1.1 h.1.1.2 h.1.2 h.2
    · cases h
  · simp only [chkS] at h
    split at h
    · simp only [Bool.and_eq_true] at h
      exact s_dc F h.1.1.1 h.1.1.2 h.1.2 h.2
    · cases h
  · exact s_asg F h1 h2 (swaps_none h3) h4 h5
mutual
theorem chkS_ok : ∀ (i : I) {X : Cx} {C : CC} {st : Stmt}, XF cls ad T k G X C → chkS G i C st = true → PS X st (tS X cls W0 (dS T i))
  | .asg t v, X, C, st, F, h => chkS_asg F h
  | .par ts es, X, C, st, F, h => by
    simp only [chkS] at h
    split at h
    · rename_i tgs k1 p1 vals k2 p2 pos
      rw [Bool.and_eq_true] at h
      obtain ⟨hA, h⟩ := h
      split at h
      · exact s_par2 F hA h
      · exact s_par3 F hA h
      · cases h
    · cases h
  | .aug i o v, X, C, st, F, h => by
    simp only [chkS] at h
    split at h
    · rw [Bool.and_eq_true, Bool.and_eq_true] at h
      obtain ⟨⟨h1, h2⟩, h3⟩ := h
      unfold setC at h1
      simp only [Bool.and_eq_true, decide_eq_true_eq] at h1
      refine vs_aug ?_ hW0 (by rw [F.N]; exact F.nd) (by rw [F.N]; exact h1.1.1) (loc_ok (by rw [F.sc]; exact h1.1.2)) (by rw [F.sc]; exact F.fn _ h1.2) (chkE_ok v F h2)
      split at h3
      · exact .inl ⟨rfl, rfl⟩
      · exact .inr ⟨rfl, rfl⟩
      · cases h3
    · cases h
  | .ex v, X, C, st, F, h => by
    simp only [chkS] at h
    split at h
    · simp only [Bool.and_eq_true, Bool.not_eq_true'] at h
      exact vs_ex hW0 (chkE_ok v F h.1) (swaps_no h.2)
    · cases h
  | .ifs t a b, X, C, st, F, h => by
    simp only [chkS] at h
    split at h
    · simp only [Bool.and_eq_true] at h
      exact vs_if hW0 (chkT_ok t F h.1.1) (chkSs_ok a F h.1.2) (chkSs_ok b F h.2)
    · cases h
  | .whl t b, X, C, st, F, h => by
    simp only [chkS] at h
    split at h
    · rw [Bool.and_eq_true] at h
      exact vs_while hW0 (pass_own F) (chkT_ok t F h.1) (chkSs_ok b F h.2) fuel
    · cases h
  | .for t it b, X, C, st, F, h => by
    simp only [chkS] at h
    split at h
    · simp only [Bool.and_eq_true, Bool.not_eq_true'] at h
      exact vs_for noE (pass_own F) F.calm (chkI_ok it F h.1.1.2) (chkG_ok t F h.1.1.1) (chkSs_ok b F h.1.2) (fun x => fold_no h.2)
    · cases h
  | .ret v, X, C, st, F, h => by
    simp only [chkS] at h
    split at h
    · exact vs_ret hW0 (chkE_ok v F h)
    · cases h
  | .pass, X, C, st, F, h => by
    simp only [chkS] at h
    split at h
    · exact vs_pass
    · cases h
  | .cont, X, C, st, F, h => by
    simp only [chkS] at h
    split at h
    · exact vs_cont
    · cases h
  | .rais c e, X, C, st, F, h => never_ret (rais_never c e)
  | .tri _ _, X, C, st, F, h => vs_no fun _ _ => rfl
  | .wth _ _ _, X, C, st, F, h => vs_no fun _ _ => rfl
  | .nil, _, _, _, _, h
  | .cons _ _, _, _, _, _, h
  | .star _ _, _, _, _, _, h
  | .var _, _, _, _, _, h
  | .lit _, _, _, _, _, h
  | .con _, _, _, _, _, h
  | .tup _, _, _, _, _, h
  | .lst _, _, _, _, _, h
  | .dct _, _, _, _, _, h
  | .bin _ _ _, _, _, _, _, h
  | .neg _, _, _, _, _, h
  | .cmp _ _ _, _, _, _, _, h
  | .chn _ _ _ _ _, _, _, _, _, h
  | .and _ _, _, _, _, _, h
  | .or _ _, _, _, _, _, h
  | .not _, _, _, _, _, h
  | .ife _ _ _, _, _, _, _, h
  | .att _ _, _, _, _, _, h
  | .sub _ _, _, _, _, _, h
  | .slc _ _ _, _, _, _, _, h
  | .rvs _, _, _, _, _, h
  | .call _ _, _, _, _, _, h
  | .mk _ _, _, _, _, _, h
  | .mkk _ _ _, _, _, _, _, h
  | .mth _ _ _, _, _, _, _, h
  | .bm _ _ _, _, _, _, _, h
  | .b1 _ _, _, _, _, _, h
  | .max2 _ _, _, _, _, _, h
  | .min2 _ _, _, _, _, _, h
  | .isi _ _, _, _, _, _, h
  | .gin _ _ _, _, _, _, _, h
  | .gget _ _, _, _, _, _, h
  | .srtk _, _, _, _, _, h
  | .lc _ _ _ _ _, _, _, _, _, h
  | .lc2 _ _ _ _ _ _ _, _, _, _, _, h
  | .dc _ _ _ _ _ _, _, _, _, _, h
  | .lam _ _, _, _, _, _, h
  | .cal _ _, _, _, _, _, h
  | .rng _ _, _, _, _, _, h
  | .enm _, _, _, _, _, h
  | .zip _ _, _, _, _, _, h
  | .itm _, _, _, _, _, h
  | .vls _, _, _, _, _, h
  | .tgt _, _, _, _, _, h
  | .eqx _ _ _, _, _, _, _, h
  | .hnd _ _ _, _, _, _, _, h => by simp [chkS] at h
theorem chkSs_ok : ∀ (i : I) {X : Cx} {C : CC} {st : List Stmt}, XF cls ad T k G X C → chkSs G i C st = true → PSs X st (tS X cls W0 (dSs T i))
  | .nil, X, C, st, F, h => by
    simp only [chkSs] at h
    split at h
    · exact vss_nil
    · cases h
  | .cons a b, X, C, st, F, h => by
    simp only [chkSs] at h
    split at h
    · rw [Bool.and_eq_true] at h
      exact vss_cons (chkS_ok a F h.1) (chkSs_ok b F h.2)
    · cases h
  | .star _ _, _, _, _, _, h
  | .var _, _, _, _, _, h
  | .lit _, _, _, _, _, h
  | .con _, _, _, _, _, h
  | .tup _, _, _, _, _, h
  | .lst _, _, _, _, _, h
  | .dct _, _, _, _, _, h
  | .bin _ _ _, _, _, _, _, h
  | .neg _, _, _, _, _, h
  | .cmp _ _ _, _, _, _, _, h
  | .chn _ _ _ _ _, _, _, _, _, h
  | .and _ _, _, _, _, _, h
  | .or _ _, _, _, _, _, h
  | .not _, _, _, _, _, h
  | .ife _ _ _, _, _, _, _, h
  | .att _ _, _, _, _, _, h
  | .sub _ _, _, _, _, _, h
  | .slc _ _ _, _, _, _, _, h
  | .rvs _, _, _, _, _, h
  | .call _ _, _, _, _, _, h
  | .mk _ _, _, _, _, _, h
  | .mkk _ _ _, _, _, _, _, h
  | .mth _ _ _, _, _, _, _, h
  | .bm _ _ _, _, _, _, _, h
  | .b1 _ _, _, _, _, _, h
  | .max2 _ _, _, _, _, _, h
  | .min2 _ _, _, _, _, _, h
  | .isi _ _, _, _, _, _, h
  | .gin _ _ _, _, _, _, _, h
  | .gget _ _, _, _, _, _, h
  | .srtk _, _, _, _, _, h
  | .lc _ _ _ _ _, _, _, _, _, h
  | .lc2 _ _ _ _ _ _ _, _, _, _, _, h
  | .dc _ _ _ _ _ _, _, _, _, _, h
  | .lam _ _, _, _, _, _, h
  | .cal _ _, _, _, _, _, h
  | .rng _ _, _, _, _, _, h
  | .enm _, _, _, _, _, h
  | .zip _ _, _, _, _, _, h
  | .itm _, _, _, _, _, h
  | .vls _, _, _, _, _, h
  | .tgt _, _, _, _, _, h
  | .eqx _ _ _, _, _, _, _, h
  | .asg _ _, _, _, _, _, h
  | .aug _ _ _, _, _, _, _, h
  | .ex _, _, _, _, _, h
  | .ifs _ _ _, _, _, _, _, h
  | .whl _ _, _, _, _, _, h
  | .for _ _ _, _, _, _, _, h
  | .ret _, _, _, _, _, h
  | .pass, _, _, _, _, h
  | .cont, _, _, _, _, h
  | .par _ _, _, _, _, _, h
  | .rais _ _, _, _, _, _, h
  | .tri _ _, _, _, _, _, h
  | .hnd _ _ _, _, _, _, _, h
  | .wth _ _ _, _, _, _, _, h => by simp [chkSs] at h
end
end
end VI
set_option autoImplicit false
set_option linter.all false
set_option Elab.async false
set_option maxRecDepth 100000
set_option maxHeartbeats 4000000
/-! VI over the hand layer: a def keeps what its term says. -/
namespace VI
open PySem PySem.Spec PyProof.Rows L2
/-! ### trees of numbers -/
inductive Tr (α : Type) where
  | e | n (k : Nat) (v : α) (l r : Tr α)
def Tr.get {α : Type} : Tr α → Nat → Option α
  | .e, _ => none
  | .n k v l r, i => if Nat.beq i k then some v else if Nat.blt i k then l.get i else r.get i
def Tr.all {α : Type} (p : Nat → α → Bool) : Tr α → Bool
  | .e => true
  | .n k v l r => p k v && (l.all p && r.all p)
theorem Tr.all_get {α : Type} {p : Nat → α → Bool} : ∀ {t : Tr α}, t.all p = true → ∀ {i : Nat} {v : α}, t.get i = some v → p i v = true
  | .e, _, _, _, q => by cases q
  | .n k v l r, h, i, w, q => by
    simp only [Tr.all, Bool.and_eq_true] at h
    simp only [Tr.get] at q
    split at q
    · rename_i hk
      cases q
      rw [Nat.eq_of_beq_eq_true hk]
      exact h.1
    · split at q
      · exact Tr.all_get h.2.1 q
      · exact Tr.all_get h.2.2 q
section
variable {P : Program} {w : World} {K : PySem.W.Frag} {mg : Str → Option Value} {base : Heap} {cls ad : Nat → Addr} {T : Tb} {k : Nat} {G : Gc}
theorem start_get {α : Type} (N : Nat) (vs : List α) (i : Nat) : (vs.map some ++ List.replicate (N - vs.length) none)[i]? = if i < vs.length then (vs[i]?).map some else if i < vs.length + (N - vs.length) then some none else none := by
  by_cases h : i < vs.length
  · rw [if_pos h, List.getElem?_append_left (by simpa using h), List.getElem?_map]
  · rw [if_neg h, List.getElem?_append_right (by simp; omega)]
    simp only [List.length_map]
    by_cases h2 : i < vs.length + (N - vs.length)
    · rw [if_pos h2, List.getElem?_replicate]
      rw [if_pos (by omega)]
    · rw [if_neg h2, List.getElem?_replicate]
      rw [if_neg (by omega)]
theorem rr_start {ι : List Addr} {H : Hp} {ps : List PV} {vs : List V} {N : List Str} (r : RVs K ι H ps vs) : RR K ι H (VI.start N.length ps) (L2.start N vs) := by
  have hl := r.length
  refine ⟨by simp [VI.start, L2.start, hl], fun i p e => ?_⟩
  unfold VI.start at e
  unfold L2.start
  rw [start_get] at e
  rw [start_get]
  split at e
  · rename_i h
    obtain ⟨q, e1, e2⟩ := Option.map_eq_some_iff.mp e
    cases e2
    obtain ⟨v, ev, rv⟩ := r.get e1
    refine ⟨v, ?_, rv⟩
    rw [if_pos (by rw [hl]; exact h), ev]
    rfl
  · split at e <;> cases e
/-- the def at f keeps what the term says, two levels above what it calls -/
theorem fn_ok {x qual : Str} {params : Arguments} {body : List Stmt} {scope : Scope} {dvs : List V} {kws : List (Str × V)} {f : Addr} {fd : FuncData} {N ps : List Str} {d : Fd}
    (F : FunD K x qual params body scope dvs kws f fd) (S : FnScope N ps scope) (hn : d.n = N.length) (hc : chkSs G d.body ⟨N, scope, none⟩ body = true) (g : GF P w K mg base cls ad T k G) :
    FnOk P w K mg base CX0 (k + 2) f fd ps (spV P w K cls ps.length (runB T d)) := by
  refine F.ok (k := k + 1) S (fun vs H Q E h => h.1) fun cdv A outer s H vs Q E hr h => ?_
  obtain ⟨hl, ι, h0, ps', R, rv, hw⟩ := h
  let X := cxOf CX0 P w K mg base N qual scope f cdv A outer s H E
  have XX : XF cls ad T k G X.nox ⟨N, scope, none⟩ := ⟨rfl, rfl, S.kind, S.nd, rfl, hr, fun _ _ => .inl rfl, rfl, g⟩
  refine ⟨tS X.nox cls W0 (dSs T d.body), PSs.nox (chkSs_ok d.body XX hc), ?_⟩
  refine ⟨ι, VI.start N.length ps', h0, R, rr_start rv, ?_⟩
  unfold runB at hw
  rw [hn] at hw
  cases hr : dSs T d.body (VI.start N.length ps') h0 with
  | nx r h1 => rw [hr] at hw; exact fun ι' H' σ' l kp R' _ => hw ι' H' .non l kp R' rfl
  | rt v h1 => rw [hr] at hw; exact hw
  | ct r h1 => rw [hr] at hw; exact hw.elim
  | ex c p r h1 => rw [hr] at hw; exact hw.elim
  | no => rw [hr] at hw; exact hw.elim
end
end VI
set_option autoImplicit false
set_option linter.all false
set_option Elab.async false
set_option maxRecDepth 100000
set_option maxHeartbeats 4000000
/-! VI over the hand layer: how the arguments of a plain def are bound. -/
namespace VI
open PySem PySem.Spec PyProof.Rows L2
def simpleP (p : Arguments) (ps : List Str) : Bool := match p with
  | ⟨[], as, none, [], _, none, _⟩ => decide (as.map (·.arg) = ps) && decide ps.Nodup
  | _ => false
theorem look_zip {α : Type} : ∀ {ps : List Str} {us : List α}, us.length = ps.length → ∀ x ∈ ps, ∃ v, (ps.zip us).lookup x = some v
  | [], _, _, x, h => by simp at h
  | p :: ps, [], hl, _, _ => by simp at hl
  | p :: ps, u :: us, hl, x, h => by
    simp only [List.zip_cons_cons, List.lookup_cons]
    cases hx : x == p with
    | true => exact ⟨u, rfl⟩
    | false =>
      rcases List.mem_cons.mp h with rfl | h
      · simp at hx
      · exact look_zip (by simpa using hl) x h
theorem zip_filter {α : Type} : ∀ {ps : List Str} {us : List α} {f : Str → Option α}, us.length = ps.length → ps.Nodup → (∀ q ∈ ps.zip us, f q.1 = some q.2) → ps.filterMap (fun n => (f n).map (n, ·)) = ps.zip us
  | [], us, f, hl, _, _ => by cases us <;> rfl
  | p :: ps, [], f, hl, _, _ => by simp at hl
  | p :: ps, u :: us, f, hl, nd, h => by
    have h1 := h (p, u) (by simp)
    rw [List.filterMap_cons, h1]
    simp only [Option.map_some, List.zip_cons_cons]
    rw [zip_filter (by simpa using hl) (List.nodup_cons.mp nd).2 fun q hq => h q (by simp [hq])]
theorem look_mem {α : Type} : ∀ {ps : List Str} {us : List α}, ps.Nodup → ∀ q ∈ ps.zip us, (ps.zip us).lookup q.1 = some q.2
  | [], _, _, q, h => by simp at h
  | p :: ps, [], _, q, h => by simp at h
  | p :: ps, u :: us, nd, q, h => by
    simp only [List.zip_cons_cons, List.lookup_cons]
    rw [List.zip_cons_cons] at h
    rcases List.mem_cons.mp h with rfl | h
    · simp
    · have hm : q.1 ∈ ps := (List.of_mem_zip (a := q.1) (b := q.2) h).1
      have : (q.1 == p) = false := by
        rw [beq_eq_false_iff_ne]
        intro e
        rw [e] at hm
        exact (List.nodup_cons.mp nd).1 hm
      rw [this]
      exact look_mem (List.nodup_cons.mp nd).2 q h
theorem bind_simple {x qual : Str} {params : Arguments} {body : List Stmt} {scope : Scope} {ps : List Str} (h : simpleP params ps = true) (kV doc pm : Value) (an : Option Addr) (cdv ct : Value) (us : List Value) (hl : us.length = ps.length) :
    bindArgs (PySem.W.fnOf x qual params body scope .none kV doc pm an cdv ct) ⟨us, []⟩ = pure (ps.zip us) := by
  unfold simpleP at h
  split at h
  · rename_i as kd df
    simp only [Bool.and_eq_true, decide_eq_true_eq] at h
    obtain ⟨rfl, nd⟩ := h
    have hl' : us.length = as.length := by simpa using hl
    have e1 : ∀ k, ((as.map (·.arg)).take k).filter (fun n => (((as.map (·.arg)).zip us).lookup n).isNone) = [] := by
      intro k
      rw [List.filter_eq_nil_iff]
      intro n hn
      obtain ⟨v, e⟩ := look_zip hl n (List.mem_of_mem_take hn)
      rw [e]
      simp
    have e2 := zip_filter (f := fun n => ((as.map (·.arg)).zip us).lookup n) hl nd (look_mem nd)
    unfold bindArgs PySem.W.fnOf
    simp only [List.map_nil, List.nil_append, List.append_nil, List.length_map]
    simp [hl', seqItems?, notAStandIn]
    refine (if_neg ?_).trans ?_
    · rw [e1]
      decide
    · rw [← List.filterMap_map]
      exact congrArg pure e2
  · cases h
end VI
set_option autoImplicit false
set_option linter.all false
set_option Elab.async false
set_option maxRecDepth 100000
set_option maxHeartbeats 4000000
/-! VI over the hand layer: a module by its tables. -/
namespace VI
open PySem PySem.Spec PyProof.Rows L2
/-- a def: where and what it is, its slots, its parameters, its term, the values that may be left out -/
structure FnE where
  d : He.DefD
  N : List Str
  ps : List Str
  body : I
  ds : List PV
  ko : Bool
structure MD where
  G : Gc
  fs : Tr FnE
  il : Tr Nat
  ml : Tr (List (Str × Nat))
  fl : Tr (List Str)
  co : Tr PV
  gd : Tr (List (Str × PV))
  cn : Tr Str
  dc : Str
  own : List Nat
def kitG (own : List Nat) (t : TC) (k : TyK) : Option Bool := match t, k with
  | .int, .int => some true
  | .bool, .int => some true
  | .bool, .bool => some true
  | .str, .str => some true
  | .tuple, .tuple => some true
  | .list, .list => some true
  | .dict, .dict => some true
  | .own c, .own d => if own.contains c && own.contains d then some (Nat.beq c d) else none
  | .own c, _ => if own.contains c then some false else none
  | _, .own d => if own.contains d then some false else none
  | _, _ => some false
def MD.T0 (M : MD) : Tb where
  fn := fun _ _ _ => .no
  init := M.il.get
  meth := fun c m => match M.ml.get c with
    | some l => l.lookup m
    | none => none
  prop := fun _ _ => none
  par := fun f => match M.fs.get f with
    | some e => (e.ps.length, e.ds, e.ko)
    | none => (1000000, [], false)
  plain := fun c f => match M.fl.get c with
    | some l => l.contains f
    | none => false
  con := M.co.get
  gd := M.gd.get
  kit := kitG M.own
def MD.B (M : MD) (f : Nat) : Option Fd := match M.fs.get f with
  | some e => some ⟨e.N.length, e.body⟩
  | none => none
def MD.cls (M : MD) (K : PySem.W.Frag) (c : Nat) : Addr := He.ga K ((M.cn.get c).getD M.dc)
def MD.ad (M : MD) (K : PySem.W.Frag) (f : Nat) : Addr := match M.fs.get f with
  | some e => He.fAd K e.d.at_
  | none => 0
/-! ### looking at what stands -/
mutual
def pvB (K : PySem.W.Frag) : PV → Value → Bool
  | .non, .none => true
  | .bl a, .bool b => a == b
  | .int i, .int j _ => decide (i = j)
  | .str x, .str y _ => decide (x = y)
  | .tup xs, .ref a => (match K.lookup a with
    | some ⟨.type c, _, .seq its _, _⟩ => decide (c = "tuple") && (decide (its.size ≤ sizeLine) && pvsB K xs its.toList)
    | _ => false)
  | _, _ => false
def pvsB (K : PySem.W.Frag) : List PV → List Value → Bool
  | [], [] => true
  | x :: xs, u :: us => pvB K x u && pvsB K xs us
  | _, _ => false
end
section
variable {K : PySem.W.Frag}
mutual
theorem pvB_ok : ∀ (v : PV) (u : Value), pvB K v u = true → ∃ y, RelV y u ∧ ∀ ι H, RV K ι H v y
  | .non, u, h => by
    cases u with
    | none => exact ⟨.non, rfl, fun _ _ => rfl⟩
    | _ => simp [pvB] at h
  | .bl a, u, h => by
    cases u with
    | bool b =>
      have e : a = b := by simpa [pvB] using h
      exact ⟨.bl a, by rw [e]; rfl, fun _ _ => rfl⟩
    | _ => simp [pvB] at h
  | .int i, u, h => by
    cases u with
    | int j t =>
      have e : i = j := by simpa [pvB] using h
      exact ⟨.int i, ⟨t, by rw [e]⟩, fun _ _ => rfl⟩
    | _ => simp [pvB] at h
  | .str i, u, h => by
    cases u with
    | str j t =>
      have e : i = j := by simpa [pvB] using h
      exact ⟨.str i, ⟨t, by rw [e]⟩, fun _ _ => rfl⟩
    | _ => simp [pvB] at h
  | .tup xs, u, h => by
    cases u with
    | ref a =>
      simp only [pvB] at h
      split at h
      · rename_i c od its n sl q
        simp only [Bool.and_eq_true, decide_eq_true_eq] at h
        obtain ⟨rfl, h2, h3⟩ := h
        obtain ⟨ys, r1, r2⟩ := pvsB_ok xs its.toList h3
        exact ⟨.ref a, rfl, fun ι H => ⟨a, ys, rfl, .inr ⟨_, its, n, q, rfl, rfl, h2, r1⟩, r2 ι H⟩⟩
      · cases h
    | _ => simp [pvB] at h
  | .ref i, u, h => by cases u <;> simp [pvB] at h
  | .err _ _, u, h => by cases u <;> simp [pvB] at h
theorem pvsB_ok : ∀ (v : List PV) (u : List Value), pvsB K v u = true → ∃ y, Vals y u ∧ ∀ ι H, RVs K ι H v y
  | [], u, h => by
    cases u with
    | nil => exact ⟨[], .nil, fun _ _ => rfl⟩
    | cons a b => simp [pvsB] at h
  | x :: xs, u, h => by
    cases u with
    | nil => simp [pvsB] at h
    | cons a b =>
      simp only [pvsB, Bool.and_eq_true] at h
      obtain ⟨y, r1, r2⟩ := pvB_ok x a h.1
      obtain ⟨ys, q1, q2⟩ := pvsB_ok xs b h.2
      exact ⟨y :: ys, .cons r1 q1, fun ι H => ⟨y, ys, rfl, r2 ι H, q2 ι H⟩⟩
end
/-- a dict's entries as the table has them -/
def esB (K : PySem.W.Frag) : List (Str × PV) → List DictEntry → Bool
  | [], [] => true
  | x :: xs, e :: es => (match e.key with
    | .str y _ => decide (y = x.1)
    | _ => false) && (pvB K x.2 e.val && esB K xs es)
  | _, _ => false
theorem esB_ok : ∀ {xs : List (Str × PV)} {es : List DictEntry}, esB K xs es = true → EsRel K xs es
  | [], [], _ => rfl
  | [], _ :: _, h => by simp [esB] at h
  | _ :: _, [], h => by simp [esB] at h
  | x :: xs, e :: es, h => by
    simp only [esB, Bool.and_eq_true] at h
    obtain ⟨h1, h2, h3⟩ := h
    obtain ⟨v, r1, r2⟩ := pvB_ok _ _ h2
    refine ⟨e, es, v, rfl, ?_, r1, r2, esB_ok h3⟩
    split at h1
    · rename_i y t q
      rw [decide_eq_true_eq] at h1
      exact ⟨t, by rw [q, h1]⟩
    · cases h1
def gdB (K : PySem.W.Frag) (a : Addr) (kvs : List (Str × PV)) : Bool := match K.lookup a with
  | some ⟨_, _, .dict es _, _⟩ => esB K kvs es.toList
  | _ => false
theorem gdB_ok {w : World} {a : Addr} {kvs : List (Str × PV)} (h : gdB K a kvs = true) (D : ∃ es n, KDict K w a es n) : GD K w a kvs := by
  obtain ⟨es, n, D⟩ := D
  unfold gdB at h
  rw [D.at_] at h
  exact ⟨es, n, D, esB_ok h⟩
/-! ### the kinds -/
def tcs (own : List Nat) : List TC := [.non, .bool, .int, .str, .tuple, .list, .dict] ++ own.map .own
def tys (own : List Nat) : List TyK := [.int, .bool, .str, .tuple, .list, .dict] ++ own.map .own
def kitB (K : PySem.W.Frag) (cls : Nat → Addr) (own : List Nat) : Bool := (tcs own).all fun t => (tys own).all fun k => match kitG own t k with
  | some b => decide (PySem.W.kitOne K (tcV cls t) (tyV' cls k) = some b)
  | none => true
theorem kitB_ok {cls : Nat → Addr} {own : List Nat} (h : kitB K cls own = true) (t : TC) (k : TyK) (b : Bool) (e : kitG own t k = some b) : PySem.W.kitOne K (tcV cls t) (tyV' cls k) = some b := by
  have ht : t ∈ tcs own := by
    cases t with
    | own c =>
      have hc : own.contains c = true := by
        cases k with
        | own d =>
          simp only [kitG] at e
          split at e
          · rename_i z; rw [Bool.and_eq_true] at z; exact z.1
          · cases e
        | _ =>
          simp only [kitG] at e
          split at e
          · assumption
          · cases e
      unfold tcs
      rw [List.mem_append]
      right
      exact List.mem_map.mpr ⟨c, by simpa using hc, rfl⟩
    | _ => simp [tcs]
  have hk : k ∈ tys own := by
    cases k with
    | own d =>
      have hd : own.contains d = true := by
        cases t with
        | own c =>
          simp only [kitG] at e
          split at e
          · rename_i z; rw [Bool.and_eq_true] at z; exact z.2
          · cases e
        | _ =>
          simp only [kitG] at e
          split at e
          · assumption
          · cases e
      unfold tys
      rw [List.mem_append]
      right
      exact List.mem_map.mpr ⟨d, by simpa using hd, rfl⟩
    | _ => simp [tys]
  have q := List.all_eq_true.mp (List.all_eq_true.mp h t ht) k hk
  rw [e] at q
  simpa using q
end
/-! ### values that may be left out -/
/-- the keyword-only default x of the def at f, if it is an object -/
def kwdAt (f : Str × Option Str) (x : Str) (K : PySem.W.Frag) : Addr := match K.lookup (He.fAd K f) with
  | some ⟨_, _, .func fd, _⟩ => (match fd.kwdefaults with
    | .ref D => (match PySem.W.nsIn K D x with
      | some (some (.ref a)) => a
      | _ => 0)
    | _ => 0)
  | _ => 0
def dvB (K : PySem.W.Frag) : PV → He.Dv → Bool
  | .non, .non => true
  | .bl a, .bl b => a == b
  | .int i, .int j => decide (i = j)
  | .str x, .str y => decide (x = y)
  | .tup xs, .adr q => pvB K (.tup xs) (.ref (q K))
  | _, _ => false
theorem dvB_ok {K : PySem.W.Frag} {p : PV} {d : He.Dv} (h : dvB K p d = true) (ι : List Addr) (H : Hp) : RV K ι H p (d.v K) := by
  unfold dvB at h
  split at h
  · rfl
  · rw [beq_iff_eq] at h; subst h; rfl
  · rw [decide_eq_true_eq] at h; subst h; rfl
  · rw [decide_eq_true_eq] at h; subst h; rfl
  · rename_i xs q
    obtain ⟨y, r1, r2⟩ := pvB_ok _ _ h
    have := r2 ι H
    obtain ⟨a, ys, rfl, q1, q2⟩ := this
    have e : q K = a := by
      have z : Value.ref (q K) = Value.ref a := r1
      cases z
      rfl
    exact ⟨a, ys, by show V.ref (q K) = _; rw [e], q1, q2⟩
  · cases h
def dvsB (K : PySem.W.Frag) : List PV → List He.Dv → Bool
  | [], [] => true
  | p :: ps, d :: ds => dvB K p d && dvsB K ps ds
  | _, _ => false
def FnE.dvs (e : FnE) : List He.Dv := if e.ko then e.d.kwd.map (·.2) else e.d.dfl
/-! ### all of it -/
def clsB (K : PySem.W.Frag) (x : Str) : Bool := decide (PySem.W.findIn K (.ref (He.ga K x)) "__class__" = some (some (.builtin "object.__class__"))) && decide (PySem.W.mroIn K (He.ga K x) (.type "object") = some true)
def MD.at_ (M : MD) (f : Nat) : Option (Str × Option Str) := (M.fs.get f).map fun e => e.d.at_
/-- how the classes with an own __eq__ stand to one another -/
def MD.eqB (M : MD) (K : PySem.W.Frag) : Bool := M.ml.all fun c l => match l.lookup ("__eq__" : Str) with
  | some _ => decide (PySem.W.findIn K (.ref (M.cls K c)) "__ne__" = some (some (.builtin "object.__ne__"))) && M.ml.all fun c2 l2 => match l2.lookup ("__eq__" : Str) with
    | some _ => PySem.W.notFirst K (M.cls K c) (.ref (M.cls K c2))
    | none => true
  | none => true
def MD.okB (M : MD) (K : PySem.W.Frag) : Bool :=
  (M.G.fn.all fun q => decide (M.at_ q.2 = some (q.1, none)) && (He.Fa.glo q.1).ok K) &&
  ((M.G.cl.all fun q => decide (M.cn.get q.2 = some q.1) && ((He.Fa.glo q.1).ok K && ((He.Fa.cls q.1).ok K && (He.Fa.mkr q.1).ok K))) &&
  ((M.il.all fun c f => match M.cn.get c with
    | some x => decide (M.at_ f = some (x, some ("__init__" : Str)))
    | none => false) &&
  ((M.ml.all fun c l => match M.cn.get c with
    | some x => l.all fun q => decide (M.at_ q.2 = some (x, some q.1)) && ((He.Fa.meth x q.1).ok K && !(q.1 == ("__getitem__" : Str)))
    | none => false) &&
  ((M.fl.all fun c l => match M.cn.get c with
    | some x => l.all fun f => (He.Fa.noat x f).ok K
    | none => false) &&
  ((M.G.co.all fun q => match M.co.get q.2, PySem.W.nsIn K mainGlobals q.1 with
    | some v, some (some u) => pvB K v u
    | _, _ => false) &&
  ((M.G.gd.all fun q => match M.gd.get q.2 with
    | some kvs => (He.Fa.glo q.1).ok K && gdB K (He.ga K q.1) kvs
    | none => false) &&
  ((M.G.fr.all fun x => (He.Fa.free x).ok K) &&
  ((kitB K (M.cls K) M.own && M.eqB K) && (decide (PySem.W.specialIn K (.builtin "object.__class__") "__get__" = some (some (.builtin "getset_descriptor.__get__"))) && (decide (PySem.W.takesIn K (.builtin "object.__class__") = some true) &&
  (clsB K M.dc && (M.cn.all (fun _ x => clsB K x) && M.fs.all fun _ e => dvsB K e.ds e.dvs))))))))))))
section
variable {P : Program} {w : World} {K : PySem.W.Frag} {mg : Str → Option Value} {base : Heap} {T : Tb} {k : Nat} {M : MD}
/-- its arguments are bound -/
def BindOk (M : MD) (K : PySem.W.Frag) (f : Nat) (e : FnE) : Prop := ∀ fd, FunD K e.d.name e.d.qual e.d.params e.d.body e.d.scope (e.d.dvs K) (e.d.kws K) (He.fAd K e.d.at_) fd → ∀ as vs, M.T0.fill f as = some vs →
  vs.length = e.ps.length ∧ ∃ dp dvs ds, vs = as ++ dp ∧ (∀ ι H, RVs K ι H dp dvs) ∧ Vals dvs ds ∧ Binds K fd e.ps ds
/-- .. with its last one by its keyword -/
def KwOk (K : PySem.W.Frag) (e : FnE) (kw : Str) : Prop := ∀ fd, FunD K e.d.name e.d.qual e.d.params e.d.body e.d.scope (e.d.dvs K) (e.d.kws K) (He.fAd K e.d.at_) fd → KBn K fd e.ps (e.ps.length - 1) [kw] (fun us ws => us ++ ws) (fun vs zs => vs ++ zs)
def simpleE (e : FnE) : Bool := e.ds.isEmpty && (!e.ko && (e.d.dfl.isEmpty && simpleP e.d.params e.ps))
theorem bok_simple {f : Nat} {e : FnE} (hf : M.fs.get f = some e) (h : simpleE e = true) : BindOk M K f e := by
  intro fd F as vs hv
  unfold simpleE at h
  simp only [Bool.and_eq_true, List.isEmpty_iff, Bool.not_eq_true'] at h
  obtain ⟨h1, h2, h3, h4⟩ := h
  have e1 : e.d.dvs K = [] := by unfold He.DefD.dvs; rw [h3]; rfl
  rw [e1] at F
  unfold Tb.fill at hv
  have hp : M.T0.par f = (e.ps.length, [], false) := by
    show (match M.fs.get f with
      | some e => (e.ps.length, e.ds, e.ko)
      | none => (1000000, [], false)) = _
    rw [hf]
    show (e.ps.length, e.ds, e.ko) = _
    rw [h1, h2]
  rw [hp] at hv
  simp only [List.length_nil, List.drop_nil, List.append_nil, Bool.false_eq_true, if_false] at hv
  split at hv
  · rename_i hz
    cases hv
    rw [Bool.and_eq_true] at hz
    have z1 := Nat.le_of_ble_eq_true hz.1
    have z2 := Nat.le_of_ble_eq_true hz.2
    exact ⟨by omega, [], [], [], (List.append_nil _).symm, fun _ _ => rfl, .nil, F.bindsN fun kV doc pm an cdv ct us hl => bind_simple h4 kV doc pm an cdv ct us hl⟩
  · cases hv
theorem at_inv {f : Nat} {p : Str × Option Str} (h : M.at_ f = some p) : ∃ e, M.fs.get f = some e ∧ e.d.at_ = p ∧ M.ad K f = He.fAd K p := by
  unfold MD.at_ at h
  obtain ⟨e, e1, e2⟩ := Option.map_eq_some_iff.mp h
  refine ⟨e, e1, e2, ?_⟩
  unfold MD.ad
  rw [e1]
  show He.fAd K e.d.at_ = _
  rw [e2]
theorem cls_at {c : Nat} {x : Str} (h : M.cn.get c = some x) : M.cls K c = He.ga K x := by
  unfold MD.cls
  rw [h]
  rfl
theorem cls_any (h1 : clsB K M.dc = true) (h2 : (M.cn.all fun _ x => clsB K x) = true) (c : Nat) : clsB K ((M.cn.get c).getD M.dc) = true := by
  cases e : M.cn.get c with
  | none => exact h1
  | some x => exact Tr.all_get h2 e
/-- T stands on the tables -/
structure On (M : MD) (T : Tb) : Prop where
  i : T.init = M.T0.init
  m : T.meth = M.T0.meth
  pr : T.prop = M.T0.prop
  par : T.par = M.T0.par
  pl : T.plain = M.T0.plain
  co : T.con = M.T0.con
  gd : T.gd = M.T0.gd
  ki : T.kit = M.T0.kit
theorem on_at : ∀ j, On M (Tb.at M.T0 M.B j)
  | 0 => ⟨rfl, rfl, rfl, rfl, rfl, rfl, rfl, rfl⟩
  | j + 1 => ⟨rfl, rfl, rfl, rfl, rfl, rfl, rfl, rfl⟩
theorem gf_of (hb : M.okB K = true) (tabs : ∀ q ∈ M.G.gd, ∃ es n, KDict K w (He.ga K q.1) es n) (X : K.In base) (Gs : base.Ns mainGlobals mg) (o : On M T)
    (fi : ∀ f e, M.fs.get f = some e → FI P w K mg base (M.cls K) T k f (M.ad K f))
    (fk : ∀ c kw f, M.G.kw.lookup c = some kw → M.il.get c = some f → FK P w K mg base (M.cls K) T k f (M.ad K f) kw) : GF P w K mg base (M.cls K) (M.ad K) T k M.G := by
  unfold MD.okB at hb
  obtain ⟨b1, hb⟩ := He.ba hb
  obtain ⟨b2, hb⟩ := He.ba hb
  obtain ⟨b3, hb⟩ := He.ba hb
  obtain ⟨b4, hb⟩ := He.ba hb
  obtain ⟨b5, hb⟩ := He.ba hb
  obtain ⟨b6, hb⟩ := He.ba hb
  obtain ⟨b7, hb⟩ := He.ba hb
  obtain ⟨b8, hb⟩ := He.ba hb
  obtain ⟨b9, hb⟩ := He.ba hb
  obtain ⟨b10, hb⟩ := He.ba hb
  obtain ⟨b11, hb⟩ := He.ba hb
  obtain ⟨b12, hb⟩ := He.ba hb
  obtain ⟨b13, b14⟩ := He.ba hb
  have fiat : ∀ f p, M.at_ f = some p → FI P w K mg base (M.cls K) T k f (M.ad K f) := fun f p h => by
    obtain ⟨e, e1, _⟩ := at_inv (K := K) h
    exact fi f e e1
  refine ⟨fun x f h => ?_, fun x c h => ?_, fun c kw f h1 h2 => ?_, fun x i h => ?_, fun x g h => ?_, fun x h => ?_, ⟨fun c m f h => ?_⟩, fun c f h => ?_, fun c f => by rw [o.pr]; rfl, fun c => ?_, ?_, ⟨fun c c2 f g h h2 => ?_, fun c f h => ⟨?_, ?_⟩⟩⟩
  · have q := He.ba (List.all_eq_true.mp b1 _ (PySem.mem_of_lookup h))
    have q1 := of_decide_eq_true q.1
    obtain ⟨e, e1, e2, e3⟩ := at_inv (K := K) q1
    have g := He.glo_ok X Gs q.2
    exact ⟨by rw [e3]; exact g, fi f e e1⟩
  · have q := He.ba (List.all_eq_true.mp b2 _ (PySem.mem_of_lookup h))
    have q1 := of_decide_eq_true q.1
    obtain ⟨q2, q3⟩ := He.ba q.2
    obtain ⟨q3, q4⟩ := He.ba q3
    have ec := cls_at (K := K) q1
    refine ⟨by rw [ec]; exact He.glo_ok X Gs q2, fun f hf => ?_⟩
    rw [o.i] at hf
    have z := Tr.all_get b3 (show M.il.get c = some f from hf)
    rw [q1] at z
    have z1 := of_decide_eq_true z
    obtain ⟨e, e1, e2, e3⟩ := at_inv (K := K) z1
    refine ⟨?_, by rw [ec]; exact He.cls_ok q3, fi f e e1⟩
    rw [ec, e3]
    exact He.mkr_ok q4
  · rw [o.i] at h2
    exact fk c kw f h1 h2
  · have q := List.all_eq_true.mp b6 _ (PySem.mem_of_lookup h)
    dsimp only at q
    split at q
    · rename_i v u e1 e2
      obtain ⟨y, r1, r2⟩ := pvB_ok _ _ q
      exact ⟨v, u, y, by rw [o.co]; exact e1, PySem.W.mg_of X Gs e2, r1, r2⟩
    · cases q
  · have hm := PySem.mem_of_lookup h
    have q := List.all_eq_true.mp b7 _ hm
    dsimp only at q
    split at q
    · rename_i kvs e1
      obtain ⟨q1, q2⟩ := He.ba q
      exact ⟨_, kvs, by rw [o.gd]; exact e1, He.glo_ok X Gs q1, gdB_ok q2 (tabs _ hm)⟩
    · cases q
  · have hm : x ∈ M.G.fr := by simpa using h
    exact He.free_ok X Gs (List.all_eq_true.mp b8 x hm)
  · rw [o.m] at h
    have h : (match M.ml.get c with
      | some l => l.lookup m
      | none => none) = some f := h
    split at h
    · rename_i l e1
      have q := Tr.all_get b4 e1
      split at q
      · rename_i x e2
        have q2 := List.all_eq_true.mp q _ (PySem.mem_of_lookup h)
        obtain ⟨q3, q4⟩ := He.ba q2
        obtain ⟨q4, _⟩ := He.ba q4
        have z1 := of_decide_eq_true q3
        obtain ⟨e, e3, e4, e5⟩ := at_inv (K := K) z1
        refine ⟨?_, fi f e e3⟩
        rw [cls_at e2, e5]
        exact He.meth_ok q4
      · cases q
    · cases h
  · rw [o.pl] at h
    have h : (match M.fl.get c with
      | some l => l.contains f
      | none => false) = true := h
    split at h
    · rename_i l e1
      have q := Tr.all_get b5 e1
      split at q
      · rename_i x e2
        rw [cls_at e2]
        exact He.noat_ok (List.all_eq_true.mp q f (by simpa using h))
      · cases q
    · cases h
  · rw [o.m]
    show (match M.ml.get c with
      | some l => l.lookup ("__getitem__" : Str)
      | none => none) = none
    split
    · rename_i l e1
      have q := Tr.all_get b4 e1
      split at q
      · rename_i x e2
        cases hl : l.lookup ("__getitem__" : Str) with
        | none => rfl
        | some f =>
          have q2 := List.all_eq_true.mp q _ (PySem.mem_of_lookup hl)
          obtain ⟨_, q4⟩ := He.ba q2
          obtain ⟨_, q5⟩ := He.ba q4
          simp at q5
      · cases q
    · rfl
  · refine ⟨fun t k b h => ?_, fun c => ?_, of_decide_eq_true b10, of_decide_eq_true b11, fun c => ?_⟩
    · rw [o.ki] at h
      exact kitB_ok (He.ba b9).1 t k b h
    · exact of_decide_eq_true (He.ba (cls_any b12 b13 c)).1
    · exact of_decide_eq_true (He.ba (cls_any b12 b13 c)).2
  · rw [o.m] at h h2
    have h : (match M.ml.get c with
      | some l => l.lookup ("__eq__" : Str)
      | none => none) = some f := h
    have h2 : (match M.ml.get c2 with
      | some l => l.lookup ("__eq__" : Str)
      | none => none) = some g := h2
    split at h
    · rename_i l e1
      split at h2
      · rename_i l2 e2
        have q := Tr.all_get (He.ba b9).2 e1
        rw [h] at q
        have q2 := Tr.all_get (He.ba q).2 e2
        rw [h2] at q2
        exact q2
      · cases h2
    · cases h
  · rw [o.m] at h
    have h : (match M.ml.get c with
      | some l => l.lookup ("__eq__" : Str)
      | none => none) = some f := h
    split at h
    · rename_i l e1
      have q := Tr.all_get (He.ba b9).2 e1
      rw [h] at q
      exact of_decide_eq_true (He.ba q).1
    · cases h
  · exact of_decide_eq_true (He.ba (cls_any b12 b13 c)).2
end
end VI
set_option autoImplicit false
set_option linter.all false
set_option Elab.async false
set_option maxRecDepth 100000
set_option maxHeartbeats 4000000
/-! VI over the hand layer: a law's end. -/
namespace VI
open PySem PySem.Spec PyProof.Rows L2
def scB (N ps : List Str) (sc : Scope) : Bool := (match sc.kind with
  | .function => true
  | _ => false) && (!sc.isCoroutine && (!sc.isGenerator && (decide N.Nodup && (decide (N.take ps.length = ps) && ((ps.all fun x => locC sc x) && (sc.names.all fun y => match y.2 with
  | .free => false
  | _ => true))))))
theorem scB_ok {N ps : List Str} {sc : Scope} (h : scB N ps sc = true) : FnScope N ps sc := by
  unfold scB at h
  simp only [Bool.and_eq_true, Bool.not_eq_true', decide_eq_true_eq] at h
  obtain ⟨h1, h2, h3, h4, h5, h6, h7⟩ := h
  refine ⟨?_, h2, h3, h4, h5, fun x hx => loc_ok (List.all_eq_true.mp h6 x hx), fun y hy e => ?_⟩
  · split at h1
    · assumption
    · cases h1
  · have := List.all_eq_true.mp h7 y hy
    rw [e] at this
    cases this
def MD.chkB (M : MD) : Bool := M.fs.all fun _ e => chkSs M.G e.body ⟨e.N, e.d.scope, none⟩ e.d.body && scB e.N e.ps e.d.scope
section
variable {P : Program} {w : World} {K : PySem.W.Frag} {mg : Str → Option Value} {base : Heap} {M : MD}
theorem fn_at {f : Nat} {e : FnE} (h : M.fs.get f = some e) (j : Nat) : (Tb.at M.T0 M.B (j + 1)).fn f = runB (Tb.at M.T0 M.B j) ⟨e.N.length, e.body⟩ := by
  funext vs h'
  show (match M.B f with
    | some d => runB (Tb.at M.T0 M.B j) d vs h'
    | none => Res.no) = _
  unfold MD.B
  rw [h]
theorem fill_at (f : Nat) (as : List PV) (j : Nat) : (Tb.at M.T0 M.B j).fill f as = M.T0.fill f as := by
  cases j <;> rfl
/-- what each def's object is -/
abbrev DefsOk (M : MD) (K : PySem.W.Frag) : Prop := ∀ f e, M.fs.get f = some e → ∃ fd, FunD K e.d.name e.d.qual e.d.params e.d.body e.d.scope (e.d.dvs K) (e.d.kws K) (He.fAd K e.d.at_) fd
theorem all_ok (hb : M.okB K = true) (hc : M.chkB = true) (tabs : ∀ q ∈ M.G.gd, ∃ es n, KDict K w (He.ga K q.1) es n) (X : K.In base) (Gs : base.Ns mainGlobals mg) (defs : DefsOk M K) (bo : ∀ f e, M.fs.get f = some e → BindOk M K f e)
    (ko : ∀ c kw f e, M.G.kw.lookup c = some kw → M.il.get c = some f → M.fs.get f = some e → KwOk K e kw) (ki : ∀ c kw f, M.G.kw.lookup c = some kw → M.il.get c = some f → ∃ e, M.fs.get f = some e) :
    ∀ j, GF P w K mg base (M.cls K) (M.ad K) (Tb.at M.T0 M.B j) (2 * j) M.G := by
  have adf : ∀ f e, M.fs.get f = some e → M.ad K f = He.fAd K e.d.at_ := fun f e h => by
    unfold MD.ad
    rw [h]
  have fnok : ∀ j, (∀ f e fd, M.fs.get f = some e → FunD K e.d.name e.d.qual e.d.params e.d.body e.d.scope (e.d.dvs K) (e.d.kws K) (He.fAd K e.d.at_) fd → FnOk P w K mg base CX0 (2 * j) (M.ad K f) fd e.ps (spV P w K (M.cls K) e.ps.length ((Tb.at M.T0 M.B j).fn f))) →
      GF P w K mg base (M.cls K) (M.ad K) (Tb.at M.T0 M.B j) (2 * j) M.G := fun j hj => by
    refine gf_of hb tabs X Gs (on_at j) (fun f e hf => ?_) fun c kw f h1 h2 => ?_
    · obtain ⟨fd, F⟩ := defs f e hf
      refine ⟨⟨fd, e.ps, hj f e fd hf F, fun as vs hv => bo f e hf fd F as vs (by rw [← fill_at f as j]; exact hv)⟩, ?_⟩
      rw [adf f e hf]
      exact F.kp
    · obtain ⟨e, hf⟩ := ki c kw f h1 h2
      obtain ⟨fd, F⟩ := defs f e hf
      refine ⟨⟨fd, e.ps, _, hj f e fd hf F, ?_, ko c kw f e h1 h2 hf fd F⟩⟩
      rw [(on_at j).par]
      show (match M.fs.get f with
        | some e => (e.ps.length, e.ds, e.ko)
        | none => (1000000, [], false)).1 = _
      rw [hf]
  intro j
  induction j with
  | zero =>
    refine fnok 0 fun f e fd hf F => ⟨fun vs H Q E h => h.1, fun A outer s H args us vs Q E hr he hbd hv h => ?_⟩
    obtain ⟨_, ι, h0, ps, R, rv, hw⟩ := h
    exact hw.elim
  | succ j ih =>
    refine fnok (j + 1) fun f e fd hf F => ?_
    have q := Tr.all_get hc hf
    obtain ⟨q1, q2⟩ := He.ba q
    rw [fn_at hf j, adf f e hf]
    exact fn_ok F (scB_ok q2) rfl q1 ih
end
def Tr.toL {α : Type} : Tr α → List α
  | .e => []
  | .n _ v l r => v :: (l.toL ++ r.toL)
theorem Tr.mem_get {α : Type} : ∀ {t : Tr α} {f : Nat} {w : α}, t.get f = some w → w ∈ t.toL
  | .e, _, _, q => by cases q
  | .n k v l r, f, w, q => by
    simp only [Tr.get] at q
    simp only [Tr.toL, List.mem_cons, List.mem_append]
    split at q
    · cases q; exact .inl rfl
    · split at q
      · exact .inr (.inl (Tr.mem_get q))
      · exact .inr (.inr (Tr.mem_get q))
def MD.defs (M : MD) : List He.DefD := M.fs.toL.map (·.d)
def MD.tabs (M : MD) : List He.Tab := M.G.gd.map fun q => ((fun K => He.ga K q.1), ((M.gd.get q.2).getD []).map (·.1))
abbrev MD.hook (M : MD) (n : Nat) : PySem.W.Hook := He.hookX n [] M.defs M.tabs [] M.okB
def MD.ob (M : MD) (n : Nat) (s : PySem.W.SharedT) : He.AlX := He.obsX n [] M.defs M.tabs [] M.okB (HandSHeadRun.getT s)
theorem MD.ob_eq (M : MD) (n : Nat) (s : PySem.W.SharedT) : M.ob n s = (M.hook n).obs s.abs := He.obsX_eq (HandSHeadRun.getT_eq s)
theorem only_frz {H : Hp} {K : PySem.W.Frag} {a : Addr} {xs : List V} (hO : Only H) (h : SqL K H a xs) : (∃ od, H a = some (.frz od (.lst xs))) ∨ KLst K a xs := by
  rcases h with (h | ⟨o, h⟩) | h
  · rcases hO a with z | ⟨o, ys, z⟩
    · rw [h] at z; cases z
    · rw [h] at z; cases z
  · exact .inl ⟨o, h⟩
  · exact .inr h
theorem rvs_ints {K : PySem.W.Frag} (ι : List Addr) (H : Hp) : ∀ ns : List Int, RVs K ι H (ns.map .int) (ns.map V.int)
  | [] => rfl
  | n :: ns => ⟨_, _, rfl, rfl, rvs_ints ι H ns⟩
/-- the law, by what its term answers -/
theorem law_walk {M : MD} {l : PySem.W.OpenLaw} {n0 j f0 : Nat} {e0 : FnE} {q : Program} {loose : List Str} {XP : (Str → Option Value) → Heap → Prop} {d : DefRec} {x : Str} {nh : Nat}
    (hm : l.most = some 63) (hdf : d.params.defaults = []) (hr : Room (2 * j + 2) callerA) (hc : M.chkB = true) (h0 : M.fs.get f0 = some e0) (hp : e0.ps = [x]) (hat : e0.d.at_ = (d.name, none)) (hg : M.G.fn.lookup d.name = some f0) (hs0 : simpleE e0 = true)
    (bo : ∀ K f e, M.okB K = true → M.fs.get f = some e → BindOk M K f e)
    (ko : ∀ K c kw f e, M.G.kw.lookup c = some kw → M.il.get c = some f → M.fs.get f = some e → KwOk K e kw) (ki : ∀ c kw f, M.G.kw.lookup c = some kw → M.il.get c = some f → ∃ e, M.fs.get f = some e)
    (plain : ∀ ns : List Int, ns.length ≤ 63 → ∃ h', runB (Tb.at M.T0 M.B j) ⟨e0.N.length, e0.body⟩ [.ref 0] [.lst (ns.map .int) true] = .ok (.bl true) h') :
    PySem.W.WalkO q loose XP (M.hook nh).says l.row.toRowW d [] (fun f vs => PySem.call f vs) := by
  refine walk_ofE (CX := CX0) (x := x) (k := 2 * j + 2) hm (by rw [sizeLine_eq]; omega) hdf hr ?_ fun _ _ _ _ z => z
  intro w mg fa h Y G hmg
  obtain ⟨K, KX, c⟩ := Y
  have hb := c.more
  have tabs : ∀ q ∈ M.G.gd, ∃ es n, KDict K w (He.ga K q.1) es n := fun q hq => by
    obtain ⟨i, hi, e⟩ := List.mem_iff_getElem.mp hq
    have hi' : M.tabs[i]? = some ((fun K => He.ga K q.1), ((M.gd.get q.2).getD []).map (·.1)) := by
      unfold MD.tabs
      rw [List.getElem?_map, List.getElem?_eq_getElem hi, e]
      rfl
    exact c.t.tab i hi'
  have defs : DefsOk M K := fun f e hf => c.t.d.defs (List.mem_map.mpr ⟨e, Tr.mem_get hf, rfl⟩)
  obtain ⟨fd, F⟩ := defs f0 e0 h0
  have q0 := Tr.all_get hc h0
  obtain ⟨q1, q2⟩ := He.ba q0
  have hfa : He.fAd K e0.d.at_ = fa := by
    have hb' := hb
    unfold MD.okB at hb'
    have b1 := (He.ba hb').1
    have z := He.ba (List.all_eq_true.mp b1 _ (PySem.mem_of_lookup hg))
    have g := He.glo_ok KX G z.2
    rw [hmg] at g
    have : fa = He.ga K d.name := by cases g; rfl
    rw [hat, this]
    rfl
  refine ⟨K, fd, spV l.prog w K (M.cls K) 1 (runB (Tb.at M.T0 M.B j) ⟨e0.N.length, e0.body⟩), KX, fun s u => ?_, fun H a ns hl hO hS => ?_, fun base Xb Gb => ?_⟩
  · unfold simpleE at hs0
    simp only [Bool.and_eq_true, List.isEmpty_iff, Bool.not_eq_true'] at hs0
    obtain ⟨_, _, h3, h4⟩ := hs0
    have e1 : e0.d.dvs K = [] := by unfold He.DefD.dvs; rw [h3]; rfl
    rw [e1] at F
    have b := FunD.bindsA (ps := e0.ps) F (fun kV doc pm an cdv ct us hl => bind_simple h4 kV doc pm an cdv ct us hl) s [u] (by rw [hp]; rfl)
    rw [hp] at b
    exact b
  · obtain ⟨h', e⟩ := plain ns hl
    refine ⟨rfl, [a], [.lst (ns.map .int) true], [.ref 0], ⟨rfl, fun i m b e1 e2 => ?_, fun i b o e1 e2 => ?_⟩, ⟨_, _, rfl, ⟨a, rfl, rfl⟩, rfl⟩, ?_⟩
    · left
      have := (List.getElem?_eq_some_iff.mp e1).1
      have := (List.getElem?_eq_some_iff.mp e2).1
      simp at *
      omega
    · have hi := (List.getElem?_eq_some_iff.mp e1).1
      have : i = 0 := by simpa using hi
      subst this
      cases e1
      cases e2
      exact ⟨_, only_frz hO hS, rvs_ints _ _ ns⟩
    · rw [e]
      exact fun ι' H' b l k R rv => rv
  · have ok := all_ok (P := l.prog) (w := w) (base := base) hb hc tabs Xb Gb defs (fun f e hf => bo K f e hb hf) (ko K) ki j
    have z := fn_ok (d := ⟨e0.N.length, e0.body⟩) F (scB_ok q2) rfl q1 ok
    rw [hp, hfa] at z
    exact z
end VI
set_option autoImplicit false
set_option linter.all false
set_option Elab.async false
set_option maxRecDepth 100000
set_option maxHeartbeats 4000000
namespace VI.K46
open PySem PySem.Spec PyProof.Rows L2
def top (i : Nat) : Stmt := PySem.Challenge.pw_readhalves_k46_known_equal.main.body.getD i (.Pass ⟨0, 0, 0, 0⟩)
def mt (i j : Nat) : Stmt := match top i with
  | .ClassDef (body := b) .. => b.getD j (.Pass ⟨0, 0, 0, 0⟩)
  | _ => .Pass ⟨0, 0, 0, 0⟩
def i_Effort___init__ : I := (.cons (.asg (.att (.var 0) "number") (.var 1)) (.cons (.asg (.att (.var 0) "history") (.b1 .tuple (.var 2))) (.cons (.asg (.att (.var 0) "heights") (.b1 .dict (.var 3))) .nil)))
def e_Effort___init__ : FnE := ⟨⟨("Effort", some "__init__"), "__init__", "Effort.__init__", defArgs (mt 2 0), defBody (mt 2 0), defScope (mt 2 0), [], []⟩, ["self", "number", "history", "heights"], ["self", "number", "history", "heights"], i_Effort___init__, [], false⟩
def i_Effort_three : I := (.cons (.ret (.tup (.cons (.att (.var 0) "number") (.cons (.att (.var 0) "history") (.cons (.att (.var 0) "heights") .nil))))) .nil)
def e_Effort_three : FnE := ⟨⟨("Effort", some "three"), "three", "Effort.three", defArgs (mt 2 1), defBody (mt 2 1), defScope (mt 2 1), [], []⟩, ["self"], ["self"], i_Effort_three, [], false⟩
def i_Effort___eq__ : I := (.cons (.ret (.and (.isi (.var 1) [(.own 26)]) (.eqx false (.mth "three" (.var 0) .nil) (.mth "three" (.var 1) .nil)))) .nil)
def e_Effort___eq__ : FnE := ⟨⟨("Effort", some "__eq__"), "__eq__", "Effort.__eq__", defArgs (mt 2 2), defBody (mt 2 2), defScope (mt 2 2), [], []⟩, ["self", "other"], ["self", "other"], i_Effort___eq__, [], false⟩
def i_Toil___init__ : I := (.cons (.asg (.att (.var 0) "ahead") (.b1 .tuple (.var 1))) (.cons (.asg (.att (.var 0) "ring") (.b1 .tuple (.var 2))) .nil))
def e_Toil___init__ : FnE := ⟨⟨("Toil", some "__init__"), "__init__", "Toil.__init__", defArgs (mt 3 0), defBody (mt 3 0), defScope (mt 3 0), [], []⟩, ["self", "ahead", "ring"], ["self", "ahead", "ring"], i_Toil___init__, [], false⟩
def i_Toil___eq__ : I := (.cons (.ret (.and (.isi (.var 1) [(.own 27)]) (.eqx false (.tup (.cons (.att (.var 0) "ahead") (.cons (.att (.var 0) "ring") .nil))) (.tup (.cons (.att (.var 1) "ahead") (.cons (.att (.var 1) "ring") .nil)))))) .nil)
def e_Toil___eq__ : FnE := ⟨⟨("Toil", some "__eq__"), "__eq__", "Toil.__eq__", defArgs (mt 3 1), defBody (mt 3 1), defScope (mt 3 1), [], []⟩, ["self", "other"], ["self", "other"], i_Toil___eq__, [], false⟩
def i_Safe___init__ : I := (.cons (.asg (.att (.var 0) "states") (.b1 .list (.var 1))) .nil)
def e_Safe___init__ : FnE := ⟨⟨("Safe", some "__init__"), "__init__", "Safe.__init__", defArgs (mt 5 0), defBody (mt 5 0), defScope (mt 5 0), [], []⟩, ["self", "states"], ["self", "states"], i_Safe___init__, [], false⟩
def i_Safe___eq__ : I := (.cons (.ret (.and (.isi (.var 1) [(.own 7)]) (.eqx false (.att (.var 0) "states") (.att (.var 1) "states")))) .nil)
def e_Safe___eq__ : FnE := ⟨⟨("Safe", some "__eq__"), "__eq__", "Safe.__eq__", defArgs (mt 5 1), defBody (mt 5 1), defScope (mt 5 1), [], []⟩, ["self", "other"], ["self", "other"], i_Safe___eq__, [], false⟩
def i_Broken___init__ : I := (.cons (.asg (.att (.var 0) "history") (.b1 .tuple (.var 1))) (.cons (.asg (.att (.var 0) "thread") (.var 2)) .nil))
def e_Broken___init__ : FnE := ⟨⟨("Broken", some "__init__"), "__init__", "Broken.__init__", defArgs (mt 6 0), defBody (mt 6 0), defScope (mt 6 0), [.non], []⟩, ["self", "history", "thread"], ["self", "history", "thread"], i_Broken___init__, [.non], false⟩
def i_Broken___eq__ : I := (.cons (.ret (.and (.isi (.var 1) [(.own 8)]) (.eqx false (.tup (.cons (.att (.var 0) "history") (.cons (.att (.var 0) "thread") .nil))) (.tup (.cons (.att (.var 1) "history") (.cons (.att (.var 1) "thread") .nil)))))) .nil)
def e_Broken___eq__ : FnE := ⟨⟨("Broken", some "__eq__"), "__eq__", "Broken.__eq__", defArgs (mt 6 1), defBody (mt 6 1), defScope (mt 6 1), [], []⟩, ["self", "other"], ["self", "other"], i_Broken___eq__, [], false⟩
def i_Least___init__ : I := (.cons (.asg (.att (.var 0) "good") (.dc [3, 4] (.tgt (.cons (.var 3) (.cons (.var 4) .nil))) (.itm (.var 1)) .nil (.var 3) (.b1 .list (.var 4)))) (.cons (.asg (.att (.var 0) "fails") (.dc [3, 5] (.tgt (.cons (.var 3) (.cons (.var 5) .nil))) (.itm (.var 2)) .nil (.var 3) (.tup (.cons (.b1 .tuple (.sub (.var 5) (.lit (.int 0)))) (.cons (.sub (.var 5) (.lit (.int 1))) .nil))))) .nil))
def e_Least___init__ : FnE := ⟨⟨("Least", some "__init__"), "__init__", "Least.__init__", defArgs (mt 8 0), defBody (mt 8 0), defScope (mt 8 0), [], []⟩, ["self", "good", "fails", "lot", "states", "pair"], ["self", "good", "fails"], i_Least___init__, [], false⟩
def i_Least___eq__ : I := (.cons (.ret (.and (.isi (.var 1) [(.own 10)]) (.eqx false (.tup (.cons (.att (.var 0) "good") (.cons (.att (.var 0) "fails") .nil))) (.tup (.cons (.att (.var 1) "good") (.cons (.att (.var 1) "fails") .nil)))))) .nil)
def e_Least___eq__ : FnE := ⟨⟨("Least", some "__eq__"), "__eq__", "Least.__eq__", defArgs (mt 8 1), defBody (mt 8 1), defScope (mt 8 1), [], []⟩, ["self", "other"], ["self", "other"], i_Least___eq__, [], false⟩
def i_Sound___init__ : I := (.cons (.asg (.att (.var 0) "states") (.b1 .list (.var 1))) .nil)
def e_Sound___init__ : FnE := ⟨⟨("Sound", some "__init__"), "__init__", "Sound.__init__", defArgs (mt 10 0), defBody (mt 10 0), defScope (mt 10 0), [], []⟩, ["self", "states"], ["self", "states"], i_Sound___init__, [], false⟩
def i_Sound___eq__ : I := (.cons (.ret (.and (.isi (.var 1) [(.own 28)]) (.eqx false (.att (.var 0) "states") (.att (.var 1) "states")))) .nil)
def e_Sound___eq__ : FnE := ⟨⟨("Sound", some "__eq__"), "__eq__", "Sound.__eq__", defArgs (mt 10 1), defBody (mt 10 1), defScope (mt 10 1), [], []⟩, ["self", "other"], ["self", "other"], i_Sound___eq__, [], false⟩
def i_Unsound___init__ : I := (.cons (.asg (.att (.var 0) "course") (.b1 .tuple (.var 1))) (.cons (.asg (.att (.var 0) "thread") (.var 2)) .nil))
def e_Unsound___init__ : FnE := ⟨⟨("Unsound", some "__init__"), "__init__", "Unsound.__init__", defArgs (mt 11 0), defBody (mt 11 0), defScope (mt 11 0), [.non], []⟩, ["self", "course", "thread"], ["self", "course", "thread"], i_Unsound___init__, [.non], false⟩
def i_Unsound___eq__ : I := (.cons (.ret (.and (.isi (.var 1) [(.own 29)]) (.eqx false (.tup (.cons (.att (.var 0) "course") (.cons (.att (.var 0) "thread") .nil))) (.tup (.cons (.att (.var 1) "course") (.cons (.att (.var 1) "thread") .nil)))))) .nil)
def e_Unsound___eq__ : FnE := ⟨⟨("Unsound", some "__eq__"), "__eq__", "Unsound.__eq__", defArgs (mt 11 1), defBody (mt 11 1), defScope (mt 11 1), [], []⟩, ["self", "other"], ["self", "other"], i_Unsound___eq__, [], false⟩
def i_Cheapest___init__ : I := (.cons (.asg (.att (.var 0) "rows") (.var 1)) (.cons (.asg (.att (.var 0) "states") (.b1 .list (.var 2))) (.cons (.asg (.att (.var 0) "against") (.dc [4, 5] (.tgt (.cons (.var 4) (.cons (.var 5) .nil))) (.itm (.var 3)) .nil (.var 4) (.tup (.cons (.b1 .tuple (.sub (.var 5) (.lit (.int 0)))) (.cons (.sub (.var 5) (.lit (.int 1))) .nil))))) .nil)))
def e_Cheapest___init__ : FnE := ⟨⟨("Cheapest", some "__init__"), "__init__", "Cheapest.__init__", defArgs (mt 13 0), defBody (mt 13 0), defScope (mt 13 0), [], []⟩, ["self", "rows", "states", "against", "one", "pair"], ["self", "rows", "states", "against"], i_Cheapest___init__, [], false⟩
def i_Cheapest_three : I := (.cons (.ret (.tup (.cons (.att (.var 0) "rows") (.cons (.att (.var 0) "states") (.cons (.att (.var 0) "against") .nil))))) .nil)
def e_Cheapest_three : FnE := ⟨⟨("Cheapest", some "three"), "three", "Cheapest.three", defArgs (mt 13 1), defBody (mt 13 1), defScope (mt 13 1), [], []⟩, ["self"], ["self"], i_Cheapest_three, [], false⟩
def i_Cheapest___eq__ : I := (.cons (.ret (.and (.isi (.var 1) [(.own 11)]) (.eqx false (.mth "three" (.var 0) .nil) (.mth "three" (.var 1) .nil)))) .nil)
def e_Cheapest___eq__ : FnE := ⟨⟨("Cheapest", some "__eq__"), "__eq__", "Cheapest.__eq__", defArgs (mt 13 2), defBody (mt 13 2), defScope (mt 13 2), [], []⟩, ["self", "other"], ["self", "other"], i_Cheapest___eq__, [], false⟩
def i_NoOrder___init__ : I := (.cons (.asg (.att (.var 0) "against") (.dc [2, 3] (.tgt (.cons (.var 2) (.cons (.var 3) .nil))) (.itm (.var 1)) .nil (.var 2) (.tup (.cons (.b1 .tuple (.sub (.var 3) (.lit (.int 0)))) (.cons (.sub (.var 3) (.lit (.int 1))) .nil))))) .nil)
def e_NoOrder___init__ : FnE := ⟨⟨("NoOrder", some "__init__"), "__init__", "NoOrder.__init__", defArgs (mt 14 0), defBody (mt 14 0), defScope (mt 14 0), [], []⟩, ["self", "against", "one", "pair"], ["self", "against"], i_NoOrder___init__, [], false⟩
def i_NoOrder___eq__ : I := (.cons (.ret (.and (.isi (.var 1) [(.own 12)]) (.eqx false (.att (.var 0) "against") (.att (.var 1) "against")))) .nil)
def e_NoOrder___eq__ : FnE := ⟨⟨("NoOrder", some "__eq__"), "__eq__", "NoOrder.__eq__", defArgs (mt 14 1), defBody (mt 14 1), defScope (mt 14 1), [], []⟩, ["self", "other"], ["self", "other"], i_NoOrder___eq__, [], false⟩
def i_Calm___init__ : I := (.cons (.asg (.att (.var 0) "levels") (.b1 .dict (.var 1))) .nil)
def e_Calm___init__ : FnE := ⟨⟨("Calm", some "__init__"), "__init__", "Calm.__init__", defArgs (mt 16 0), defBody (mt 16 0), defScope (mt 16 0), [], []⟩, ["self", "levels"], ["self", "levels"], i_Calm___init__, [], false⟩
def i_Calm___eq__ : I := (.cons (.ret (.and (.isi (.var 1) [(.own 30)]) (.eqx false (.att (.var 0) "levels") (.att (.var 1) "levels")))) .nil)
def e_Calm___eq__ : FnE := ⟨⟨("Calm", some "__eq__"), "__eq__", "Calm.__eq__", defArgs (mt 16 1), defBody (mt 16 1), defScope (mt 16 1), [], []⟩, ["self", "other"], ["self", "other"], i_Calm___eq__, [], false⟩
def i_Restless___init__ : I := (.cons (.asg (.att (.var 0) "history") (.b1 .tuple (.var 1))) (.cons (.asg (.att (.var 0) "states") (.b1 .list (.var 2))) .nil))
def e_Restless___init__ : FnE := ⟨⟨("Restless", some "__init__"), "__init__", "Restless.__init__", defArgs (mt 17 0), defBody (mt 17 0), defScope (mt 17 0), [], []⟩, ["self", "history", "states"], ["self", "history", "states"], i_Restless___init__, [], false⟩
def i_Restless___eq__ : I := (.cons (.ret (.and (.isi (.var 1) [(.own 31)]) (.eqx false (.tup (.cons (.att (.var 0) "history") (.cons (.att (.var 0) "states") .nil))) (.tup (.cons (.att (.var 1) "history") (.cons (.att (.var 1) "states") .nil)))))) .nil)
def e_Restless___eq__ : FnE := ⟨⟨("Restless", some "__eq__"), "__eq__", "Restless.__eq__", defArgs (mt 17 1), defBody (mt 17 1), defScope (mt 17 1), [], []⟩, ["self", "other"], ["self", "other"], i_Restless___eq__, [], false⟩
def i_Tellings___init__ : I := (.cons (.asg (.att (.var 0) "histories") (.dc [3, 4] (.tgt (.cons (.var 3) (.cons (.var 4) .nil))) (.itm (.var 1)) .nil (.var 3) (.b1 .tuple (.var 4)))) (.cons (.asg (.att (.var 0) "states") (.b1 .list (.var 2))) .nil))
def e_Tellings___init__ : FnE := ⟨⟨("Tellings", some "__init__"), "__init__", "Tellings.__init__", defArgs (mt 19 0), defBody (mt 19 0), defScope (mt 19 0), [], []⟩, ["self", "histories", "states", "one", "history"], ["self", "histories", "states"], i_Tellings___init__, [], false⟩
def i_Tellings___eq__ : I := (.cons (.ifs (.not (.ex (.isi (.var 1) [(.own 14)]))) (.cons (.ret (.lit (.bl false))) .nil) .nil) (.cons (.ret (.and (.eqx false (.att (.var 0) "histories") (.att (.var 1) "histories")) (.eqx false (.att (.var 0) "states") (.att (.var 1) "states")))) .nil))
def e_Tellings___eq__ : FnE := ⟨⟨("Tellings", some "__eq__"), "__eq__", "Tellings.__eq__", defArgs (mt 19 1), defBody (mt 19 1), defScope (mt 19 1), [], []⟩, ["self", "other"], ["self", "other"], i_Tellings___eq__, [], false⟩
def i_Alike___init__ : I := (.cons (.asg (.att (.var 0) "one") (.mk 14 (.cons (.att (.var 1) "histories") (.cons (.att (.var 1) "states") .nil)))) (.cons (.asg (.att (.var 0) "other") (.mk 14 (.cons (.att (.var 2) "histories") (.cons (.att (.var 2) "states") .nil)))) .nil))
def e_Alike___init__ : FnE := ⟨⟨("Alike", some "__init__"), "__init__", "Alike.__init__", defArgs (mt 20 0), defBody (mt 20 0), defScope (mt 20 0), [], []⟩, ["self", "one", "other"], ["self", "one", "other"], i_Alike___init__, [], false⟩
def i_Alike___eq__ : I := (.cons (.ret (.and (.isi (.var 1) [(.own 16)]) (.eqx false (.tup (.cons (.att (.var 0) "one") (.cons (.att (.var 0) "other") .nil))) (.tup (.cons (.att (.var 1) "one") (.cons (.att (.var 1) "other") .nil)))))) .nil)
def e_Alike___eq__ : FnE := ⟨⟨("Alike", some "__eq__"), "__eq__", "Alike.__eq__", defArgs (mt 20 1), defBody (mt 20 1), defScope (mt 20 1), [], []⟩, ["self", "other"], ["self", "other"], i_Alike___eq__, [], false⟩
def i_Parted___init__ : I := (.cons (.asg (.att (.var 0) "telling") (.var 1)) (.cons (.asg (.att (.var 0) "number") (.var 2)) (.cons (.asg (.att (.var 0) "history") (.b1 .tuple (.var 3))) (.cons (.asg (.att (.var 0) "states") (.b1 .list (.var 4))) .nil))))
def e_Parted___init__ : FnE := ⟨⟨("Parted", some "__init__"), "__init__", "Parted.__init__", defArgs (mt 21 0), defBody (mt 21 0), defScope (mt 21 0), [], []⟩, ["self", "telling", "number", "history", "states"], ["self", "telling", "number", "history", "states"], i_Parted___init__, [], false⟩
def i_Parted_four : I := (.cons (.ret (.tup (.cons (.att (.var 0) "telling") (.cons (.att (.var 0) "number") (.cons (.att (.var 0) "history") (.cons (.att (.var 0) "states") .nil)))))) .nil)
def e_Parted_four : FnE := ⟨⟨("Parted", some "four"), "four", "Parted.four", defArgs (mt 21 1), defBody (mt 21 1), defScope (mt 21 1), [], []⟩, ["self"], ["self"], i_Parted_four, [], false⟩
def i_Parted___eq__ : I := (.cons (.ret (.and (.isi (.var 1) [(.own 17)]) (.eqx false (.mth "four" (.var 0) .nil) (.mth "four" (.var 1) .nil)))) .nil)
def e_Parted___eq__ : FnE := ⟨⟨("Parted", some "__eq__"), "__eq__", "Parted.__eq__", defArgs (mt 21 2), defBody (mt 21 2), defScope (mt 21 2), [], []⟩, ["self", "other"], ["self", "other"], i_Parted___eq__, [], false⟩
def i__law_make : I := (.cons (.ifs (.eqx false (.var 0) (.lit (.int 0))) (.cons (.ret (.mk 10 (.cons (.sub (.var 1) (.lit (.int 0))) (.cons (.sub (.var 1) (.lit (.int 1))) .nil)))) .nil) .nil) (.cons (.ifs (.eqx false (.var 0) (.lit (.int 1))) (.cons (.ret (.mk 26 (.cons (.sub (.var 1) (.lit (.int 0))) (.cons (.sub (.var 1) (.lit (.int 1))) (.cons (.sub (.var 1) (.lit (.int 2))) .nil))))) .nil) .nil) (.cons (.ifs (.eqx false (.var 0) (.lit (.int 2))) (.cons (.ret (.mk 27 (.cons (.sub (.var 1) (.lit (.int 0))) (.cons (.sub (.var 1) (.lit (.int 1))) .nil)))) .nil) .nil) (.cons (.ifs (.eqx false (.var 0) (.lit (.int 3))) (.cons (.ret (.mk 28 (.cons (.sub (.var 1) (.lit (.int 0))) .nil))) .nil) .nil) (.cons (.ifs (.eqx false (.var 0) (.lit (.int 4))) (.cons (.ret (.mk 29 (.cons (.sub (.var 1) (.lit (.int 0))) (.cons (.sub (.var 1) (.lit (.int 1))) .nil)))) .nil) .nil) (.cons (.ifs (.eqx false (.var 0) (.lit (.int 5))) (.cons (.ret (.mk 7 (.cons (.sub (.var 1) (.lit (.int 0))) .nil))) .nil) .nil) (.cons (.ret (.call 212 (.cons (.var 0) (.cons (.var 1) .nil)))) .nil)))))))
def e__law_make : FnE := ⟨⟨("_law_make", none), "_law_make", "_law_make", defArgs (top 23), defBody (top 23), defScope (top 23), [], []⟩, ["_law_at", "_law_parts_here"], ["_law_at", "_law_parts_here"], i__law_make, [], false⟩
def i__law_make_two : I := (.cons (.ifs (.eqx false (.var 0) (.lit (.int 6))) (.cons (.ret (.mk 8 (.cons (.sub (.var 1) (.lit (.int 0))) (.cons (.sub (.var 1) (.lit (.int 1))) .nil)))) .nil) .nil) (.cons (.ifs (.eqx false (.var 0) (.lit (.int 7))) (.cons (.ret (.mk 11 (.cons (.sub (.var 1) (.lit (.int 0))) (.cons (.sub (.var 1) (.lit (.int 1))) (.cons (.sub (.var 1) (.lit (.int 2))) .nil))))) .nil) .nil) (.cons (.ifs (.eqx false (.var 0) (.lit (.int 8))) (.cons (.ret (.mk 12 (.cons (.sub (.var 1) (.lit (.int 0))) .nil))) .nil) .nil) (.cons (.ifs (.eqx false (.var 0) (.lit (.int 9))) (.cons (.ret (.mk 30 (.cons (.sub (.var 1) (.lit (.int 0))) .nil))) .nil) .nil) (.cons (.ifs (.eqx false (.var 0) (.lit (.int 10))) (.cons (.ret (.mk 31 (.cons (.sub (.var 1) (.lit (.int 0))) (.cons (.sub (.var 1) (.lit (.int 1))) .nil)))) .nil) .nil) (.cons (.ifs (.eqx false (.var 0) (.lit (.int 11))) (.cons (.ret (.mk 14 (.cons (.sub (.var 1) (.lit (.int 0))) (.cons (.sub (.var 1) (.lit (.int 1))) .nil)))) .nil) .nil) (.cons (.ret (.call 213 (.cons (.var 0) (.cons (.var 1) .nil)))) .nil)))))))
def e__law_make_two : FnE := ⟨⟨("_law_make_two", none), "_law_make_two", "_law_make_two", defArgs (top 24), defBody (top 24), defScope (top 24), [], []⟩, ["_law_at", "_law_parts_here"], ["_law_at", "_law_parts_here"], i__law_make_two, [], false⟩
def i__law_make_three : I := (.cons (.ifs (.eqx false (.var 0) (.lit (.int 12))) (.cons (.ret (.mk 16 (.cons (.sub (.var 1) (.lit (.int 0))) (.cons (.sub (.var 1) (.lit (.int 1))) .nil)))) .nil) .nil) (.cons (.ret (.mk 17 (.cons (.sub (.var 1) (.lit (.int 0))) (.cons (.sub (.var 1) (.lit (.int 1))) (.cons (.sub (.var 1) (.lit (.int 2))) (.cons (.sub (.var 1) (.lit (.int 3))) .nil)))))) .nil))
def e__law_make_three : FnE := ⟨⟨("_law_make_three", none), "_law_make_three", "_law_make_three", defArgs (top 25), defBody (top 25), defScope (top 25), [], []⟩, ["_law_at", "_law_parts_here"], ["_law_at", "_law_parts_here"], i__law_make_three, [], false⟩
def i__law_parts : I := (.cons (.ifs (.eqx false (.var 0) (.lit (.int 0))) (.cons (.ret (.lst (.cons (.tup (.cons (.b1 .dict (.lst (.cons (.tup (.cons (.tup (.cons (.tup (.cons (.lit (.int 0)) (.cons (.lit (.int 0)) .nil))) .nil)) (.cons (.lst (.cons (.tup (.cons (.tup .nil) (.cons (.tup (.cons (.lit (.int 0)) .nil)) (.cons (.lit (.int 0)) (.cons (.tup .nil) .nil))))) .nil)) .nil))) .nil))) (.cons (.b1 .dict (.lst (.cons (.tup (.cons (.tup (.cons (.tup (.cons (.lit (.int 0)) (.cons (.lit (.int 0)) .nil))) .nil)) (.cons (.lst (.cons (.tup (.cons (.tup .nil) (.cons (.tup (.cons (.lit (.int 1)) .nil)) (.cons (.lit (.int 0)) (.cons (.tup .nil) .nil))))) .nil)) .nil))) .nil))) .nil))) (.cons (.tup (.cons (.b1 .dict (.lst (.cons (.tup (.cons (.tup (.cons (.tup (.cons (.lit (.int 0)) (.cons (.lit (.int 1)) .nil))) .nil)) (.cons (.tup (.cons (.tup (.cons (.lit (.int 0)) .nil)) (.cons (.lit .non) .nil))) .nil))) .nil))) (.cons (.b1 .dict (.lst (.cons (.tup (.cons (.tup (.cons (.tup (.cons (.lit (.int 0)) (.cons (.lit (.int 1)) .nil))) .nil)) (.cons (.tup (.cons (.tup (.cons (.lit (.int 1)) .nil)) (.cons (.lit .non) .nil))) .nil))) .nil))) .nil))) .nil)))) .nil) .nil) (.cons (.ifs (.eqx false (.var 0) (.lit (.int 1))) (.cons (.ret (.lst (.cons (.tup (.cons (.lit (.int 1)) (.cons (.lit (.int 2)) .nil))) (.cons (.tup (.cons (.tup (.cons (.lit (.int 0)) .nil)) (.cons (.tup (.cons (.lit (.int 1)) .nil)) .nil))) (.cons (.tup (.cons (.b1 .dict (.lst (.cons (.tup (.cons (.tup (.cons (.tup .nil) (.cons (.tup (.cons (.lit (.int 0)) .nil)) (.cons (.lit (.int 0)) (.cons (.tup .nil) .nil))))) (.cons (.lit (.int 1)) .nil))) .nil))) (.cons (.b1 .dict (.lst (.cons (.tup (.cons (.tup (.cons (.tup .nil) (.cons (.tup (.cons (.lit (.int 0)) .nil)) (.cons (.lit (.int 0)) (.cons (.tup .nil) .nil))))) (.cons (.lit (.int 0)) .nil))) .nil))) .nil))) .nil))))) .nil) .nil) (.cons (.ifs (.eqx false (.var 0) (.lit (.int 2))) (.cons (.ret (.lst (.cons (.tup (.cons (.tup (.cons (.lit (.int 0)) .nil)) (.cons (.tup (.cons (.lit (.int 1)) .nil)) .nil))) (.cons (.tup (.cons (.tup (.cons (.lit (.int 1)) .nil)) (.cons (.tup (.cons (.lit (.int 0)) .nil)) .nil))) .nil)))) .nil) .nil) (.cons (.ifs (.eqx false (.var 0) (.lit (.int 3))) (.cons (.ret (.lst (.cons (.tup (.cons (.lst (.cons (.tup (.cons (.tup .nil) (.cons (.tup (.cons (.lit (.int 0)) .nil)) (.cons (.lit (.int 0)) (.cons (.tup .nil) .nil))))) .nil)) (.cons (.lst (.cons (.tup (.cons (.tup .nil) (.cons (.tup (.cons (.lit (.int 1)) .nil)) (.cons (.lit (.int 0)) (.cons (.tup .nil) .nil))))) .nil)) .nil))) .nil))) .nil) .nil) (.cons (.ifs (.eqx false (.var 0) (.lit (.int 4))) (.cons (.ret (.lst (.cons (.tup (.cons (.tup (.cons (.lit (.int 0)) .nil)) (.cons (.tup (.cons (.lit (.int 1)) .nil)) .nil))) (.cons (.tup (.cons (.lit .non) (.cons (.lit (.int 1)) .nil))) .nil)))) .nil) .nil) (.cons (.ifs (.eqx false (.var 0) (.lit (.int 5))) (.cons (.ret (.lst (.cons (.tup (.cons (.lst (.cons (.tup (.cons (.tup .nil) (.cons (.tup (.cons (.lit (.int 0)) .nil)) (.cons (.lit (.int 0)) (.cons (.tup .nil) .nil))))) .nil)) (.cons (.lst (.cons (.tup (.cons (.tup .nil) (.cons (.tup (.cons (.lit (.int 1)) .nil)) (.cons (.lit (.int 0)) (.cons (.tup .nil) .nil))))) .nil)) .nil))) .nil))) .nil) .nil) (.cons (.ret (.call 214 (.cons (.var 0) .nil))) .nil)))))))
def e__law_parts : FnE := ⟨⟨("_law_parts", none), "_law_parts", "_law_parts", defArgs (top 26), defBody (top 26), defScope (top 26), [], []⟩, ["_law_at"], ["_law_at"], i__law_parts, [], false⟩
def i__law_parts_two : I := (.cons (.ifs (.eqx false (.var 0) (.lit (.int 6))) (.cons (.ret (.lst (.cons (.tup (.cons (.tup (.cons (.lit (.int 0)) .nil)) (.cons (.tup (.cons (.lit (.int 1)) .nil)) .nil))) (.cons (.tup (.cons (.lit .non) (.cons (.lit (.int 1)) .nil))) .nil)))) .nil) .nil) (.cons (.ifs (.eqx false (.var 0) (.lit (.int 7))) (.cons (.ret (.lst (.cons (.tup (.cons (.tup (.cons (.tup (.cons (.lit (.str "get")) (.cons (.lit (.int 0)) .nil))) .nil)) (.cons (.tup (.cons (.tup (.cons (.lit (.str "get")) (.cons (.lit (.int 1)) .nil))) .nil)) .nil))) (.cons (.tup (.cons (.lst (.cons (.tup (.cons (.tup .nil) (.cons (.tup (.cons (.lit (.int 0)) .nil)) (.cons (.lit (.int 0)) (.cons (.tup .nil) .nil))))) .nil)) (.cons (.lst (.cons (.tup (.cons (.tup .nil) (.cons (.tup (.cons (.lit (.int 1)) .nil)) (.cons (.lit (.int 0)) (.cons (.tup .nil) .nil))))) .nil)) .nil))) (.cons (.tup (.cons (.b1 .dict (.lst (.cons (.tup (.cons (.tup (.cons (.tup (.cons (.lit (.str "get")) (.cons (.lit (.int 1)) .nil))) .nil)) (.cons (.tup (.cons (.tup (.cons (.lit (.int 0)) .nil)) (.cons (.lit .non) .nil))) .nil))) .nil))) (.cons (.b1 .dict (.lst (.cons (.tup (.cons (.tup (.cons (.tup (.cons (.lit (.str "get")) (.cons (.lit (.int 1)) .nil))) .nil)) (.cons (.tup (.cons (.tup (.cons (.lit (.int 1)) .nil)) (.cons (.lit .non) .nil))) .nil))) .nil))) .nil))) .nil))))) .nil) .nil) (.cons (.ifs (.eqx false (.var 0) (.lit (.int 8))) (.cons (.ret (.lst (.cons (.tup (.cons (.b1 .dict (.lst (.cons (.tup (.cons (.tup (.cons (.tup (.cons (.lit (.str "get")) (.cons (.lit (.int 1)) .nil))) .nil)) (.cons (.tup (.cons (.tup (.cons (.lit (.int 0)) .nil)) (.cons (.lit .non) .nil))) .nil))) .nil))) (.cons (.b1 .dict (.lst (.cons (.tup (.cons (.tup (.cons (.tup (.cons (.lit (.str "get")) (.cons (.lit (.int 1)) .nil))) .nil)) (.cons (.tup (.cons (.tup (.cons (.lit (.int 1)) .nil)) (.cons (.lit .non) .nil))) .nil))) .nil))) .nil))) .nil))) .nil) .nil) (.cons (.ifs (.eqx false (.var 0) (.lit (.int 9))) (.cons (.ret (.lst (.cons (.tup (.cons (.b1 .dict (.lst (.cons (.tup (.cons (.tup (.cons (.tup .nil) (.cons (.tup (.cons (.lit (.int 0)) .nil)) (.cons (.lit (.int 0)) (.cons (.tup .nil) .nil))))) (.cons (.lit (.int 1)) .nil))) .nil))) (.cons (.b1 .dict (.lst (.cons (.tup (.cons (.tup (.cons (.tup .nil) (.cons (.tup (.cons (.lit (.int 0)) .nil)) (.cons (.lit (.int 0)) (.cons (.tup .nil) .nil))))) (.cons (.lit (.int 0)) .nil))) .nil))) .nil))) .nil))) .nil) .nil) (.cons (.ifs (.eqx false (.var 0) (.lit (.int 10))) (.cons (.ret (.lst (.cons (.tup (.cons (.tup (.cons (.lit (.int 0)) .nil)) (.cons (.tup (.cons (.lit (.int 1)) .nil)) .nil))) (.cons (.tup (.cons (.lst (.cons (.tup (.cons (.tup .nil) (.cons (.tup (.cons (.lit (.int 0)) .nil)) (.cons (.lit (.int 0)) (.cons (.tup .nil) .nil))))) .nil)) (.cons (.lst (.cons (.tup (.cons (.tup .nil) (.cons (.tup (.cons (.lit (.int 1)) .nil)) (.cons (.lit (.int 0)) (.cons (.tup .nil) .nil))))) .nil)) .nil))) .nil)))) .nil) .nil) (.cons (.ifs (.eqx false (.var 0) (.lit (.int 11))) (.cons (.ret (.lst (.cons (.tup (.cons (.b1 .dict (.lst (.cons (.tup (.cons (.tup (.cons (.lit (.int 1)) (.cons (.tup (.cons (.lit (.int 0)) .nil)) .nil))) (.cons (.tup (.cons (.lit (.int 0)) .nil)) .nil))) .nil))) (.cons (.b1 .dict (.lst (.cons (.tup (.cons (.tup (.cons (.lit (.int 1)) (.cons (.tup (.cons (.lit (.int 0)) .nil)) .nil))) (.cons (.tup (.cons (.lit (.int 1)) .nil)) .nil))) .nil))) .nil))) (.cons (.tup (.cons (.lst (.cons (.tup (.cons (.tup .nil) (.cons (.tup (.cons (.lit (.int 0)) .nil)) (.cons (.lit (.int 0)) (.cons (.tup .nil) .nil))))) .nil)) (.cons (.lst (.cons (.tup (.cons (.tup .nil) (.cons (.tup (.cons (.lit (.int 1)) .nil)) (.cons (.lit (.int 0)) (.cons (.tup .nil) .nil))))) .nil)) .nil))) .nil)))) .nil) .nil) (.cons (.ret (.call 215 (.cons (.var 0) .nil))) .nil)))))))
def e__law_parts_two : FnE := ⟨⟨("_law_parts_two", none), "_law_parts_two", "_law_parts_two", defArgs (top 27), defBody (top 27), defScope (top 27), [], []⟩, ["_law_at"], ["_law_at"], i__law_parts_two, [], false⟩
def i__law_parts_three : I := (.cons (.ifs (.eqx false (.var 0) (.lit (.int 12))) (.cons (.ret (.lst (.cons (.tup (.cons (.mk 14 (.cons (.b1 .dict (.lst .nil)) (.cons (.lst .nil) .nil))) (.cons (.mk 14 (.cons (.b1 .dict (.lst .nil)) (.cons (.lst (.cons (.tup (.cons (.tup .nil) (.cons (.tup (.cons (.lit (.int 0)) .nil)) (.cons (.lit (.int 0)) (.cons (.tup .nil) .nil))))) .nil)) .nil))) .nil))) (.cons (.tup (.cons (.mk 14 (.cons (.b1 .dict (.lst .nil)) (.cons (.lst (.cons (.tup (.cons (.tup .nil) (.cons (.tup (.cons (.lit (.int 0)) .nil)) (.cons (.lit (.int 0)) (.cons (.tup .nil) .nil))))) .nil)) .nil))) (.cons (.mk 14 (.cons (.b1 .dict (.lst .nil)) (.cons (.lst .nil) .nil))) .nil))) .nil)))) .nil) .nil) (.cons (.ret (.lst (.cons (.tup (.cons (.tup (.cons (.lit (.int 1)) (.cons (.tup (.cons (.lit (.int 0)) .nil)) .nil))) (.cons (.tup (.cons (.lit (.int 1)) (.cons (.tup (.cons (.lit (.int 1)) .nil)) .nil))) .nil))) (.cons (.tup (.cons (.lit (.int 0)) (.cons (.lit (.int 1)) .nil))) (.cons (.tup (.cons (.tup (.cons (.lit (.int 0)) .nil)) (.cons (.tup (.cons (.lit (.int 1)) .nil)) .nil))) (.cons (.tup (.cons (.lst (.cons (.tup (.cons (.tup .nil) (.cons (.tup (.cons (.lit (.int 0)) .nil)) (.cons (.lit (.int 0)) (.cons (.tup .nil) .nil))))) .nil)) (.cons (.lst (.cons (.tup (.cons (.tup .nil) (.cons (.tup (.cons (.lit (.int 1)) .nil)) (.cons (.lit (.int 0)) (.cons (.tup .nil) .nil))))) .nil)) .nil))) .nil)))))) .nil))
def e__law_parts_three : FnE := ⟨⟨("_law_parts_three", none), "_law_parts_three", "_law_parts_three", defArgs (top 28), defBody (top 28), defScope (top 28), [], []⟩, ["_law_at"], ["_law_at"], i__law_parts_three, [], false⟩
def i__law_fresh : I := (.cons (.ret (.lc [1] (.var 1) (.ex (.call 51 (.cons (.var 0) .nil))) .nil (.sub (.var 1) (.lit (.int 0))))) .nil)
def e__law_fresh : FnE := ⟨⟨("_law_fresh", none), "_law_fresh", "_law_fresh", defArgs (top 29), defBody (top 29), defScope (top 29), [], []⟩, ["_law_at", "_law_pair"], ["_law_at"], i__law_fresh, [], false⟩
def i_law : I := (.cons (.for (.var 1) (.rng (.lit (.int 0)) (.lit (.int 14))) (.cons (.asg (.var 2) (.call 216 (.cons (.var 1) .nil))) (.cons (.asg (.var 3) (.call 217 (.cons (.var 1) (.cons (.var 2) .nil)))) (.cons (.for (.var 4) (.ex (.var 2)) (.cons (.ifs (.ex (.isi (.var 4) [.dict, .list])) (.cons (.ex (.bm .clear (.var 4) .nil)) .nil) .nil) .nil)) (.cons (.ifs (.eqx true (.var 3) (.call 217 (.cons (.var 1) (.cons (.call 216 (.cons (.var 1) .nil)) .nil)))) (.cons (.ret (.lit (.bl false))) .nil) .nil) (.cons (.for (.var 5) (.rng (.lit (.int 0)) (.b1 .len (.var 2))) (.cons (.asg (.var 6) (.call 216 (.cons (.var 1) .nil))) (.cons (.asg (.sub (.var 6) (.var 5)) (.sub (.sub (.call 51 (.cons (.var 1) .nil)) (.var 5)) (.lit (.int 1)))) (.cons (.ifs (.eqx false (.var 3) (.call 217 (.cons (.var 1) (.cons (.var 6) .nil)))) (.cons (.ret (.lit (.bl false))) .nil) .nil) .nil)))) (.cons (.ifs (.eqx true (.bm .count (.lc [7] (.var 7) (.rng (.lit (.int 0)) (.lit (.int 14))) .nil (.eqx false (.var 3) (.call 217 (.cons (.var 7) (.cons (.call 216 (.cons (.var 7) .nil)) .nil))))) (.cons (.lit (.bl true)) .nil)) (.lit (.int 1))) (.cons (.ret (.lit (.bl false))) .nil) .nil) .nil))))))) (.cons (.ret (.isi (.var 0) [.list])) .nil))
def e_law : FnE := ⟨⟨("law", none), "law", "law", defArgs (top 30), defBody (top 30), defScope (top 30), [], []⟩, ["_law_script", "_law_at", "_law_parts_here", "_law_mine", "_law_part", "_law_spot", "_law_late", "_law_by"], ["_law_script"], i_law, [], false⟩
def G : Gc := ⟨[("_law_make", 217), ("_law_make_two", 212), ("_law_make_three", 213), ("_law_parts", 51), ("_law_parts_two", 214), ("_law_parts_three", 215), ("_law_fresh", 216), ("law", 242)], [("Effort", 26), ("Toil", 27), ("Safe", 7), ("Broken", 8), ("Least", 10), ("Sound", 28), ("Unsound", 29), ("Cheapest", 11), ("NoOrder", 12), ("Calm", 30), ("Restless", 31), ("Tellings", 14), ("Alike", 16), ("Parted", 17)], [], [], ["isinstance", "len", "max", "min", "sum", "all", "any", "list", "tuple", "dict", "int", "abs", "str", "sorted", "bool", "range", "enumerate", "zip"], []⟩
def M : MD := ⟨G, (.n 250 e_Sound___init__ (.n 239 e_Broken___init__ (.n 215 e__law_parts_three (.n 213 e__law_make_three (.n 212 e__law_make_two (.n 51 e__law_parts .e .e) .e) (.n 214 e__law_parts_two .e .e)) (.n 236 e_Safe___init__ (.n 217 e__law_make (.n 216 e__law_fresh .e .e) .e) (.n 237 e_Safe___eq__ .e .e))) (.n 245 e_Effort___eq__ (.n 243 e_Effort___init__ (.n 242 e_law (.n 240 e_Broken___eq__ .e .e) .e) (.n 244 e_Effort_three .e .e)) (.n 248 e_Least___init__ (.n 247 e_Toil___eq__ (.n 246 e_Toil___init__ .e .e) .e) (.n 249 e_Least___eq__ .e .e)))) (.n 260 e_Calm___eq__ (.n 255 e_Cheapest_three (.n 253 e_Unsound___eq__ (.n 252 e_Unsound___init__ (.n 251 e_Sound___eq__ .e .e) .e) (.n 254 e_Cheapest___init__ .e .e)) (.n 258 e_NoOrder___eq__ (.n 257 e_NoOrder___init__ (.n 256 e_Cheapest___eq__ .e .e) .e) (.n 259 e_Calm___init__ .e .e))) (.n 265 e_Alike___init__ (.n 263 e_Tellings___init__ (.n 262 e_Restless___eq__ (.n 261 e_Restless___init__ .e .e) .e) (.n 264 e_Tellings___eq__ .e .e)) (.n 268 e_Parted_four (.n 267 e_Parted___init__ (.n 266 e_Alike___eq__ .e .e) .e) (.n 269 e_Parted___eq__ .e .e))))), (.n 17 267 (.n 11 254 (.n 8 239 (.n 7 236 .e .e) (.n 10 248 .e .e)) (.n 14 263 (.n 12 257 .e .e) (.n 16 265 .e .e))) (.n 29 252 (.n 27 246 (.n 26 243 .e .e) (.n 28 250 .e .e)) (.n 31 261 (.n 30 259 .e .e) .e))), (.n 17 [("four", 268), ("__eq__", 269)] (.n 11 [("three", 255), ("__eq__", 256)] (.n 8 [("__eq__", 240)] (.n 7 [("__eq__", 237)] .e .e) (.n 10 [("__eq__", 249)] .e .e)) (.n 14 [("__eq__", 264)] (.n 12 [("__eq__", 258)] .e .e) (.n 16 [("__eq__", 266)] .e .e))) (.n 29 [("__eq__", 253)] (.n 27 [("__eq__", 247)] (.n 26 [("three", 244), ("__eq__", 245)] .e .e) (.n 28 [("__eq__", 251)] .e .e)) (.n 31 [("__eq__", 262)] (.n 30 [("__eq__", 260)] .e .e) .e))), (.n 17 ["telling", "number", "history", "states"] (.n 11 ["rows", "states", "against"] (.n 8 ["history", "thread"] (.n 7 ["states"] .e .e) (.n 10 ["good", "fails"] .e .e)) (.n 14 ["histories", "states"] (.n 12 ["against"] .e .e) (.n 16 ["one", "other"] .e .e))) (.n 29 ["course", "thread"] (.n 27 ["ahead", "ring"] (.n 26 ["number", "history", "heights"] .e .e) (.n 28 ["states"] .e .e)) (.n 31 ["history", "states"] (.n 30 ["levels"] .e .e) .e))), .e, .e, (.n 17 "Parted" (.n 11 "Cheapest" (.n 8 "Broken" (.n 7 "Safe" .e .e) (.n 10 "Least" .e .e)) (.n 14 "Tellings" (.n 12 "NoOrder" .e .e) (.n 16 "Alike" .e .e))) (.n 29 "Unsound" (.n 27 "Toil" (.n 26 "Effort" .e .e) (.n 28 "Sound" .e .e)) (.n 31 "Restless" (.n 30 "Calm" .e .e) .e))), "Safe", [7, 8, 10, 11, 12, 14, 16, 17, 26, 27, 28, 29, 30, 31]⟩
def loose0 : List Str := ["_wall", "Effort", "Toil", "Safe", "Broken", "Least", "Sound", "Unsound", "Cheapest", "NoOrder", "Calm", "Restless"]
def loose1 : List Str := ["Tellings", "Alike", "Parted", "_law_make", "_law_make_two", "_law_make_three", "_law_parts", "_law_parts_two", "_law_parts_three", "_law_fresh"]
def loose : List Str := loose0 ++ loose1
theorem chk : M.chkB = true := by decide +kernel
end VI.K46
set_option autoImplicit false
set_option linter.all false
set_option Elab.async false
set_option maxRecDepth 100000
set_option maxHeartbeats 0
namespace VI.K46
open PySem PySem.Spec PyProof.Rows L2
abbrev R : PySem.W.OpenRow := PySem.W.OpenLaw.row PySem.Challenge.rw_readhalves_k46_known_equal
theorem run (w : World) : HandSHeadRun.RunEq R (PySem.W.view R.prog [30]) (M.hook 6) (M.ob 6) 8000 loose w := by
  intro os
  kernel_rfl
end VI.K46
set_option autoImplicit false
set_option linter.all false
set_option Elab.async false
set_option maxRecDepth 100000
set_option maxHeartbeats 2000000
/-! what a term does is the same where objects of no concern stand between others: they are put in at m, the places behind them move up. -/
namespace VI
open PySem (Str)
section
variable (m d : Nat) (G : VH)
def ix (n : Nat) : Nat := if n < m then n else n + d
mutual
def sV : PV → PV
  | .ref n => .ref (ix m d n)
  | .tup xs => .tup (sVs xs)
  | .err c p => .err c (sV p)
  | .non => .non
  | .bl b => .bl b
  | .int i => .int i
  | .str s => .str s
def sVs : List PV → List PV
  | [] => []
  | x :: xs => sV x :: sVs xs
end
def sKs (kvs : List (PV × PV)) : List (PV × PV) := kvs.map fun q => (sV m d q.1, sV m d q.2)
def sFs (fs : List (Str × PV)) : List (Str × PV) := fs.map fun q => (q.1, sV m d q.2)
def sO : VO → VO
  | .lst xs lk => .lst (sVs m d xs) lk
  | .dct kvs lk => .dct (sKs m d kvs) lk
  | .ins c fs => .ins c (sFs m d fs)
  | .lam k cap => .lam k (sVs m d cap)
def sH (h : VH) : VH := (h.take m).map (sO m d) ++ (G ++ (h.drop m).map (sO m d))
def sR (r : Rho) : Rho := r.map fun o => o.map (sV m d)
def sRes {α : Type} (f : α → α) : Res α → Res α
  | .ok a h => .ok (f a) (sH m d G h)
  | .ex c p h => .ex c (sV m d p) (sH m d G h)
  | .no => .no
def sSR : SR → SR
  | .nx r h => .nx (sR m d r) (sH m d G h)
  | .rt v h => .rt (sV m d v) (sH m d G h)
  | .ct r h => .ct (sR m d r) (sH m d G h)
  | .ex c p r h => .ex c (sV m d p) (sR m d r) (sH m d G h)
  | .no => .no
/-- the heap behind has at least m places -/
def big {α : Type} : Res α → Prop
  | .ok _ h => m ≤ h.length
  | .ex _ _ h => m ≤ h.length
  | .no => True
def bigS : SR → Prop
  | .nx _ h => m ≤ h.length
  | .rt _ h => m ≤ h.length
  | .ct _ h => m ≤ h.length
  | .ex _ _ _ h => m ≤ h.length
  | .no => True
end
section
variable {m d : Nat} {G : VH}
theorem ix_inj {a b : Nat} (h : ix m d a = ix m d b) : a = b := by
  unfold ix at h
  split at h <;> split at h <;> omega
theorem ix_beq (a b : Nat) : Nat.beq (ix m d a) (ix m d b) = Nat.beq a b := by
  cases h : Nat.beq a b with
  | true => rw [Nat.eq_of_beq_eq_true h]; exact Nat.beq_refl _
  | false =>
    cases h2 : Nat.beq (ix m d a) (ix m d b) with
    | false => rfl
    | true => rw [ix_inj (Nat.eq_of_beq_eq_true h2), Nat.beq_refl] at h; cases h
theorem sVs_map : ∀ xs : List PV, sVs m d xs = xs.map (sV m d)
  | [] => rfl
  | x :: xs => by rw [sVs, sVs_map xs]; rfl
theorem sVs_len (xs : List PV) : (sVs m d xs).length = xs.length := by rw [sVs_map, List.length_map]
theorem sKs_len (xs : List (PV × PV)) : (sKs m d xs).length = xs.length := by unfold sKs; rw [List.length_map]
theorem sFs_len (xs : List (Str × PV)) : (sFs m d xs).length = xs.length := by unfold sFs; rw [List.length_map]
theorem sVs_get (xs : List PV) (i : Nat) : (sVs m d xs)[i]? = (xs[i]?).map (sV m d) := by rw [sVs_map, List.getElem?_map]
theorem sVs_app (xs ys : List PV) : sVs m d (xs ++ ys) = sVs m d xs ++ sVs m d ys := by simp only [sVs_map, List.map_append]
theorem sR_get (r : Rho) (i : Nat) : (sR m d r)[i]? = (r[i]?).map fun o => o.map (sV m d) := by unfold sR; rw [List.getElem?_map]
theorem sR_set (r : Rho) (i : Nat) (v : PV) : (sR m d r).set i (some (sV m d v)) = sR m d (r.set i (some v)) := by
  unfold sR
  rw [List.map_set]
  rfl
theorem sR_none (r : Rho) (i : Nat) : (sR m d r).set i none = sR m d (r.set i none) := by
  unfold sR
  rw [List.map_set]
  rfl
theorem mid_get {A B : VH} {j : Nat} (l : A.length = m) (hG : G.length = d) (h1 : m ≤ j) (h2 : j < m + d) : (A ++ (G ++ B))[j]? = G[j - m]? := by
  rw [List.getElem?_append_right (by omega), l, List.getElem?_append_left (by omega)]
variable (hG : G.length = d)
include hG
theorem sH_len (h : VH) : (sH m d G h).length = h.length + d := by
  unfold sH
  simp only [List.length_append, List.length_map, List.length_take, List.length_drop, hG]
  omega
theorem sH_get {h : VH} (hm : m ≤ h.length) (n : Nat) : (sH m d G h)[ix m d n]? = (h[n]?).map (sO m d) := by
  unfold sH ix
  have l1 : ((h.take m).map (sO m d)).length = m := by rw [List.length_map, List.length_take]; omega
  split
  · rename_i hn
    rw [List.getElem?_append_left (by omega), List.getElem?_map, List.getElem?_take, if_pos hn]
  · rename_i hn
    rw [List.getElem?_append_right (by omega), l1, List.getElem?_append_right (by omega), hG, List.getElem?_map, List.getElem?_drop]
    congr 2
    omega
theorem sH_set {h : VH} (hm : m ≤ h.length) (n : Nat) (o : VO) : (sH m d G h).set (ix m d n) (sO m d o) = sH m d G (h.set n o) := by
  apply List.ext_getElem?
  intro j
  by_cases hj : ∃ k, j = ix m d k
  · obtain ⟨k, rfl⟩ := hj
    rw [sH_get hG (by rw [List.length_set]; exact hm), List.getElem?_set, List.getElem?_set, sH_get hG hm]
    by_cases hk : n = k
    · subst hk
      rw [if_pos rfl, if_pos rfl, sH_len hG]
      by_cases hn : n < h.length
      · rw [if_pos hn, if_pos (by unfold ix; split <;> omega)]; rfl
      · rw [if_neg hn, if_neg (by unfold ix; split <;> omega)]; rfl
    · rw [if_neg hk, if_neg (fun e => hk (ix_inj e))]
  · have h1 : m ≤ j ∧ j < m + d := by
      by_cases c : j < m
      · exact absurd ⟨j, by unfold ix; rw [if_pos c]⟩ hj
      · by_cases c2 : j < m + d
        · omega
        · exact absurd ⟨j - d, by unfold ix; rw [if_neg (by omega)]; omega⟩ hj
    have ne : ix m d n ≠ j := by unfold ix; split <;> omega
    rw [List.getElem?_set_ne ne]
    unfold sH
    have l1 : ((h.take m).map (sO m d)).length = m := by rw [List.length_map, List.length_take]; omega
    have l2 : (((h.set n o).take m).map (sO m d)).length = m := by rw [List.length_map, List.length_take, List.length_set]; omega
    rw [mid_get l1 hG h1.1 h1.2, mid_get l2 hG h1.1 h1.2]
theorem sH_push {h : VH} (hm : m ≤ h.length) (o : VO) : sH m d G h ++ [sO m d o] = sH m d G (h ++ [o]) := by
  unfold sH
  rw [List.take_append_of_le_length hm, List.drop_append_of_le_length hm]
  simp
omit hG in
theorem ix_len (hG : G.length = d) {h : VH} (hm : m ≤ h.length) : (sH m d G h).length = ix m d h.length := by
  rw [sH_len hG]
  unfold ix
  rw [if_neg (by omega)]
end
end VI
set_option autoImplicit false
set_option linter.all false
set_option Elab.async false
set_option maxRecDepth 100000
set_option maxHeartbeats 4000000
/-! the operators where objects stand between -/
namespace VI
open PySem (Str)
section
variable {m d : Nat} {G : VH}
/-! ### values -/
mutual
theorem beq_s : ∀ a b : PV, PV.beq (sV m d a) (sV m d b) = PV.beq a b
  | .non, b => by cases b <;> simp [sV, PV.beq]
  | .bl _, b => by cases b <;> simp [sV, PV.beq]
  | .int _, b => by cases b <;> simp [sV, PV.beq]
  | .str _, b => by cases b <;> simp [sV, PV.beq]
  | .ref a, b => by
    cases b with
    | ref b => simp only [sV, PV.beq]; exact ix_beq a b
    | _ => simp [sV, PV.beq]
  | .tup xs, b => by
    cases b with
    | tup ys => simp only [sV, PV.beq]; exact beqs_s xs ys
    | _ => simp [sV, PV.beq]
  | .err c p, b => by
    cases b with
    | err e q => simp only [sV, PV.beq]; rw [beq_s p q]
    | _ => simp [sV, PV.beq]
theorem beqs_s : ∀ a b : List PV, PV.beqs (sVs m d a) (sVs m d b) = PV.beqs a b
  | [], [] => rfl
  | [], _ :: _ => rfl
  | _ :: _, [] => rfl
  | x :: xs, y :: ys => by simp only [sVs, PV.beqs]; rw [beq_s x y, beqs_s xs ys]
end
mutual
theorem keyOk_s : ∀ a : PV, PV.keyOk (sV m d a) = PV.keyOk a
  | .non | .bl _ | .int _ | .str _ | .ref _ | .err _ _ => by simp [sV, PV.keyOk]
  | .tup xs => by simp only [sV, PV.keyOk]; exact keysOk_s xs
theorem keysOk_s : ∀ a : List PV, PV.keysOk (sVs m d a) = PV.keysOk a
  | [] => rfl
  | x :: xs => by simp only [sVs, PV.keysOk]; rw [keyOk_s x, keysOk_s xs]
end
mutual
theorem deep_s : ∀ a : PV, PV.deep (sV m d a) = PV.deep a
  | .non | .bl _ | .int _ | .str _ | .ref _ | .err _ _ => by simp [sV, PV.deep]
  | .tup xs => by simp only [sV, PV.deep]; rw [deeps_s xs]
theorem deeps_s : ∀ a : List PV, PV.deeps (sVs m d a) = PV.deeps a
  | [] => rfl
  | x :: xs => by simp only [sVs, PV.deeps]; rw [deep_s x, deeps_s xs]
end
theorem isTup_s (a : PV) : PV.isTup (sV m d a) = PV.isTup a := by cases a <;> rfl
theorem flat_s (a : PV) : flat (sV m d a) = flat a := by cases a <;> rfl
theorem keyFit_s (kvs : List (PV × PV)) (k : PV) : keyFit (sKs m d kvs) (sV m d k) = keyFit kvs k := by
  unfold keyFit
  rw [keyOk_s, deep_s]
  cases kvs with
  | nil => rfl
  | cons q r => simp only [sKs, List.map_cons, isTup_s]
theorem look_s (k : PV) : ∀ kvs : List (PV × PV), look (sV m d k) (sKs m d kvs) = (look k kvs).map (sV m d)
  | [] => rfl
  | (k', v) :: r => by
    have ih := look_s k r
    simp only [sKs, List.map_cons, look] at ih ⊢
    rw [beq_s]
    split
    · rfl
    · exact ih
theorem put_s (k v : PV) : ∀ kvs : List (PV × PV), put (sV m d k) (sV m d v) (sKs m d kvs) = sKs m d (put k v kvs)
  | [] => rfl
  | (k', v') :: r => by
    have ih := put_s k v r
    simp only [sKs, List.map_cons, put] at ih ⊢
    rw [beq_s]
    split
    · rfl
    · rw [ih]; rfl
theorem fget_s (f : Str) : ∀ fs : List (Str × PV), fget f (sFs m d fs) = (fget f fs).map (sV m d)
  | [] => rfl
  | (g, v) :: r => by
    have ih := fget_s f r
    simp only [sFs, List.map_cons, fget] at ih ⊢
    split
    · rfl
    · exact ih
theorem fput_s (f : Str) (v : PV) : ∀ fs : List (Str × PV), fput f (sV m d v) (sFs m d fs) = sFs m d (fput f v fs)
  | [] => rfl
  | (g, w) :: r => by
    have ih := fput_s f v r
    simp only [sFs, List.map_cons, fput] at ih ⊢
    split
    · rfl
    · rw [ih]; rfl
theorem intsOf_s : ∀ xs : List PV, intsOf (sVs m d xs) = intsOf xs
  | [] => rfl
  | x :: xs => by
    have ih := intsOf_s xs
    cases x <;> simp only [sVs, sV, intsOf] <;> rw [ih]
theorem boolsOf_s : ∀ xs : List PV, boolsOf (sVs m d xs) = boolsOf xs
  | [] => rfl
  | x :: xs => by
    have ih := boolsOf_s xs
    cases x <;> simp only [sVs, sV, boolsOf] <;> rw [ih]
theorem putAll_s : ∀ (ps kvs : List (PV × PV)), putAll (sKs m d kvs) (sKs m d ps) = (putAll kvs ps).map (sKs m d)
  | [], kvs => rfl
  | (k, v) :: r, kvs => by
    show (if keyFit (sKs m d kvs) (sV m d k) && Nat.ble ((sKs m d kvs).length + 1) sizeMax then putAll (put (sV m d k) (sV m d v) (sKs m d kvs)) (sKs m d r) else none) = _
    rw [keyFit_s, sKs_len, put_s, putAll_s r]
    simp only [putAll]
    split <;> rfl
theorem pairsOf_s : ∀ xs : List PV, pairsOf (sVs m d xs) = (pairsOf xs).map (sKs m d)
  | [] => rfl
  | x :: xs => by
    have ih := pairsOf_s xs
    have key : ∀ k v : PV, (Option.map (sKs m d) (pairsOf xs)).map ((sV m d k, sV m d v) :: ·) = ((pairsOf xs).map ((k, v) :: ·)).map (sKs m d) := fun k v => by cases pairsOf xs <;> rfl
    cases x with
    | tup ys =>
      match ys with
      | [] => rfl
      | [_] => rfl
      | [k, v] => simp only [sVs, sV, pairsOf]; rw [ih]; exact key k v
      | _ :: _ :: _ :: _ => rfl
    | _ => rfl
theorem distK_s : ∀ kvs : List (PV × PV), distK (sKs m d kvs) = distK kvs
  | [] => rfl
  | (k, v) :: r => by
    show ((look (sV m d k) (sKs m d r)).isNone && distK (sKs m d r)) = _
    rw [look_s, distK_s r, Option.isNone_map]
    rfl
theorem copyK_s (kvs : List (PV × PV)) : copyK (sKs m d kvs) = copyK kvs := by
  unfold copyK
  rw [sKs_len]
  congr 1
  unfold sKs
  rw [List.all_map]
  congr 1
  funext q
  simp only [Function.comp, isTup_s]
theorem fits_s (kvs : List (PV × PV)) : (sKs m d kvs).all (fun q => keyFit (sKs m d kvs) q.1) = kvs.all fun q => keyFit kvs q.1 := by
  have : ∀ l : List (PV × PV), (sKs m d l).all (fun q => keyFit (sKs m d kvs) q.1) = l.all fun q => keyFit kvs q.1 := fun l => by
    unfold sKs
    rw [List.all_map]
    congr 1
    funext q
    exact keyFit_s kvs q.1
  exact this kvs
theorem mapO_s {β : Type} (f g : PV → Option β) (h : ∀ x, g (sV m d x) = f x) : ∀ xs : List PV, mapO g (sVs m d xs) = mapO f xs
  | [] => rfl
  | x :: xs => by
    have ih := mapO_s f g h xs
    simp only [sVs, mapO]
    rw [h, ih]
variable (hG : G.length = d) {h : VH} (hm : m ≤ h.length)
include hG hm
theorem toD_s : ∀ (n : Nat) (x : PV), toD n (sH m d G h) (sV m d x) = toD n h x
  | 0, x => by cases x <;> rfl
  | n + 1, .non | n + 1, .bl _ | n + 1, .int _ | n + 1, .str _ | n + 1, .err _ _ => rfl
  | n + 1, .tup xs => by
    simp only [sV, toD]
    rw [mapO_s (fun x => toD n h x) (fun x => toD n (sH m d G h) x) (fun x => toD_s n x)]
  | n + 1, .ref a => by
    simp only [sV, toD]
    rw [sH_get hG hm]
    cases h[a]? with
    | none => rfl
    | some o =>
      cases o with
      | lst xs lk =>
        simp only [Option.map_some, sO]
        rw [mapO_s (fun x => toD n h x) (fun x => toD n (sH m d G h) x) (fun x => toD_s n x)]
      | _ => rfl
/-! ### what makes objects -/
theorem newL_s (xs : List PV) : newL (sVs m d xs) (sH m d G h) = sRes m d G (sV m d) (newL xs h) ∧ big m (newL xs h) := by
  unfold newL
  rw [sVs_len]
  split
  · refine ⟨?_, by simp only [big, List.length_append]; omega⟩
    rw [ix_len hG hm]
    simp only [sRes, sV]
    rw [← sH_push hG hm]
    rfl
  · exact ⟨rfl, trivial⟩
theorem newT_s (xs : List PV) : newT (sVs m d xs) (sH m d G h) = sRes m d G (sV m d) (newT xs h) ∧ big m (newT xs h) := by
  unfold newT
  rw [sVs_len]
  split
  · exact ⟨rfl, hm⟩
  · exact ⟨rfl, trivial⟩
theorem newD_s (kvs : List (PV × PV)) : newD (sKs m d kvs) (sH m d G h) = sRes m d G (sV m d) (newD kvs h) ∧ big m (newD kvs h) := by
  unfold newD
  refine ⟨?_, by simp only [big, List.length_append]; omega⟩
  rw [ix_len hG hm]
  simp only [sRes, sV]
  rw [← sH_push hG hm]
  rfl
theorem seqOf_s (x : PV) : seqOf (sH m d G h) (sV m d x) = (seqOf h x).map (sVs m d) := by
  cases x with
  | ref n =>
    simp only [sV, seqOf]
    rw [sH_get hG hm]
    cases h[n]? with
    | none => rfl
    | some o => cases o <;> rfl
  | _ => rfl
theorem isIns_s (x : PV) : isIns (sH m d G h) (sV m d x) = isIns h x := by
  cases x with
  | ref n =>
    simp only [sV, isIns]
    rw [sH_get hG hm]
    cases h[n]? with
    | none => rfl
    | some o => cases o <;> rfl
  | _ => rfl
theorem kindB_s (x : PV) : kindB (sH m d G h) (sV m d x) = kindB h x := by
  cases x with
  | ref n =>
    simp only [sV, kindB]
    rw [sH_get hG hm]
    cases h[n]? with
    | none => rfl
    | some o => cases o <;> rfl
  | _ => rfl
theorem tcOf_s (x : PV) : tcOf (sH m d G h) (sV m d x) = tcOf h x := by
  cases x with
  | ref n =>
    simp only [sV, tcOf]
    rw [sH_get hG hm]
    cases h[n]? with
    | none => rfl
    | some o => cases o <;> rfl
  | _ => rfl
/-! ### operators -/
theorem vAdd_s (a b : PV) : vAdd (sH m d G h) (sV m d a) (sV m d b) = sRes m d G (sV m d) (vAdd h a b) ∧ big m (vAdd h a b) := by
  cases a with
  | int i =>
    cases b with
    | int j => exact ⟨rfl, hm⟩
    | _ => exact ⟨rfl, trivial⟩
  | str s =>
    cases b with
    | str t => simp only [sV, vAdd]; split <;> first | exact ⟨rfl, hm⟩ | exact ⟨rfl, trivial⟩
    | _ => exact ⟨rfl, trivial⟩
  | tup xs =>
    cases b with
    | tup ys => simp only [sV, vAdd]; rw [← sVs_app]; exact newT_s hG hm _
    | _ => exact ⟨rfl, trivial⟩
  | ref n =>
    cases b with
    | ref k =>
      simp only [sV, vAdd]
      rw [sH_get hG hm, sH_get hG hm]
      cases e1 : h[n]? with
      | none => exact ⟨rfl, trivial⟩
      | some o =>
        cases e2 : h[k]? with
        | none => cases o with
          | lst xs lk => cases lk <;> exact ⟨rfl, trivial⟩
          | _ => exact ⟨rfl, trivial⟩
        | some o2 =>
          cases o with
          | lst xs lk =>
            cases o2 with
            | lst ys lk2 =>
              cases lk <;> cases lk2 <;> first | exact ⟨rfl, trivial⟩ | (simp only [Option.map_some, sO]; rw [← sVs_app]; exact newL_s hG hm _)
            | _ => cases lk <;> exact ⟨rfl, trivial⟩
          | _ => exact ⟨rfl, trivial⟩
    | _ => exact ⟨rfl, trivial⟩
  | _ => cases b <;> exact ⟨rfl, trivial⟩
omit hG hm in
theorem rep_s (n : Nat) (xs : List PV) : (List.replicate n (sVs m d xs)).flatten = sVs m d (List.replicate n xs).flatten := by
  simp only [sVs_map, List.map_flatten, List.map_replicate]
theorem vBin_s (o : BO) (a b : PV) : vBin o (sH m d G h) (sV m d a) (sV m d b) = sRes m d G (sV m d) (vBin o h a b) ∧ big m (vBin o h a b) := by
  cases o with
  | add => exact vAdd_s hG hm a b
  | mul =>
    cases a with
    | int i =>
      cases b with
      | int j => simp only [sV, vBin]; split <;> first | exact ⟨rfl, hm⟩ | exact ⟨rfl, trivial⟩
      | _ => exact ⟨rfl, trivial⟩
    | ref n =>
      cases b with
      | int j =>
        simp only [sV, vBin]
        rw [sH_get hG hm]
        cases h[n]? with
        | none => exact ⟨rfl, trivial⟩
        | some o =>
          cases o with
          | lst xs lk =>
            cases lk with
            | true => exact ⟨rfl, trivial⟩
            | false =>
              simp only [Option.map_some, sO, sVs_len]
              split
              · rw [rep_s]; exact newL_s hG hm _
              · exact ⟨rfl, trivial⟩
          | _ => exact ⟨rfl, trivial⟩
      | _ => exact ⟨rfl, trivial⟩
    | tup xs =>
      cases b with
      | int j =>
        simp only [sV, vBin, sVs_len]
        split
        · rw [rep_s]; exact newT_s hG hm _
        · exact ⟨rfl, trivial⟩
      | _ => exact ⟨rfl, trivial⟩
    | _ => cases b <;> exact ⟨rfl, trivial⟩
  | _ =>
    cases a with
    | int i =>
      cases b with
      | int j => simp only [sV, vBin] <;> first | exact ⟨rfl, hm⟩ | (split <;> first | exact ⟨rfl, hm⟩ | exact ⟨rfl, trivial⟩)
      | _ => exact ⟨rfl, trivial⟩
    | _ => cases b <;> exact ⟨rfl, trivial⟩
abbrev sRb (m d : Nat) (G : VH) : Res Bool → Res Bool := sRes m d G id
theorem vIn_s (a b : PV) : vIn (sH m d G h) (sV m d a) (sV m d b) = sRes m d G id (vIn h a b) ∧ big m (vIn h a b) := by
  cases b with
  | tup xs =>
    simp only [sV, vIn]
    rw [toD_s hG hm, mapO_s (fun x => toD 60 h x) (fun x => toD 60 (sH m d G h) x) (fun x => toD_s hG hm 60 x)]
    cases toD 60 h a with
    | none => exact ⟨rfl, trivial⟩
    | some q => cases mapO (fun x => toD 60 h x) xs <;> first | exact ⟨rfl, trivial⟩ | exact ⟨rfl, hm⟩
  | ref n =>
    simp only [sV, vIn]
    rw [sH_get hG hm]
    cases h[n]? with
    | none => exact ⟨rfl, trivial⟩
    | some o =>
      cases o with
      | lst xs lk =>
        simp only [Option.map_some, sO]
        rw [toD_s hG hm, mapO_s (fun x => toD 60 h x) (fun x => toD 60 (sH m d G h) x) (fun x => toD_s hG hm 60 x)]
        cases toD 60 h a with
        | none => exact ⟨rfl, trivial⟩
        | some q => cases mapO (fun x => toD 60 h x) xs <;> first | exact ⟨rfl, trivial⟩ | exact ⟨rfl, hm⟩
      | dct kvs lk =>
        simp only [Option.map_some, sO, keyFit_s, look_s, Option.isSome_map]
        split <;> first | exact ⟨rfl, hm⟩ | exact ⟨rfl, trivial⟩
      | _ => exact ⟨rfl, trivial⟩
  | _ => exact ⟨rfl, trivial⟩
theorem vCmp_s (o : CO) (a b : PV) : vCmp o (sH m d G h) (sV m d a) (sV m d b) = sRes m d G id (vCmp o h a b) ∧ big m (vCmp o h a b) := by
  have nb : ∀ x : PV, PV.beq (sV m d x) .non = PV.beq x .non := fun x => beq_s x .non
  cases o with
  | eq =>
    simp only [vCmp]
    rw [toD_s hG hm, toD_s hG hm]
    cases toD 64 h a with
    | none => exact ⟨rfl, trivial⟩
    | some q => cases toD 64 h b <;> first | exact ⟨rfl, trivial⟩ | exact ⟨rfl, hm⟩
  | ne =>
    simp only [vCmp]
    rw [toD_s hG hm, toD_s hG hm]
    cases toD 64 h a with
    | none => exact ⟨rfl, trivial⟩
    | some q => cases toD 64 h b <;> first | exact ⟨rfl, trivial⟩ | exact ⟨rfl, hm⟩
  | inn => exact vIn_s hG hm a b
  | nin =>
    simp only [vCmp]
    obtain ⟨q1, q2⟩ := vIn_s hG hm a b
    rw [q1]
    cases e : vIn h a b with
    | ok r h' => rw [e] at q2; exact ⟨rfl, q2⟩
    | ex c p h' => exact ⟨rfl, trivial⟩
    | no => exact ⟨rfl, trivial⟩
  | lt =>
    cases a with
    | int i =>
      cases b with
      | int j => exact ⟨rfl, hm⟩
      | _ => exact ⟨rfl, trivial⟩
    | tup xs =>
      cases b with
      | tup ys =>
        simp only [sV, vCmp, intsOf_s]
        cases intsOf xs with
        | none => exact ⟨rfl, trivial⟩
        | some q => cases intsOf ys <;> first | exact ⟨rfl, trivial⟩ | exact ⟨rfl, hm⟩
      | _ => exact ⟨rfl, trivial⟩
    | _ => cases b <;> exact ⟨rfl, trivial⟩
  | isv =>
    cases b with
    | non => cases a <;> exact ⟨by simp only [sV, vCmp, sRes, PV.beq, id], hm⟩
    | bl y =>
      cases a with
      | bl x => exact ⟨rfl, hm⟩
      | _ => exact ⟨rfl, trivial⟩
    | _ => cases a <;> exact ⟨rfl, trivial⟩
  | nisv =>
    cases b with
    | non => cases a <;> exact ⟨by simp only [sV, vCmp, sRes, PV.beq, id], hm⟩
    | bl y =>
      cases a with
      | bl x => exact ⟨rfl, hm⟩
      | _ => exact ⟨rfl, trivial⟩
    | _ => cases a <;> exact ⟨rfl, trivial⟩
  | _ =>
    cases a with
    | int i =>
      cases b with
      | int j => exact ⟨rfl, hm⟩
      | _ => exact ⟨rfl, trivial⟩
    | _ => cases b <;> exact ⟨rfl, trivial⟩
end
end VI
set_option autoImplicit false
set_option linter.all false
set_option Elab.async false
set_option maxRecDepth 100000
set_option maxHeartbeats 4000000
/-! the operators where objects stand between: places, built-in functions, methods -/
namespace VI
open PySem (Str)
section
variable {m d : Nat} {G : VH}
theorem cut_s (xs : List PV) (lo hi : Option Int) : cut (sVs m d xs) lo hi = sVs m d (cut xs lo hi) := by
  unfold cut
  simp only [sVs_map, List.length_map, List.map_take, List.map_drop]
theorem bind_get (xs : List PV) (o : Option Nat) : (o.bind fun k => (sVs m d xs)[k]?) = (o.bind fun k => xs[k]?).map (sV m d) := by
  cases o with
  | none => rfl
  | some k => simp only [Option.bind_some, sVs_get]
theorem set_s (xs : List PV) (k : Nat) (v : PV) : (sVs m d xs).set k (sV m d v) = sVs m d (xs.set k v) := by
  simp only [sVs_map, List.map_set]
theorem erase_s : ∀ (xs : List PV) (k : Nat), (sVs m d xs).eraseIdx k = sVs m d (xs.eraseIdx k)
  | [], _ => rfl
  | _ :: _, 0 => rfl
  | x :: xs, k + 1 => by
    show sV m d x :: (sVs m d xs).eraseIdx k = _
    rw [erase_s xs k]
    rfl
theorem rev_s (xs : List PV) : (sVs m d xs).reverse = sVs m d xs.reverse := by
  simp only [sVs_map, List.map_reverse]
theorem keys_s (kvs : List (PV × PV)) : (sKs m d kvs).map Prod.fst = sVs m d (kvs.map Prod.fst) := by
  simp only [sKs, sVs_map, List.map_map]
  rfl
theorem vals_s (kvs : List (PV × PV)) : (sKs m d kvs).map Prod.snd = sVs m d (kvs.map Prod.snd) := by
  simp only [sKs, sVs_map, List.map_map]
  rfl
theorem ints_s (ns : List Int) : ns.map PV.int = sVs m d (ns.map PV.int) := by
  simp only [sVs_map, List.map_map]
  rfl
variable (hG : G.length = d) {h : VH} (hm : m ≤ h.length)
include hG hm
theorem vSub_s (a i : PV) : vSub (sH m d G h) (sV m d a) (sV m d i) = sRes m d G (sV m d) (vSub h a i) ∧ big m (vSub h a i) := by
  cases a with
  | tup xs =>
    cases i with
    | int j =>
      simp only [sV, vSub, sVs_len, bind_get]
      cases (ixAt xs.length j).bind fun k => xs[k]? <;> first | exact ⟨rfl, trivial⟩ | exact ⟨rfl, hm⟩
    | _ => exact ⟨rfl, trivial⟩
  | ref n =>
    simp only [sV, vSub]
    rw [sH_get hG hm]
    cases h[n]? with
    | none => exact ⟨rfl, trivial⟩
    | some o =>
      cases o with
      | lst xs lk =>
        cases i with
        | int j =>
          simp only [Option.map_some, sO, sV, sVs_len, bind_get]
          cases (ixAt xs.length j).bind fun k => xs[k]? <;> first | exact ⟨rfl, trivial⟩ | exact ⟨rfl, hm⟩
        | _ => exact ⟨rfl, trivial⟩
      | dct kvs lk =>
        simp only [Option.map_some, sO, keyFit_s, look_s]
        split
        · cases look i kvs <;> first | exact ⟨rfl, trivial⟩ | exact ⟨rfl, hm⟩
        · exact ⟨rfl, trivial⟩
      | _ => exact ⟨rfl, trivial⟩
  | _ => exact ⟨rfl, trivial⟩
theorem vCut_s (a : PV) (lo hi : Option Int) : vCut (sH m d G h) (sV m d a) lo hi = sRes m d G (sV m d) (vCut h a lo hi) ∧ big m (vCut h a lo hi) := by
  cases a with
  | tup xs => simp only [sV, vCut, cut_s]; exact ⟨rfl, hm⟩
  | ref n =>
    simp only [sV, vCut]
    rw [sH_get hG hm]
    cases h[n]? with
    | none => exact ⟨rfl, trivial⟩
    | some o =>
      cases o with
      | lst xs lk => simp only [Option.map_some, sO, cut_s]; exact newL_s hG hm _
      | _ => exact ⟨rfl, trivial⟩
  | _ => exact ⟨rfl, trivial⟩
theorem vRev_s (a : PV) : vRev (sH m d G h) (sV m d a) = sRes m d G (sV m d) (vRev h a) ∧ big m (vRev h a) := by
  cases a with
  | ref n =>
    simp only [sV, vRev]
    rw [sH_get hG hm]
    cases h[n]? with
    | none => exact ⟨rfl, trivial⟩
    | some o =>
      cases o with
      | lst xs lk => simp only [Option.map_some, sO, rev_s]; exact newL_s hG hm _
      | _ => exact ⟨rfl, trivial⟩
  | _ => exact ⟨rfl, trivial⟩
theorem vSet_s (a i v : PV) : vSet (sH m d G h) (sV m d a) (sV m d i) (sV m d v) = (vSet h a i v).map (sH m d G) ∧ ∀ h', vSet h a i v = some h' → m ≤ h'.length := by
  cases a with
  | ref n =>
    simp only [sV, vSet]
    rw [sH_get hG hm]
    cases h[n]? with
    | none => exact ⟨rfl, fun _ e => by cases e⟩
    | some o =>
      cases o with
      | lst xs lk =>
        cases lk with
        | true => exact ⟨rfl, fun _ e => by cases e⟩
        | false =>
          cases i with
          | int j =>
            simp only [Option.map_some, sO, sV, sVs_len]
            cases ixAt xs.length j with
            | none => exact ⟨rfl, fun _ e => by cases e⟩
            | some k =>
              refine ⟨?_, fun _ e => by cases e; rw [List.length_set]; exact hm⟩
              simp only [Option.map_some, set_s]
              rw [← sH_set hG hm]
              rfl
          | _ => exact ⟨rfl, fun _ e => by cases e⟩
      | dct kvs lk =>
        cases lk with
        | true => exact ⟨rfl, fun _ e => by cases e⟩
        | false =>
          simp only [Option.map_some, sO, keyFit_s, sKs_len, put_s]
          split
          · refine ⟨?_, fun _ e => by cases e; rw [List.length_set]; exact hm⟩
            rw [Option.map_some, ← sH_set hG hm]
            rfl
          · exact ⟨rfl, fun _ e => by cases e⟩
      | _ => exact ⟨rfl, fun _ e => by cases e⟩
  | _ => exact ⟨rfl, fun _ e => by cases e⟩
theorem vSetD_s (n : Nat) (i v : PV) : vSetD (sH m d G h) (ix m d n) (sV m d i) (sV m d v) = (vSetD h n i v).map (sH m d G) ∧ ∀ h', vSetD h n i v = some h' → m ≤ h'.length := by
  simp only [vSetD]
  rw [sH_get hG hm]
  cases h[n]? with
  | none => exact ⟨rfl, fun _ e => by cases e⟩
  | some o =>
    cases o with
    | dct kvs lk =>
      cases lk with
      | true => exact ⟨rfl, fun _ e => by cases e⟩
      | false =>
        simp only [Option.map_some, sO, keyFit_s, sKs_len, put_s]
        split
        · refine ⟨?_, fun _ e => by cases e; rw [List.length_set]; exact hm⟩
          rw [Option.map_some, ← sH_set hG hm]
          rfl
        · exact ⟨rfl, fun _ e => by cases e⟩
    | _ => exact ⟨rfl, fun _ e => by cases e⟩
theorem vB1_s (b : B1) (x : PV) : vB1 b (sH m d G h) (sV m d x) = sRes m d G (sV m d) (vB1 b h x) ∧ big m (vB1 b h x) := by
  have no : ∀ {r : Res PV}, r = .no → r = sRes m d G (sV m d) .no ∧ big m (.no : Res PV) := fun e => ⟨e, trivial⟩
  cases b with
  | len =>
    cases x with
    | tup xs => simp only [sV, vB1, sVs_len]; exact ⟨rfl, hm⟩
    | str s => simp only [sV, vB1]; split <;> first | exact ⟨rfl, hm⟩ | exact ⟨rfl, trivial⟩
    | ref n =>
      simp only [sV, vB1]
      rw [sH_get hG hm]
      cases h[n]? with
      | none => exact ⟨rfl, trivial⟩
      | some o => cases o <;> simp only [Option.map_some, sO, sVs_len, sKs_len] <;> first | exact ⟨rfl, hm⟩ | exact ⟨rfl, trivial⟩
    | _ => exact ⟨rfl, trivial⟩
  | max =>
    simp only [vB1, seqOf_s hG hm]
    have : ((seqOf h x).map (sVs m d)).bind intsOf = (seqOf h x).bind intsOf := by
      cases seqOf h x with
      | none => rfl
      | some xs => exact intsOf_s xs
    rw [this]
    cases (seqOf h x).bind intsOf with
    | none => exact ⟨rfl, trivial⟩
    | some ns => cases ns <;> first | exact ⟨rfl, trivial⟩ | exact ⟨rfl, hm⟩
  | min =>
    simp only [vB1, seqOf_s hG hm]
    have : ((seqOf h x).map (sVs m d)).bind intsOf = (seqOf h x).bind intsOf := by
      cases seqOf h x with
      | none => rfl
      | some xs => exact intsOf_s xs
    rw [this]
    cases (seqOf h x).bind intsOf with
    | none => exact ⟨rfl, trivial⟩
    | some ns => cases ns <;> first | exact ⟨rfl, trivial⟩ | exact ⟨rfl, hm⟩
  | sum =>
    cases x with
    | ref n =>
      simp only [sV, vB1]
      rw [sH_get hG hm]
      cases h[n]? with
      | none => exact ⟨rfl, trivial⟩
      | some o =>
        cases o with
        | lst xs lk => simp only [Option.map_some, sO, intsOf_s]; cases intsOf xs <;> first | exact ⟨rfl, trivial⟩ | exact ⟨rfl, hm⟩
        | _ => exact ⟨rfl, trivial⟩
    | _ => exact ⟨rfl, trivial⟩
  | all =>
    cases x with
    | ref n =>
      simp only [sV, vB1]
      rw [sH_get hG hm]
      cases h[n]? with
      | none => exact ⟨rfl, trivial⟩
      | some o =>
        cases o with
        | lst xs lk => simp only [Option.map_some, sO, boolsOf_s]; cases boolsOf xs <;> first | exact ⟨rfl, trivial⟩ | exact ⟨rfl, hm⟩
        | _ => exact ⟨rfl, trivial⟩
    | _ => exact ⟨rfl, trivial⟩
  | any =>
    cases x with
    | ref n =>
      simp only [sV, vB1]
      rw [sH_get hG hm]
      cases h[n]? with
      | none => exact ⟨rfl, trivial⟩
      | some o =>
        cases o with
        | lst xs lk => simp only [Option.map_some, sO, boolsOf_s]; cases boolsOf xs <;> first | exact ⟨rfl, trivial⟩ | exact ⟨rfl, hm⟩
        | _ => exact ⟨rfl, trivial⟩
    | _ => exact ⟨rfl, trivial⟩
  | list =>
    cases x with
    | tup xs => exact newL_s hG hm xs
    | ref n =>
      simp only [sV, vB1]
      rw [sH_get hG hm]
      cases h[n]? with
      | none => exact ⟨rfl, trivial⟩
      | some o =>
        cases o with
        | lst xs lk => exact newL_s hG hm xs
        | dct kvs lk => simp only [Option.map_some, sO, keys_s]; exact newL_s hG hm _
        | _ => exact ⟨rfl, trivial⟩
    | _ => exact ⟨rfl, trivial⟩
  | tuple =>
    cases x with
    | tup xs => exact ⟨rfl, hm⟩
    | ref n =>
      simp only [sV, vB1]
      rw [sH_get hG hm]
      cases h[n]? with
      | none => exact ⟨rfl, trivial⟩
      | some o => cases o <;> first | exact ⟨rfl, hm⟩ | exact ⟨rfl, trivial⟩
    | _ => exact ⟨rfl, trivial⟩
  | dict =>
    cases x with
    | ref n =>
      simp only [sV, vB1]
      rw [sH_get hG hm]
      cases h[n]? with
      | none => exact ⟨rfl, trivial⟩
      | some o =>
        cases o with
        | lst xs lk =>
          simp only [Option.map_some, sO, pairsOf_s]
          cases pairsOf xs with
          | none => exact ⟨rfl, trivial⟩
          | some kvs =>
            simp only [Option.map_some, distK_s, fits_s]
            split
            · exact newD_s hG hm kvs
            · exact ⟨rfl, trivial⟩
        | dct kvs lk =>
          simp only [Option.map_some, sO, copyK_s]
          split
          · exact newD_s hG hm kvs
          · exact ⟨rfl, trivial⟩
        | _ => exact ⟨rfl, trivial⟩
    | _ => exact ⟨rfl, trivial⟩
  | int => cases x <;> first | exact ⟨rfl, hm⟩ | exact ⟨rfl, trivial⟩
  | abs => cases x <;> first | exact ⟨rfl, hm⟩ | exact ⟨rfl, trivial⟩
  | str => exact ⟨rfl, trivial⟩
  | sorted =>
    cases x with
    | ref n =>
      simp only [sV, vB1]
      rw [sH_get hG hm]
      cases h[n]? with
      | none => exact ⟨rfl, trivial⟩
      | some o =>
        cases o with
        | lst xs lk =>
          simp only [Option.map_some, sO, intsOf_s]
          cases intsOf xs with
          | none => exact ⟨rfl, trivial⟩
          | some ns =>
            have z := newL_s hG hm ((sortB (fun a b => decide (a ≤ b)) ns).map PV.int)
            rw [← ints_s] at z
            exact z
        | dct kvs lk =>
          simp only [Option.map_some, sO, keys_s, intsOf_s, sKs_len]
          cases intsOf (kvs.map Prod.fst) with
          | none => exact ⟨rfl, trivial⟩
          | some ns =>
            dsimp only
            split
            · have z := newL_s hG hm ((sortB (fun a b => decide (a ≤ b)) ns).map PV.int)
              rw [← ints_s] at z
              exact z
            · exact ⟨rfl, trivial⟩
        | _ => exact ⟨rfl, trivial⟩
    | _ => exact ⟨rfl, trivial⟩
theorem vBM_s (k : Nat) (bm : BM) (o : PV) (as : List PV) : vBM k bm (sH m d G h) (sV m d o) (sVs m d as) = sRes m d G (sV m d) (vBM k bm h o as) ∧ big m (vBM k bm h o as) := by
  have st : ∀ (n : Nat) (u : VO) (v : PV), (Res.ok (sV m d v) ((sH m d G h).set (ix m d n) (sO m d u)) : Res PV) = sRes m d G (sV m d) (.ok v (h.set n u)) ∧ big m (.ok v (h.set n u) : Res PV) := fun n u v => ⟨by rw [sH_set hG hm]; rfl, by show m ≤ _; rw [List.length_set]; exact hm⟩
  cases o with
  | ref n =>
    simp only [sV, vBM]
    rw [sH_get hG hm]
    cases h[n]? with
    | none => exact ⟨rfl, trivial⟩
    | some u =>
      cases u with
      | lst xs lk =>
        cases lk with
        | true => exact ⟨rfl, trivial⟩
        | false =>
          simp only [Option.map_some, sO]
          by_cases hk : Nat.beq k 0 = true
          · rw [if_pos hk, if_pos hk]
            cases bm with
            | append =>
              match as with
              | [] => exact ⟨rfl, trivial⟩
              | [x] =>
                simp only [sVs, sVs_len]
                split
                · have z := st n (.lst (xs ++ [x]) false) .non
                  simp only [sO, sVs_app] at z
                  exact z
                · exact ⟨rfl, trivial⟩
              | _ :: _ :: _ => exact ⟨rfl, trivial⟩
            | extend =>
              match as with
              | [] => exact ⟨rfl, trivial⟩
              | [y] =>
                cases y with
                | ref b =>
                  simp only [sVs, sV, ix_beq]
                  split
                  · exact ⟨rfl, trivial⟩
                  · rw [sH_get hG hm]
                    cases h[b]? with
                    | none => exact ⟨rfl, trivial⟩
                    | some u2 =>
                      cases u2 with
                      | lst ys lk2 =>
                        cases lk2 with
                        | true => exact ⟨rfl, trivial⟩
                        | false =>
                          simp only [Option.map_some, sO, sVs_len]
                          split
                          · have z := st n (.lst (xs ++ ys) false) .non
                            simp only [sO, sVs_app] at z
                            exact z
                          · exact ⟨rfl, trivial⟩
                      | _ => exact ⟨rfl, trivial⟩
                | _ => exact ⟨rfl, trivial⟩
              | _ :: _ :: _ => exact ⟨rfl, trivial⟩
            | clear =>
              match as with
              | [] => exact st n (.lst [] false) .non
              | _ :: _ => exact ⟨rfl, trivial⟩
            | count =>
              match as with
              | [] => exact ⟨rfl, trivial⟩
              | [x] =>
                cases x with
                | bl b =>
                  simp only [sVs, sV, boolsOf_s]
                  cases boolsOf xs <;> first | exact ⟨rfl, trivial⟩ | exact ⟨rfl, hm⟩
                | _ => exact ⟨rfl, trivial⟩
              | x :: _ :: _ => cases x <;> exact ⟨rfl, trivial⟩
            | pop =>
              match as with
              | [] => exact ⟨rfl, trivial⟩
              | [x] =>
                cases x with
                | int i =>
                  simp only [sVs, sV, sVs_len]
                  split
                  · cases ixAt xs.length i with
                    | none => exact ⟨rfl, trivial⟩
                    | some j =>
                      simp only [sVs_get]
                      cases xs[j]? with
                      | none => exact ⟨rfl, trivial⟩
                      | some v =>
                        have z := st n (.lst (xs.eraseIdx j) false) v
                        simp only [sO, ← erase_s] at z
                        exact z
                  · exact ⟨rfl, trivial⟩
                | _ => exact ⟨rfl, trivial⟩
              | x :: _ :: _ => cases x <;> exact ⟨rfl, trivial⟩
            | _ => exact ⟨rfl, trivial⟩
          · rw [if_neg hk, if_neg hk]
            exact ⟨rfl, trivial⟩
      | dct kvs lk =>
        simp only [Option.map_some, sO]
        by_cases hk : Nat.beq k 0 = true
        · rw [if_pos hk, if_pos hk]
          exact ⟨rfl, trivial⟩
        · rw [if_neg hk, if_neg hk]
          cases bm with
          | clear =>
            match as with
            | [] =>
              cases lk with
              | true => exact ⟨rfl, trivial⟩
              | false => exact st n (.dct [] false) .non
            | _ :: _ => exact ⟨rfl, trivial⟩
          | get =>
            match as with
            | [] => exact ⟨rfl, trivial⟩
            | [x] =>
              simp only [sVs, keyFit_s, look_s]
              split
              · cases look x kvs <;> exact ⟨rfl, hm⟩
              · exact ⟨rfl, trivial⟩
            | [x, y] =>
              simp only [sVs, keyFit_s, look_s]
              split
              · cases look x kvs <;> exact ⟨rfl, hm⟩
              · exact ⟨rfl, trivial⟩
            | _ :: _ :: _ :: _ => exact ⟨rfl, trivial⟩
          | setdefault =>
            match as with
            | [] => exact ⟨rfl, trivial⟩
            | [_] => exact ⟨rfl, trivial⟩
            | [x, y] =>
              simp only [sVs, keyFit_s, look_s, sKs_len, put_s]
              cases lk with
              | true => exact ⟨rfl, trivial⟩
              | false =>
                simp only [Bool.false_eq_true, if_false]
                split
                · cases look x kvs with
                  | none => exact st n (.dct (put x y kvs) false) y
                  | some v => exact ⟨rfl, hm⟩
                · exact ⟨rfl, trivial⟩
            | _ :: _ :: _ :: _ => exact ⟨rfl, trivial⟩
          | _ => exact ⟨rfl, trivial⟩
      | _ => exact ⟨rfl, trivial⟩
  | _ => exact ⟨rfl, trivial⟩
/-! ### == -/
omit hG hm in
theorem allP_s (f g : PV → PV → Option Bool) (fg : ∀ x y, g (sV m d x) (sV m d y) = f x y) : ∀ xs ys : List PV, allP g (sVs m d xs) (sVs m d ys) = allP f xs ys
  | [], [] => rfl
  | [], _ :: _ => rfl
  | _ :: _, [] => rfl
  | x :: xs, y :: ys => by
    simp only [sVs, allP]
    rw [fg, allP_s f g fg xs ys]
omit hG hm in
theorem allD_s (f g : PV → PV → Option Bool) (fg : ∀ x y, g (sV m d x) (sV m d y) = f x y) (ls : List (PV × PV)) : ∀ ks : List (PV × PV), allD g (sKs m d ls) (sKs m d ks) = allD f ls ks
  | [] => rfl
  | q :: ks => by
    have ih := allD_s f g fg ls ks
    simp only [sKs, List.map_cons, allD] at ih ⊢
    have lk := look_s (m := m) (d := d) q.1 ls
    unfold sKs at lk
    rw [lk, ih]
    cases look q.1 ls with
    | none => cases allD f ls ks <;> rfl
    | some u =>
      cases allD f ls ks with
      | none => rfl
      | some c => simp only [Option.map_some, fg]
omit hG hm in
theorem headK_s (ks ls : List (PV × PV)) : headK (sKs m d ks) (sKs m d ls) = sV m d (headK ks ls) := by
  cases ks with
  | nil => cases ls <;> rfl
  | cons q r => rfl
theorem eq1_s (f g : PV → PV → Option Bool) (fg : ∀ x y, g (sV m d x) (sV m d y) = f x y) (x y : PV) : eq1 g (sH m d G h) (sV m d x) (sV m d y) = eq1 f h x y := by
  cases x with
  | tup xs =>
    cases y with
    | tup ys =>
      simp only [sV, eq1, sVs_len]
      rw [allP_s f g fg]
    | _ => rfl
  | ref a =>
    cases y with
    | ref b =>
      simp only [sV, eq1]
      rw [sH_get hG hm, sH_get hG hm]
      cases h[a]? with
      | none => rfl
      | some u =>
        cases u with
        | lst xs lk =>
          cases lk with
          | true => rfl
          | false =>
            cases h[b]? with
            | none => rfl
            | some w =>
              cases w with
              | lst ys lk2 =>
                cases lk2 with
                | true => rfl
                | false =>
                  simp only [Option.map_some, sO, sVs_len]
                  rw [allP_s f g fg]
              | _ => rfl
        | dct ks lk =>
          cases lk with
          | true => rfl
          | false =>
            cases h[b]? with
            | none => rfl
            | some w =>
              cases w with
              | dct ls lk2 =>
                cases lk2 with
                | true => rfl
                | false =>
                  simp only [Option.map_some, sO, sKs_len, headK_s, keyFit_s]
                  rw [allD_s f g fg]
              | _ => rfl
        | _ => rfl
    | _ => rfl
  | _ => cases y <;> rfl
theorem eqP_s : ∀ (n : Nat) (x y : PV), eqP n (sH m d G h) (sV m d x) (sV m d y) = eqP n h x y
  | 0, _, _ => rfl
  | n + 1, x, y => by
    have e1 := fun x y => eq1_s hG hm (fun a b => eqP n h a b) (fun a b => eqP n (sH m d G h) a b) (fun a b => eqP_s n a b) x y
    have fl : ∀ x y : PV, (if flat (sV m d x) && flat (sV m d y) then (match toD 1 (sH m d G h) (sV m d x), toD 1 (sH m d G h) (sV m d y) with
      | some d, some e => some (deq d e)
      | _, _ => none) else none) = (if flat x && flat y then (match toD 1 h x, toD 1 h y with
      | some d, some e => some (deq d e)
      | _, _ => none) else none) := fun x y => by rw [flat_s, flat_s, toD_s hG hm, toD_s hG hm]
    have z := fl x y
    cases x with
    | tup xs =>
      cases y with
      | tup ys => exact e1 (.tup xs) (.tup ys)
      | _ => exact z
    | ref a =>
      cases y with
      | ref b =>
        have := e1 (.ref a) (.ref b)
        simp only [sV] at this
        simp only [sV, eqP, ix_beq]
        rw [this]
      | _ => exact z
    | _ => cases y <;> exact z
theorem eqPo_s (x y : PV) : eqPo (sH m d G h) (sV m d x) (sV m d y) = sRes m d G id (eqPo h x y) ∧ big m (eqPo h x y) := by
  have e1 := fun x y => eq1_s hG hm (fun a b => eqP 49 h a b) (fun a b => eqP 49 (sH m d G h) a b) (fun a b => eqP_s hG hm 49 a b) x y
  have go : ∀ x y : PV, (match eq1 (fun a b => eqP 49 (sH m d G h) a b) (sH m d G h) (sV m d x) (sV m d y) with
      | some b => (.ok b (sH m d G h) : Res Bool)
      | none => vCmp .eq (sH m d G h) (sV m d x) (sV m d y)) = sRes m d G id (match eq1 (fun a b => eqP 49 h a b) h x y with
      | some b => .ok b h
      | none => vCmp .eq h x y) ∧ big m (match eq1 (fun a b => eqP 49 h a b) h x y with
      | some b => .ok b h
      | none => vCmp .eq h x y) := fun x y => by
    rw [e1]
    cases eq1 (fun a b => eqP 49 h a b) h x y with
    | some b => exact ⟨rfl, hm⟩
    | none => exact vCmp_s hG hm .eq x y
  have z := vCmp_s hG hm .eq x y
  cases x with
  | tup xs =>
    cases y with
    | tup ys => exact go (.tup xs) (.tup ys)
    | _ => exact z
  | ref a =>
    cases y with
    | ref b => exact go (.ref a) (.ref b)
    | _ => exact z
  | _ => cases y <;> exact z
end
end VI
set_option autoImplicit false
set_option linter.all false
set_option Elab.async false
set_option maxRecDepth 100000
set_option maxHeartbeats 4000000
/-! what a term leans on, loops -/
namespace VI
open PySem (Str)
/-- slot for slot; what is empty may be filled -/
def RR2 (m d : Nat) (r r' : Rho) : Prop := r'.length = r.length ∧ ∀ (i : Nat) (v : PV), r[i]? = some (some v) → r'[i]? = some (some (sV m d v))
/-- if the first comes to something, the second comes to the same but for the places -/
def Sr (m d : Nat) (G : VH) {α : Type} (R : α → α → Prop) (r r' : Res α) : Prop := match r with
  | .ok a h => m ≤ h.length ∧ ∃ a', r' = .ok a' (sH m d G h) ∧ R a a'
  | .ex c p h => m ≤ h.length ∧ r' = .ex c (sV m d p) (sH m d G h)
  | .no => True
abbrev Sm (m d : Nat) (G : VH) {α : Type} (f : α → α) (r r' : Res α) : Prop := Sr m d G (fun a a' => a' = f a) r r'
def SmS (m d : Nat) (G : VH) (r r' : SR) : Prop := match r with
  | .nx r h => m ≤ h.length ∧ ∃ r2, r' = .nx r2 (sH m d G h) ∧ RR2 m d r r2
  | .rt v h => m ≤ h.length ∧ r' = .rt (sV m d v) (sH m d G h)
  | .ct r h => m ≤ h.length ∧ ∃ r2, r' = .ct r2 (sH m d G h) ∧ RR2 m d r r2
  | .ex c p r h => m ≤ h.length ∧ ∃ r2, r' = .ex c (sV m d p) r2 (sH m d G h) ∧ RR2 m d r r2
  | .no => True
structure Shf (m d : Nat) (G : VH) (T : Tb) : Prop where
  fn : ∀ f vs h, m ≤ h.length → Sm m d G (sV m d) (T.fn f vs h) (T.fn f (sVs m d vs) (sH m d G h))
  con : ∀ k v, T.con k = some v → sV m d v = v
  gd : ∀ g kvs, T.gd g = some kvs → ∀ s v, kvs.lookup s = some v → sV m d v = v
  par : ∀ f, sVs m d (T.par f).2.1 = (T.par f).2.1
section
variable {m d : Nat} {G : VH}
theorem of_sm {α : Type} {f : α → α} {r r' : Res α} (h : r' = sRes m d G f r ∧ big m r) : Sm m d G f r r' := by
  obtain ⟨rfl, hb⟩ := h
  cases r with
  | ok a h => exact ⟨hb, _, rfl, rfl⟩
  | ex c p h => exact ⟨hb, rfl⟩
  | no => trivial
theorem bind_s {α β : Type} {R : α → α → Prop} {R2 : β → β → Prop} {r r' : Res α} {k k' : α → VH → Res β} (h1 : Sr m d G R r r') (h2 : ∀ a a' h, R a a' → m ≤ h.length → Sr m d G R2 (k a h) (k' a' (sH m d G h))) : Sr m d G R2 (r.bind k) (r'.bind k') := by
  cases r with
  | ok a h =>
    obtain ⟨hb, a', rfl, ra⟩ := h1
    exact h2 a a' h ra hb
  | ex c p h =>
    obtain ⟨hb, rfl⟩ := h1
    exact ⟨hb, rfl⟩
  | no => trivial
/-- the same, by what the value becomes -/
theorem bind_f {α β : Type} {f : α → α} {R2 : β → β → Prop} {r r' : Res α} {k k' : α → VH → Res β} (h1 : Sm m d G f r r') (h2 : ∀ a h, m ≤ h.length → Sr m d G R2 (k a h) (k' (f a) (sH m d G h))) : Sr m d G R2 (r.bind k) (r'.bind k') :=
  bind_s h1 fun a a' h e hm => by cases e; exact h2 a h hm
theorem no_s {α : Type} {R : α → α → Prop} {r : Res α} : Sr m d G R .no r := trivial
theorem ok_s {α : Type} {R : α → α → Prop} {a a' : α} {h : VH} (hm : m ≤ h.length) (ra : R a a') : Sr m d G R (.ok a h) (.ok a' (sH m d G h)) := ⟨hm, a', rfl, ra⟩
theorem ex_s {α : Type} {R : α → α → Prop} (c : Nat) (p : PV) {h : VH} (hm : m ≤ h.length) : Sr m d G R (.ex c p h : Res α) (.ex c (sV m d p) (sH m d G h)) := ⟨hm, rfl⟩
theorem nos_s {r : SR} : SmS m d G .no r := trivial
theorem rr_get {r r' : Rho} (h : RR2 m d r r') {i : Nat} {v : PV} (e : r[i]? = some (some v)) : r'[i]? = some (some (sV m d v)) := h.2 i v e
theorem rr_set {r r' : Rho} (h : RR2 m d r r') (i : Nat) (v : PV) : RR2 m d (r.set i (some v)) (r'.set i (some (sV m d v))) := by
  refine ⟨by rw [List.length_set, List.length_set]; exact h.1, fun j w e => ?_⟩
  by_cases hj : i = j
  · subst hj
    have hl := (List.getElem?_eq_some_iff.mp e).1
    rw [List.length_set] at hl
    rw [List.getElem?_set_self hl] at e
    cases e
    rw [List.getElem?_set_self (by rw [h.1]; exact hl)]
  · rw [List.getElem?_set_ne hj] at e ⊢
    exact h.2 j w e
theorem rr_none {r r' : Rho} (h : RR2 m d r r') (i : Nat) : RR2 m d (r.set i none) (r'.set i none) := by
  refine ⟨by rw [List.length_set, List.length_set]; exact h.1, fun j w e => ?_⟩
  by_cases hj : i = j
  · subst hj
    have hl := (List.getElem?_eq_some_iff.mp e).1
    rw [List.length_set] at hl
    rw [List.getElem?_set_self hl] at e
    cases e
  · rw [List.getElem?_set_ne hj] at e ⊢
    exact h.2 j w e
theorem rr_wipe {r r' : Rho} (h : RR2 m d r r') : ∀ is : List Nat, RR2 m d (wipe r is) (wipe r' is)
  | [] => h
  | i :: is => rr_none (rr_wipe h is) i
variable (hG : G.length = d)
include hG
section
variable {T : Tb} (S : Shf m d G T) {h : VH} (hm : m ≤ h.length)
include S hm
omit hG hm in
theorem fill_s (f : Nat) (as : List PV) : T.fill f (sVs m d as) = (T.fill f as).map (sVs m d) := by
  unfold Tb.fill
  have p := S.par f
  generalize T.par f = q at p
  obtain ⟨n, ds, ko⟩ := q
  have e : sVs m d (ds.drop (as.length + ds.length - n)) = ds.drop (as.length + ds.length - n) := by
    have p' : ds.map (sV m d) = ds := by rw [← sVs_map]; exact p
    rw [sVs_map, List.map_drop, p']
  simp only [sVs_len]
  generalize (if ko = true then (as.length + ds.length).beq n else as.length.ble n && n.ble (as.length + ds.length)) = c
  cases c with
  | true => rw [if_pos rfl, if_pos rfl, Option.map_some, sVs_app, e]
  | false => rfl
omit hG in
theorem run_s (f : Nat) (as : List PV) : Sm m d G (sV m d) (T.run f as h) (T.run f (sVs m d as) (sH m d G h)) := by
  unfold Tb.run
  rw [fill_s S]
  cases T.fill f as with
  | none => exact no_s
  | some vs => exact S.fn f vs h hm
omit S hm in
theorem made_s {n : Nat} {r r' : Res PV} (q : Sm m d G (sV m d) r r') : Sm m d G (sV m d) (made n r) (made (ix m d n) r') := by
  cases r with
  | ok v h =>
    obtain ⟨hb, v', rfl, rfl⟩ := q
    cases v with
    | non => exact ⟨hb, _, rfl, rfl⟩
    | _ => exact no_s
  | ex c p h =>
    obtain ⟨hb, rfl⟩ := q
    exact ⟨hb, rfl⟩
  | no => exact no_s
theorem make_s (c : Nat) (as : List PV) : Sm m d G (sV m d) (T.make c as h) (T.make c (sVs m d as) (sH m d G h)) := by
  unfold Tb.make
  cases T.init c with
  | none => exact no_s
  | some f =>
    dsimp only
    rw [ix_len hG hm]
    refine made_s hG ?_
    have z := run_s S (h := h ++ [.ins c []]) (by rw [List.length_append]; omega) f (.ref h.length :: as)
    rw [← sH_push hG hm] at z
    exact z
theorem makeK_s (c : Nat) (as : List PV) (w : PV) : Sm m d G (sV m d) (T.makeK c as w h) (T.makeK c (sVs m d as) (sV m d w) (sH m d G h)) := by
  unfold Tb.makeK
  cases T.init c with
  | none => exact no_s
  | some f =>
    dsimp only
    rw [sVs_len]
    split
    · rw [ix_len hG hm]
      refine made_s hG ?_
      have z := S.fn f (.ref h.length :: (as ++ [w])) (h ++ [.ins c []]) (by rw [List.length_append]; omega)
      rw [← sH_push hG hm] at z
      simp only [sVs, sVs_app] at z
      exact z
    · exact no_s
omit S in
theorem findM_s (n : Str) (o : PV) : T.findM n (sV m d o) (sH m d G h) = T.findM n o h := by
  cases o with
  | ref a =>
    simp only [sV, Tb.findM]
    rw [sH_get hG hm]
    cases h[a]? with
    | none => rfl
    | some u =>
      cases u with
      | ins c fs =>
        simp only [Option.map_some, sO, fget_s]
        cases fget n fs <;> rfl
      | _ => rfl
  | _ => rfl
theorem meth_s (n : Str) (o : PV) (as : List PV) : Sm m d G (sV m d) (T.meth' n o as h) (T.meth' n (sV m d o) (sVs m d as) (sH m d G h)) := by
  unfold Tb.meth'
  rw [findM_s hG hm]
  cases T.findM n o h with
  | none => exact no_s
  | some f => exact run_s S hm f (o :: as)
theorem attr_s (e : PV) (f : Str) : Sm m d G (sV m d) (T.attr e f h) (T.attr (sV m d e) f (sH m d G h)) := by
  cases e with
  | ref a =>
    simp only [sV, Tb.attr]
    rw [sH_get hG hm]
    cases h[a]? with
    | none => exact no_s
    | some u =>
      cases u with
      | ins c fs =>
        simp only [Option.map_some, sO, fget_s]
        cases fget f fs with
        | none =>
          simp only [Option.map_none]
          cases T.prop c f with
          | none => exact no_s
          | some g => exact run_s S hm g [.ref a]
        | some v =>
          simp only [Option.map_some]
          split
          · exact ok_s hm rfl
          · exact no_s
      | _ => exact no_s
  | err c p => exact ok_s hm rfl
  | _ => exact no_s
theorem lenO_s (p : PV) : Sm m d G (sV m d) (vLenO T h p) (vLenO T (sH m d G h) (sV m d p)) := by
  unfold vLenO
  rw [findM_s hG hm]
  cases T.findM "__len__" p h with
  | none => exact no_s
  | some f =>
    dsimp only
    have z := run_s S hm f [p]
    simp only [sVs] at z
    cases e : T.run f [p] h with
    | ok v h' =>
      rw [e] at z
      obtain ⟨z2, v', z1, rfl⟩ := z
      rw [z1]
      cases v with
      | int i =>
        simp only [sV]
        split
        · exact ok_s z2 rfl
        · exact no_s
      | _ => exact no_s
    | ex c q h' =>
      rw [e] at z
      obtain ⟨z2, z1⟩ := z
      rw [z1]
      exact ex_s c q z2
    | no => exact no_s
theorem vB_s (b : B1) (x : PV) : Sm m d G (sV m d) (T.vB b h x) (T.vB b (sH m d G h) (sV m d x)) := by
  have z := of_sm (vB1_s hG hm b x)
  cases b with
  | len =>
    unfold Tb.vB
    dsimp only
    rw [isIns_s hG hm]
    split
    · exact lenO_s hG S hm x
    · exact z
  | _ => exact z
theorem eqOwn_s (x y : PV) : Sm m d G id (eqOwn T h x y) (eqOwn T (sH m d G h) (sV m d x) (sV m d y)) := by
  cases x with
  | ref a =>
    cases y with
    | ref b =>
      simp only [sV, eqOwn]
      rw [sH_get hG hm, sH_get hG hm]
      cases h[a]? with
      | none => exact no_s
      | some u =>
        cases u with
        | ins c fs =>
          cases h[b]? with
          | none => exact no_s
          | some w =>
            cases w with
            | ins c2 gs =>
              simp only [Option.map_some, sO]
              cases T.meth c "__eq__" with
              | none => exact no_s
              | some f =>
                cases T.meth c2 "__eq__" with
                | none => exact no_s
                | some g =>
                  dsimp only
                  have z := run_s S hm f [.ref a, .ref b]
                  simp only [sVs, sV] at z
                  cases e : T.run f [.ref a, .ref b] h with
                  | ok v h' =>
                    rw [e] at z
                    obtain ⟨z2, v', z1, rfl⟩ := z
                    rw [z1]
                    cases v with
                    | bl q => exact ok_s z2 rfl
                    | _ => exact no_s
                  | ex c q h' => exact no_s
                  | no => exact no_s
            | _ => exact no_s
        | _ => exact no_s
    | _ => exact no_s
  | _ => cases y <;> exact no_s
omit hm in
theorem eqItems_s : ∀ (xs ys : List PV) (h : VH), m ≤ h.length → Sm m d G id (eqItems T xs ys h) (eqItems T (sVs m d xs) (sVs m d ys) (sH m d G h))
  | [], [], h, hm => ok_s hm rfl
  | [], _ :: _, h, hm => no_s
  | _ :: _, [], h, hm => no_s
  | x :: xs, y :: ys, h, hm => by
    simp only [sVs, eqItems, beq_s, sVs_len]
    split
    · exact no_s
    · have z := eqOwn_s hG S hm x y
      cases e : eqOwn T h x y with
      | ok b h' =>
        rw [e] at z
        obtain ⟨z2, v', z1, rfl⟩ := z
        rw [z1]
        cases v' with
        | true => exact eqItems_s xs ys h' z2
        | false =>
          simp only [id]
          split
          · exact ok_s z2 rfl
          · exact no_s
      | ex c q h' => exact no_s
      | no => exact no_s
theorem eqX_s (neg : Bool) (x y : PV) : Sm m d G id (eqX T neg h x y) (eqX T neg (sH m d G h) (sV m d x) (sV m d y)) := by
  unfold eqX
  rw [isIns_s hG hm]
  split
  · have z := eqOwn_s hG S hm x y
    cases e : eqOwn T h x y with
    | ok b h' =>
      rw [e] at z
      obtain ⟨z2, v', z1, rfl⟩ := z
      rw [z1]
      exact ok_s z2 rfl
    | ex c q h' => exact no_s
    | no => exact no_s
  · split
    · exact of_sm (vCmp_s hG hm .ne x y)
    · have z := of_sm (eqPo_s hG hm x y)
      cases x with
      | tup xs =>
        cases y with
        | tup ys =>
          cases xs with
          | nil => exact z
          | cons a as =>
            simp only [sV, sVs]
            rw [isIns_s hG hm]
            split
            · exact eqItems_s hG S (a :: as) ys h hm
            · exact z
        | _ => cases xs <;> exact z
      | _ => cases y <;> exact z
end
/-! ### loops -/
theorem lockAt_s {h : VH} (hm : m ≤ h.length) (n : Nat) : lockAt (sH m d G h) (ix m d n) = sH m d G (lockAt h n) ∧ m ≤ (lockAt h n).length := by
  unfold lockAt
  rw [sH_get hG hm]
  cases h[n]? with
  | none => exact ⟨rfl, hm⟩
  | some u =>
    cases u with
    | lst xs lk => exact ⟨by rw [← sH_set hG hm]; rfl, by rw [List.length_set]; exact hm⟩
    | dct xs lk => exact ⟨by rw [← sH_set hG hm]; rfl, by rw [List.length_set]; exact hm⟩
    | _ => exact ⟨rfl, hm⟩
theorem unlockAt_s {h : VH} (hm : m ≤ h.length) (n : Nat) : unlockAt (sH m d G h) (ix m d n) = sH m d G (unlockAt h n) ∧ m ≤ (unlockAt h n).length := by
  unfold unlockAt
  rw [sH_get hG hm]
  cases h[n]? with
  | none => exact ⟨rfl, hm⟩
  | some u =>
    cases u with
    | lst xs lk => exact ⟨by rw [← sH_set hG hm]; rfl, by rw [List.length_set]; exact hm⟩
    | dct xs lk => exact ⟨by rw [← sH_set hG hm]; rfl, by rw [List.length_set]; exact hm⟩
    | _ => exact ⟨rfl, hm⟩
theorem lockAll_s : ∀ (ns : List Nat) {h : VH} (hm : m ≤ h.length), lockAll (sH m d G h) (ns.map (ix m d)) = sH m d G (lockAll h ns) ∧ m ≤ (lockAll h ns).length
  | [], h, hm => ⟨rfl, hm⟩
  | n :: ns, h, hm => by
    obtain ⟨z1, z2⟩ := lockAt_s hG hm n
    simp only [lockAll, List.map_cons, List.foldl_cons]
    rw [z1]
    exact lockAll_s ns z2
theorem unlockAll_s : ∀ (ns : List Nat) {h : VH} (hm : m ≤ h.length), unlockAll (sH m d G h) (ns.map (ix m d)) = sH m d G (unlockAll h ns) ∧ m ≤ (unlockAll h ns).length
  | [], h, hm => ⟨rfl, hm⟩
  | n :: ns, h, hm => by
    obtain ⟨z1, z2⟩ := unlockAt_s hG hm n
    simp only [unlockAll, List.map_cons, List.foldl_cons]
    rw [z1]
    exact unlockAll_s ns z2
theorem done_s (ns : List Nat) {r r' : SR} (q : SmS m d G r r') : SmS m d G (r.done ns) (r'.done (ns.map (ix m d))) := by
  cases r with
  | nx r h =>
    obtain ⟨hb, r2, rfl, rr⟩ := q
    obtain ⟨a, b⟩ := unlockAll_s hG ns hb
    exact ⟨b, r2, by simp only [SR.done, a], rr⟩
  | rt v h =>
    obtain ⟨hb, rfl⟩ := q
    obtain ⟨a, b⟩ := unlockAll_s hG ns hb
    exact ⟨b, by simp only [SR.done, a]⟩
  | ct r h =>
    obtain ⟨hb, r2, rfl, rr⟩ := q
    obtain ⟨a, b⟩ := unlockAll_s hG ns hb
    exact ⟨b, r2, by simp only [SR.done, a], rr⟩
  | ex c p r h =>
    obtain ⟨hb, r2, rfl, rr⟩ := q
    obtain ⟨a, b⟩ := unlockAll_s hG ns hb
    exact ⟨b, r2, by simp only [SR.done, a], rr⟩
  | no => exact nos_s
omit hG in
abbrev EEx (m d : Nat) (G : VH) (e : EX) : Prop := ∀ r r' h, RR2 m d r r' → m ≤ h.length → Sm m d G (sV m d) (e r h) (e r' (sH m d G h))
abbrev ETx (m d : Nat) (G : VH) (e : TX) : Prop := ∀ r r' h, RR2 m d r r' → m ≤ h.length → Sm m d G id (e r h) (e r' (sH m d G h))
abbrev EAx (m d : Nat) (G : VH) (e : AX) : Prop := ∀ r r' h, RR2 m d r r' → m ≤ h.length → Sm m d G (sVs m d) (e r h) (e r' (sH m d G h))
abbrev EPx (m d : Nat) (G : VH) (e : Rho → VH → Res (List (PV × PV))) : Prop := ∀ r r' h, RR2 m d r r' → m ≤ h.length → Sm m d G (sKs m d) (e r h) (e r' (sH m d G h))
abbrev EOx (m d : Nat) (G : VH) (e : Rho → VH → Res (Option Int)) : Prop := ∀ r r' h, RR2 m d r r' → m ≤ h.length → Sm m d G id (e r h) (e r' (sH m d G h))
abbrev sIt (m d : Nat) (p : List PV × List Nat) : List PV × List Nat := (sVs m d p.1, p.2.map (ix m d))
abbrev EIx (m d : Nat) (G : VH) (e : IX) : Prop := ∀ r r' h, RR2 m d r r' → m ≤ h.length → Sm m d G (sIt m d) (e r h) (e r' (sH m d G h))
abbrev EGx (m d : Nat) (G : VH) (e : GX) : Prop := ∀ v r r' h, RR2 m d r r' → m ≤ h.length → Sr m d G (RR2 m d) (e v r h) (e (sV m d v) r' (sH m d G h))
abbrev EHx (m d : Nat) (G : VH) (e : List PV → Rho → VH → Res Rho) : Prop := ∀ vs r r' h, RR2 m d r r' → m ≤ h.length → Sr m d G (RR2 m d) (e vs r h) (e (sVs m d vs) r' (sH m d G h))
abbrev ESx (m d : Nat) (G : VH) (e : SX) : Prop := ∀ r r' h, RR2 m d r r' → m ≤ h.length → SmS m d G (e r h) (e r' (sH m d G h))
omit hG in
theorem forL_s {g : GX} {b : SX} (hg : EGx m d G g) (hb : ESx m d G b) : ∀ (xs : List PV) (r r' : Rho) (h : VH), RR2 m d r r' → m ≤ h.length → SmS m d G (forL g b xs r h) (forL g b (sVs m d xs) r' (sH m d G h))
  | [], r, r', h, rr, hm => ⟨hm, r', rfl, rr⟩
  | x :: xs, r, r', h, rr, hm => by
    simp only [sVs, forL]
    have z := hg x r r' h rr hm
    cases e : g x r h with
    | ok r1 h1 =>
      rw [e] at z
      obtain ⟨z2, r1', z1, rr1⟩ := z
      rw [z1]
      dsimp only
      have w := hb r1 r1' h1 rr1 z2
      cases e2 : b r1 h1 with
      | nx r2 h2 =>
        rw [e2] at w
        obtain ⟨w2, r2', w1, rr2⟩ := w
        rw [w1]
        exact forL_s hg hb xs r2 r2' h2 rr2 w2
      | ct r2 h2 =>
        rw [e2] at w
        obtain ⟨w2, r2', w1, rr2⟩ := w
        rw [w1]
        exact forL_s hg hb xs r2 r2' h2 rr2 w2
      | rt v h2 =>
        rw [e2] at w
        obtain ⟨w2, w1⟩ := w
        rw [w1]
        exact ⟨w2, rfl⟩
      | ex c p r2 h2 =>
        rw [e2] at w
        obtain ⟨w2, r2', w1, rr2⟩ := w
        rw [w1]
        exact ⟨w2, r2', rfl, rr2⟩
      | no => exact nos_s
    | ex c p h' => exact nos_s
    | no => exact nos_s
omit hG in
theorem whileL_s {t : TX} {b : SX} (ht : ETx m d G t) (hb : ESx m d G b) : ∀ (n : Nat) (r r' : Rho) (h : VH), RR2 m d r r' → m ≤ h.length → SmS m d G (whileL t b n r h) (whileL t b n r' (sH m d G h))
  | 0, r, r', h, rr, hm => nos_s
  | n + 1, r, r', h, rr, hm => by
    simp only [whileL]
    have z := ht r r' h rr hm
    cases e : t r h with
    | ok c h1 =>
      rw [e] at z
      obtain ⟨z2, c', z1, rfl⟩ := z
      rw [z1]
      cases c' with
      | true =>
        dsimp only [id]
        have w := hb r r' h1 rr z2
        cases e2 : b r h1 with
        | nx r2 h2 =>
          rw [e2] at w
          obtain ⟨w2, r2', w1, rr2⟩ := w
          rw [w1]
          exact whileL_s ht hb n r2 r2' h2 rr2 w2
        | ct r2 h2 =>
          rw [e2] at w
          obtain ⟨w2, r2', w1, rr2⟩ := w
          rw [w1]
          exact whileL_s ht hb n r2 r2' h2 rr2 w2
        | rt v h2 =>
          rw [e2] at w
          obtain ⟨w2, w1⟩ := w
          rw [w1]
          exact ⟨w2, rfl⟩
        | ex c p r2 h2 =>
          rw [e2] at w
          obtain ⟨w2, r2', w1, rr2⟩ := w
          rw [w1]
          exact ⟨w2, r2', rfl, rr2⟩
        | no => exact nos_s
      | false => exact ⟨z2, r', rfl, rr⟩
    | ex c p h1 =>
      rw [e] at z
      obtain ⟨z2, z1⟩ := z
      rw [z1]
      exact ⟨z2, r', rfl, rr⟩
    | no => exact nos_s
theorem lcL_s {D : Nat} {g : GX} {t : TX} {e : EX} (hg : EGx m d G g) (ht : ETx m d G t) (he : EEx m d G e) {r r0 : Rho} (rr : RR2 m d r r0) : ∀ (xs : List PV) (h : VH), m ≤ h.length → Sm m d G id (lcL D g t e r xs h) (lcL (ix m d D) g t e r0 (sVs m d xs) (sH m d G h))
  | [], h, hm => ok_s hm rfl
  | x :: xs, h, hm => by
    simp only [sVs, lcL]
    have z := hg x r r0 h rr hm
    cases e1 : g x r h with
    | ok r1 h1 =>
      rw [e1] at z
      obtain ⟨z2, r1', z1, rr1⟩ := z
      rw [z1]
      dsimp only
      have w := ht r1 r1' h1 rr1 z2
      cases e2 : t r1 h1 with
      | ok c h2 =>
        rw [e2] at w
        obtain ⟨w2, c', w1, rfl⟩ := w
        rw [w1]
        cases c' with
        | true =>
          dsimp only [id]
          have y := he r1 r1' h2 rr1 w2
          cases e3 : e r1 h2 with
          | ok v h3 =>
            rw [e3] at y
            obtain ⟨y2, v', y1, rfl⟩ := y
            rw [y1]
            dsimp only
            rw [sH_get hG y2]
            cases h3[D]? with
            | none => exact no_s
            | some u =>
              cases u with
              | lst acc lk =>
                cases lk with
                | true => exact no_s
                | false =>
                  simp only [Option.map_some, sO, sVs_len]
                  split
                  · have q := sH_set hG y2 D (.lst (acc ++ [v]) false)
                    simp only [sO, sVs_app] at q
                    have z := lcL_s (D := D) hg ht he rr xs (h3.set D (.lst (acc ++ [v]) false)) (by rw [List.length_set]; exact y2)
                    rw [← q] at z
                    exact z
                  · exact no_s
              | _ => exact no_s
          | ex c p h3 => exact no_s
          | no => exact no_s
        | false => exact lcL_s (D := D) hg ht he rr xs h2 w2
      | ex c p h2 => exact no_s
      | no => exact no_s
    | ex c p h' => exact no_s
    | no => exact no_s
theorem dcL_s {D : Nat} {g : GX} {t : TX} {ek ev : EX} (hg : EGx m d G g) (ht : ETx m d G t) (hk : EEx m d G ek) (hv : EEx m d G ev) {r r0 : Rho} (rr : RR2 m d r r0) : ∀ (xs : List PV) (h : VH), m ≤ h.length → Sm m d G id (dcL D g t ek ev r xs h) (dcL (ix m d D) g t ek ev r0 (sVs m d xs) (sH m d G h))
  | [], h, hm => ok_s hm rfl
  | x :: xs, h, hm => by
    simp only [sVs, dcL]
    have z := hg x r r0 h rr hm
    cases e1 : g x r h with
    | ok r1 h1 =>
      rw [e1] at z
      obtain ⟨z2, r1', z1, rr1⟩ := z
      rw [z1]
      dsimp only
      have w := ht r1 r1' h1 rr1 z2
      cases e2 : t r1 h1 with
      | ok c h2 =>
        rw [e2] at w
        obtain ⟨w2, c', w1, rfl⟩ := w
        rw [w1]
        cases c' with
        | true =>
          dsimp only [id]
          have y := hk r1 r1' h2 rr1 w2
          cases e3 : ek r1 h2 with
          | ok k h3 =>
            rw [e3] at y
            obtain ⟨y2, k', y1, rfl⟩ := y
            rw [y1]
            dsimp only
            have x1 := hv r1 r1' h3 rr1 y2
            cases e4 : ev r1 h3 with
            | ok v h4 =>
              rw [e4] at x1
              obtain ⟨x2, v', x1, rfl⟩ := x1
              rw [x1]
              dsimp only
              obtain ⟨q1, q2⟩ := vSetD_s hG x2 D k v
              rw [q1]
              cases e5 : vSetD h4 D k v with
              | none => exact no_s
              | some h5 => exact dcL_s (D := D) hg ht hk hv rr xs h5 (q2 h5 e5)
            | ex c p h3 => exact no_s
            | no => exact no_s
          | ex c p h3 => exact no_s
          | no => exact no_s
        | false => exact dcL_s (D := D) hg ht hk hv rr xs h2 w2
      | ex c p h2 => exact no_s
      | no => exact no_s
    | ex c p h' => exact no_s
    | no => exact no_s
theorem lc2L_s {D : Nat} {g g2 : GX} {it2 : IX} {t : TX} {e : EX} (hg : EGx m d G g) (hi : EIx m d G it2) (hg2 : EGx m d G g2) (ht : ETx m d G t) (he : EEx m d G e) {r r0 : Rho} (rr : RR2 m d r r0) : ∀ (xs : List PV) (h : VH), m ≤ h.length → Sm m d G id (lc2L D g it2 g2 t e r xs h) (lc2L (ix m d D) g it2 g2 t e r0 (sVs m d xs) (sH m d G h))
  | [], h, hm => ok_s hm rfl
  | x :: xs, h, hm => by
    simp only [sVs, lc2L]
    have z := hg x r r0 h rr hm
    cases e1 : g x r h with
    | ok r1 h1 =>
      rw [e1] at z
      obtain ⟨z2, r1', z1, rr1⟩ := z
      rw [z1]
      dsimp only
      have w := hi r1 r1' h1 rr1 z2
      cases e2 : it2 r1 h1 with
      | ok p h2 =>
        rw [e2] at w
        obtain ⟨w2, p', w1, rfl⟩ := w
        rw [w1]
        obtain ⟨ys, ls⟩ := p
        dsimp only
        obtain ⟨l1, l2⟩ := lockAll_s hG ls w2
        rw [l1]
        have y := lcL_s hG (D := D) hg2 ht he rr1 ys (lockAll h2 ls) l2
        cases e3 : lcL D g2 t e r1 ys (lockAll h2 ls) with
        | ok u h3 =>
          rw [e3] at y
          obtain ⟨y2, u', y1, _⟩ := y
          rw [y1]
          dsimp only
          obtain ⟨u1, u2⟩ := unlockAll_s hG ls y2
          rw [u1]
          exact lc2L_s (D := D) hg hi hg2 ht he rr xs _ u2
        | ex c p h3 => exact no_s
        | no => exact no_s
      | ex c p h2 => exact no_s
      | no => exact no_s
    | ex c p h' => exact no_s
    | no => exact no_s
/-! ### what is walked -/
omit hG in
theorem enumL_s (i : Nat) : ∀ xs : List PV, enumL i (sVs m d xs) = sVs m d (enumL i xs)
  | [] => rfl
  | x :: xs => by
    have : ∀ (i : Nat) (xs : List PV), enumL i (sVs m d xs) = sVs m d (enumL i xs) := fun i xs => by
      induction xs generalizing i with
      | nil => rfl
      | cons x xs ih => simp only [sVs, enumL, sV, ih]
    exact this i (x :: xs)
omit hG in
theorem zipL_s : ∀ xs ys : List PV, zipL (sVs m d xs) (sVs m d ys) = sVs m d (zipL xs ys)
  | [], [] => rfl
  | [], _ :: _ => rfl
  | _ :: _, [] => rfl
  | x :: xs, y :: ys => by simp only [sVs, zipL, sV, zipL_s xs ys]
omit hG in
theorem rangeL_s (a : Int) (n : Nat) : rangeL a n = sVs m d (rangeL a n) := by
  unfold rangeL
  rw [sVs_map, List.map_map]
  rfl
theorem walkV_s {h : VH} (hm : m ≤ h.length) (v : PV) : walkV (sH m d G h) (sV m d v) = (walkV h v).map (sIt m d) := by
  cases v with
  | ref n =>
    simp only [sV, walkV]
    rw [sH_get hG hm]
    cases h[n]? with
    | none => rfl
    | some u =>
      cases u with
      | lst xs lk => cases lk <;> rfl
      | dct kvs lk => simp only [Option.map_some, sO, keys_s]; cases lk <;> rfl
      | _ => rfl
  | _ => rfl
theorem enmW_s {h : VH} (hm : m ≤ h.length) (v : PV) : enmW (sH m d G h) (sV m d v) = (enmW h v).map (sIt m d) := by
  cases v with
  | ref n =>
    simp only [sV, enmW]
    rw [sH_get hG hm]
    cases h[n]? with
    | none => rfl
    | some u =>
      cases u with
      | lst xs lk => cases lk <;> rfl
      | _ => rfl
  | _ => rfl
theorem zipW_s {h : VH} (hm : m ≤ h.length) (x y : PV) : zipW (sH m d G h) (sV m d x) (sV m d y) = (zipW h x y).map (sIt m d) := by
  cases x with
  | tup xs =>
    cases y with
    | tup ys => simp only [sV, zipW, zipL_s]; rfl
    | _ => rfl
  | ref a =>
    cases y with
    | ref b =>
      simp only [sV, zipW]
      rw [sH_get hG hm, sH_get hG hm]
      cases h[a]? with
      | none => rfl
      | some u =>
        cases u with
        | lst xs lk =>
          cases h[b]? with
          | none => rfl
          | some w =>
            cases w with
            | lst ys lk2 =>
              simp only [Option.map_some, sO, zipL_s, ix_beq]
              congr 2
              cases lk <;> cases lk2 <;> cases Nat.beq a b <;> rfl
            | _ => rfl
        | _ => rfl
    | _ => rfl
  | _ => cases y <;> rfl
end
end VI
set_option autoImplicit false
set_option linter.all false
set_option Elab.async false
set_option maxRecDepth 100000
set_option maxHeartbeats 8000000
/-! what a term does where objects stand between: the induction (its cases are printed by a program of mine, genshj.py) -/
namespace VI
open PySem (Str)
/-- all literals are plain -/
def okL : I → Bool
  | .nil => true
  | .cons a r => okL a && okL r
  | .star a r => okL a && okL r
  | .var _ => true
  | .lit v => flat v
  | .con _ => true
  | .tup a => okL a
  | .lst a => okL a
  | .dct a => okL a
  | .bin _ a b => okL a && okL b
  | .neg a => okL a
  | .cmp _ a b => okL a && okL b
  | .chn _ _ a b c => okL a && (okL b && (okL c))
  | .and a b => okL a && okL b
  | .or a b => okL a && okL b
  | .not a => okL a
  | .ife a b c => okL a && (okL b && (okL c))
  | .att a _ => okL a
  | .sub a b => okL a && okL b
  | .slc a b c => okL a && (okL b && (okL c))
  | .rvs a => okL a
  | .call _ a => okL a
  | .mk _ a => okL a
  | .mkk _ a b => okL a && okL b
  | .mth _ a b => okL a && okL b
  | .bm _ a c => okL a && okL c
  | .b1 _ a => okL a
  | .max2 a b => okL a && okL b
  | .min2 a b => okL a && okL b
  | .isi a _ => okL a
  | .gin _ _ a => okL a
  | .gget _ a => okL a
  | .srtk a => okL a
  | .lc _ a b c e => okL a && (okL b && (okL c && (okL e)))
  | .lc2 _ a b c e f g => okL a && (okL b && (okL c && (okL e && (okL f && (okL g)))))
  | .dc _ a b c e f => okL a && (okL b && (okL c && (okL e && (okL f))))
  | .lam _ _ => true
  | .cal _ a => okL a
  | .eqx _ a b => okL a && okL b
  | .rng a b => okL a && okL b
  | .enm a => okL a
  | .zip a b => okL a && okL b
  | .itm a => okL a
  | .vls a => okL a
  | .tgt a => okL a
  | .asg a b => okL a && okL b
  | .aug _ _ a => okL a
  | .ex a => okL a
  | .ifs a b c => okL a && (okL b && (okL c))
  | .whl a b => okL a && okL b
  | .for a b c => okL a && (okL b && (okL c))
  | .ret a => okL a
  | .pass => true
  | .cont => true
  | .par a b => okL a && okL b
  | .rais _ a => okL a
  | .tri a b => okL a && okL b
  | .hnd _ _ a => okL a
  | .wth a _ b => okL a && okL b
structure P0 (m d : Nat) (G : VH) (T : Tb) (e : I) : Prop where
  cE : EEx m d G (dE T e)
  cT : ETx m d G (dT T e)
  cA : EAx m d G (dA T e)
  cP : EPx m d G (dP T e)
  cO : EOx m d G (dO T e)
  cI : EIx m d G (dI T e)
  cG : EGx m d G (dG T e)
  cH : EHx m d G (dGs T e)
  cS : ESx m d G (dS T e)
  cSs : ESx m d G (dSs T e)
section
variable {m d : Nat} {G : VH}
variable (hG : G.length = d)
include hG
theorem dct_s {f : Rho → VH → Res (List (PV × PV))} (hp : EPx m d G f) (r r' : Rho) (h : VH) (rr : RR2 m d r r') (hm : m ≤ h.length) :
    Sm m d G (sV m d) ((f r (h ++ [.dct [] false])).bind fun kvs h1 => (match h1[h.length]? with
      | some (.dct [] false) => (match putAll [] kvs with
        | some kvs' => .ok (.ref h.length) (h1.set h.length (.dct kvs' false))
        | none => .no)
      | _ => .no)) ((f r' (sH m d G h ++ [.dct [] false])).bind fun kvs h1 => (match h1[(sH m d G h).length]? with
      | some (.dct [] false) => (match putAll [] kvs with
        | some kvs' => .ok (.ref (sH m d G h).length) (h1.set (sH m d G h).length (.dct kvs' false))
        | none => .no)
      | _ => .no)) := by
  rw [show (VO.dct [] false) = sO m d (.dct [] false) from rfl, sH_push hG hm]
  refine bind_f (hp r r' _ rr (by rw [List.length_append]; omega)) fun kvs h1 m1 => ?_
  rw [ix_len hG hm, sH_get hG m1]
  show Sm m d G (sV m d) (match h1[h.length]? with
      | some (.dct [] false) => (match putAll [] kvs with
        | some kvs' => .ok (.ref h.length) (h1.set h.length (.dct kvs' false))
        | none => .no)
      | _ => .no) _
  cases h1[h.length]? with
  | none => exact no_s
  | some u =>
    cases u with
    | dct xs lk =>
      cases xs with
      | nil =>
        cases lk with
        | true => exact no_s
        | false =>
          have z := putAll_s (m := m) (d := d) kvs []
          simp only [sKs, List.map_nil] at z
          simp only [Option.map_some, sO, sKs, List.map_nil]
          rw [z]
          cases putAll [] kvs with
          | none => exact no_s
          | some kvs' =>
            have q := sH_set hG m1 h.length (.dct kvs' false)
            simp only [sO] at q
            refine ⟨by rw [List.length_set]; exact m1, _, ?_, rfl⟩
            show Res.ok (PV.ref (ix m d h.length)) ((sH m d G h1).set (ix m d h.length) (.dct (sKs m d kvs') false)) = _
            rw [q]
            rfl
      | cons q qs => cases lk <;> exact no_s
    | _ => exact no_s
theorem sub_s {T : Tb} (S : Shf m d G T) {h : VH} (hm : m ≤ h.length) (x y : PV) : Sm m d G (sV m d) (match x with
    | .ref n => (match h[n]? with
      | some (.ins _ _) => T.meth' "__getitem__" x [y] h
      | _ => vSub h x y)
    | _ => vSub h x y) (match sV m d x with
    | .ref n => (match (sH m d G h)[n]? with
      | some (.ins _ _) => T.meth' "__getitem__" (sV m d x) [sV m d y] (sH m d G h)
      | _ => vSub (sH m d G h) (sV m d x) (sV m d y))
    | _ => vSub (sH m d G h) (sV m d x) (sV m d y)) := by
  have z := of_sm (vSub_s hG hm x y)
  cases x with
  | ref n =>
    have q := meth_s hG S hm "__getitem__" (.ref n) [y]
    simp only [sV, sVs] at q z ⊢
    rw [sH_get hG hm]
    cases h[n]? with
    | none => exact z
    | some u => cases u <;> first | exact z | exact q
  | _ => exact z
theorem lc_s (own : List Nat) {it : IX} {g : GX} {t : TX} {e : EX} (hi : EIx m d G it) (hg : EGx m d G g) (ht : ETx m d G t) (he : EEx m d G e) : EEx m d G fun r h => (it r h).bind fun xl h1 =>
      let h2 := lockAll h1 xl.2
      (lcL h2.length g t e (wipe r own) xl.1 (h2 ++ [.lst [] false])).bind fun _ h3 => .ok (.ref h2.length) (unlockAll h3 xl.2) := by
  intro r r' h rr hm
  refine bind_f (hi r r' h rr hm) fun p h1 m1 => ?_
  obtain ⟨ys, ls⟩ := p
  obtain ⟨l1, l2⟩ := lockAll_s hG ls m1
  dsimp only
  rw [l1]
  have e1 := ix_len hG l2
  rw [e1, show (VO.lst [] false) = sO m d (.lst [] false) from rfl, sH_push hG l2]
  refine bind_f (lcL_s hG (D := (lockAll h1 ls).length) hg ht he (rr_wipe rr own) ys _ (by rw [List.length_append]; omega)) fun u h3 m3 => ?_
  obtain ⟨u1, u2⟩ := unlockAll_s hG ls m3
  exact ⟨u2, _, by rw [u1]; rfl, rfl⟩
theorem lc2_s (own : List Nat) {it it2 : IX} {g g2 : GX} {t : TX} {e : EX} (hi : EIx m d G it) (hg : EGx m d G g) (hi2 : EIx m d G it2) (hg2 : EGx m d G g2) (ht : ETx m d G t) (he : EEx m d G e) : EEx m d G fun r h => (it r h).bind fun xl h1 =>
      let h2 := lockAll h1 xl.2
      (lc2L h2.length g it2 g2 t e (wipe r own) xl.1 (h2 ++ [.lst [] false])).bind fun _ h3 => .ok (.ref h2.length) (unlockAll h3 xl.2) := by
  intro r r' h rr hm
  refine bind_f (hi r r' h rr hm) fun p h1 m1 => ?_
  obtain ⟨ys, ls⟩ := p
  obtain ⟨l1, l2⟩ := lockAll_s hG ls m1
  dsimp only
  rw [l1]
  have e1 := ix_len hG l2
  rw [e1, show (VO.lst [] false) = sO m d (.lst [] false) from rfl, sH_push hG l2]
  refine bind_f (lc2L_s hG (D := (lockAll h1 ls).length) hg hi2 hg2 ht he (rr_wipe rr own) ys _ (by rw [List.length_append]; omega)) fun u h3 m3 => ?_
  obtain ⟨u1, u2⟩ := unlockAll_s hG ls m3
  exact ⟨u2, _, by rw [u1]; rfl, rfl⟩
theorem dc_s (own : List Nat) {it : IX} {g : GX} {t : TX} {ek ev : EX} (hi : EIx m d G it) (hg : EGx m d G g) (ht : ETx m d G t) (hk : EEx m d G ek) (hv : EEx m d G ev) : EEx m d G fun r h => (it r h).bind fun xl h1 =>
      let h2 := lockAll h1 xl.2
      (dcL h2.length g t ek ev (wipe r own) xl.1 (h2 ++ [.dct [] false])).bind fun _ h3 => .ok (.ref h2.length) (unlockAll h3 xl.2) := by
  intro r r' h rr hm
  refine bind_f (hi r r' h rr hm) fun p h1 m1 => ?_
  obtain ⟨ys, ls⟩ := p
  obtain ⟨l1, l2⟩ := lockAll_s hG ls m1
  dsimp only
  rw [l1]
  have e1 := ix_len hG l2
  rw [e1, show (VO.dct [] false) = sO m d (.dct [] false) from rfl, sH_push hG l2]
  refine bind_f (dcL_s hG (D := (lockAll h1 ls).length) hg ht hk hv (rr_wipe rr own) ys _ (by rw [List.length_append]; omega)) fun u h3 m3 => ?_
  obtain ⟨u1, u2⟩ := unlockAll_s hG ls m3
  exact ⟨u2, _, by rw [u1]; rfl, rfl⟩
theorem itm_s {h1 : VH} (m1 : m ≤ h1.length) (x : PV) : Sm m d G (sIt m d) (match x with
    | .ref n => (match h1[n]? with
      | some (.dct kvs lk) => .ok (kvs.map fun kv => .tup [kv.1, kv.2], if lk then [] else [n]) h1
      | _ => .no)
    | _ => .no) (match sV m d x with
    | .ref n => (match (sH m d G h1)[n]? with
      | some (.dct kvs lk) => .ok (kvs.map fun kv => .tup [kv.1, kv.2], if lk then [] else [n]) (sH m d G h1)
      | _ => .no)
    | _ => .no) := by
  cases x with
  | ref n =>
    simp only [sV]
    rw [sH_get hG m1]
    cases h1[n]? with
    | none => exact no_s
    | some u =>
      cases u with
      | dct kvs lk =>
        refine ok_s m1 ?_
        simp only [sIt, sKs, List.map_map, sVs_map]
        cases lk <;> rfl
      | _ => exact no_s
  | _ => exact no_s
theorem vls_s {h1 : VH} (m1 : m ≤ h1.length) (x : PV) : Sm m d G (sIt m d) (match x with
    | .ref n => (match h1[n]? with
      | some (.dct kvs lk) => .ok (kvs.map Prod.snd, if lk then [] else [n]) h1
      | _ => .no)
    | _ => .no) (match sV m d x with
    | .ref n => (match (sH m d G h1)[n]? with
      | some (.dct kvs lk) => .ok (kvs.map Prod.snd, if lk then [] else [n]) (sH m d G h1)
      | _ => .no)
    | _ => .no) := by
  cases x with
  | ref n =>
    simp only [sV]
    rw [sH_get hG m1]
    cases h1[n]? with
    | none => exact no_s
    | some u =>
      cases u with
      | dct kvs lk =>
        refine ok_s m1 ?_
        simp only [sIt, vals_s]
        cases lk <;> rfl
      | _ => exact no_s
  | _ => exact no_s
theorem attG_s {T : Tb} (S : Shf m d G T) {h1 : VH} (m1 : m ≤ h1.length) (x : PV) (f : Str) (v : PV) {r r' : Rho} (rr : RR2 m d r r') : Sr m d G (RR2 m d) (match x with
    | .ref n => (match h1[n]? with
      | some (.ins c fs) => if T.plain c f && Nat.ble (fs.length + 1) 1000 then .ok r (h1.set n (.ins c (fput f v fs))) else .no
      | _ => .no)
    | _ => .no) (match sV m d x with
    | .ref n => (match (sH m d G h1)[n]? with
      | some (.ins c fs) => if T.plain c f && Nat.ble (fs.length + 1) 1000 then .ok r' ((sH m d G h1).set n (.ins c (fput f (sV m d v) fs))) else .no
      | _ => .no)
    | _ => .no) := by
  cases x with
  | ref n =>
    simp only [sV]
    rw [sH_get hG m1]
    cases h1[n]? with
    | none => exact no_s
    | some u =>
      cases u with
      | ins c fs =>
        simp only [Option.map_some, sO, sFs_len, fput_s]
        split
        · have q := sH_set hG m1 n (.ins c (fput f v fs))
          simp only [sO] at q
          rw [q]
          exact ok_s (by rw [List.length_set]; exact m1) rr
        · exact no_s
      | _ => exact no_s
  | _ => exact no_s
omit hG in
theorem asg_s {e : EX} {g : GX} (he : EEx m d G e) (hg : EGx m d G g) : ESx m d G fun r h => (match e r h with
    | .ok v h1 => (match g v r h1 with
      | .ok r' h2 => .nx r' h2
      | _ => .no)
    | .ex c p h1 => .ex c p r h1
    | .no => .no) := by
  intro r r' h rr hm
  have z := he r r' h rr hm
  dsimp only
  cases e1 : e r h with
  | ok v h1 =>
    rw [e1] at z
    obtain ⟨z2, v', z1, rfl⟩ := z
    rw [z1]
    dsimp only
    have w := hg v r r' h1 rr z2
    cases e2 : g v r h1 with
    | ok r1 h2 =>
      rw [e2] at w
      obtain ⟨w2, r1', w1, rr1⟩ := w
      rw [w1]
      exact ⟨w2, r1', rfl, rr1⟩
    | ex c p h2 => exact nos_s
    | no => exact nos_s
  | ex c p h1 =>
    rw [e1] at z
    obtain ⟨z2, z1⟩ := z
    rw [z1]
    exact ⟨z2, r', rfl, rr⟩
  | no => exact nos_s
omit hG in
theorem augV_s (o : BO) (x y : PV) : augV o (sV m d x) (sV m d y) = (augV o x y).map (sV m d) := by
  cases o <;> cases x <;> cases y <;> rfl
omit hG in
theorem aug_s (i : Nat) (o : BO) {e : EX} (he : EEx m d G e) : ESx m d G fun r h => (match r[i]? with
    | some (some x) => (match e r h with
      | .ok y h1 => (match augV o x y with
        | some v => .nx (r.set i (some v)) h1
        | none => .no)
      | .ex c p h1 => .ex c p r h1
      | .no => .no)
    | _ => .no) := by
  intro r r' h rr hm
  dsimp only
  cases er : r[i]? with
  | none => exact nos_s
  | some u =>
    cases u with
    | none => exact nos_s
    | some x =>
      rw [rr_get rr er]
      dsimp only
      have z := he r r' h rr hm
      cases e1 : e r h with
      | ok v h1 =>
        rw [e1] at z
        obtain ⟨z2, v', z1, rfl⟩ := z
        rw [z1]
        simp only [augV_s]
        cases augV o x v with
        | none => exact nos_s
        | some w => exact ⟨z2, _, rfl, rr_set rr i w⟩
      | ex c p h1 =>
        rw [e1] at z
        obtain ⟨z2, z1⟩ := z
        rw [z1]
        exact ⟨z2, r', rfl, rr⟩
      | no => exact nos_s
omit hG in
theorem exS_s {e : EX} (he : EEx m d G e) : ESx m d G fun r h => (match e r h with
    | .ok _ h1 => .nx r h1
    | .ex c p h1 => .ex c p r h1
    | .no => .no) := by
  intro r r' h rr hm
  have z := he r r' h rr hm
  dsimp only
  cases e1 : e r h with
  | ok v h1 =>
    rw [e1] at z
    obtain ⟨z2, v', z1, rfl⟩ := z
    rw [z1]
    exact ⟨z2, r', rfl, rr⟩
  | ex c p h1 =>
    rw [e1] at z
    obtain ⟨z2, z1⟩ := z
    rw [z1]
    exact ⟨z2, r', rfl, rr⟩
  | no => exact nos_s
omit hG in
theorem ret_s {e : EX} (he : EEx m d G e) : ESx m d G fun r h => (match e r h with
    | .ok v h1 => .rt v h1
    | .ex c p h1 => .ex c p r h1
    | .no => .no) := by
  intro r r' h rr hm
  have z := he r r' h rr hm
  dsimp only
  cases e1 : e r h with
  | ok v h1 =>
    rw [e1] at z
    obtain ⟨z2, v', z1, rfl⟩ := z
    rw [z1]
    exact ⟨z2, rfl⟩
  | ex c p h1 =>
    rw [e1] at z
    obtain ⟨z2, z1⟩ := z
    rw [z1]
    exact ⟨z2, r', rfl, rr⟩
  | no => exact nos_s
omit hG in
theorem rais_s (c : Nat) {e : EX} (he : EEx m d G e) : ESx m d G fun r h => (match e r h with
    | .ok v h1 => .ex c v r h1
    | .ex c p h1 => .ex c p r h1
    | .no => .no) := by
  intro r r' h rr hm
  have z := he r r' h rr hm
  dsimp only
  cases e1 : e r h with
  | ok v h1 =>
    rw [e1] at z
    obtain ⟨z2, v', z1, rfl⟩ := z
    rw [z1]
    exact ⟨z2, r', rfl, rr⟩
  | ex c p h1 =>
    rw [e1] at z
    obtain ⟨z2, z1⟩ := z
    rw [z1]
    exact ⟨z2, r', rfl, rr⟩
  | no => exact nos_s
omit hG in
theorem ifs_s {t : TX} {a b : SX} (ht : ETx m d G t) (ha : ESx m d G a) (hb : ESx m d G b) : ESx m d G fun r h => (match t r h with
    | .ok true h1 => a r h1
    | .ok false h1 => b r h1
    | .ex c p h1 => .ex c p r h1
    | .no => .no) := by
  intro r r' h rr hm
  have z := ht r r' h rr hm
  dsimp only
  cases e1 : t r h with
  | ok c h1 =>
    rw [e1] at z
    obtain ⟨z2, c', z1, rfl⟩ := z
    rw [z1]
    cases c' with
    | true => exact ha r r' h1 rr z2
    | false => exact hb r r' h1 rr z2
  | ex c p h1 =>
    rw [e1] at z
    obtain ⟨z2, z1⟩ := z
    rw [z1]
    exact ⟨z2, r', rfl, rr⟩
  | no => exact nos_s
theorem for_s {it : IX} {g : GX} {b : SX} (hi : EIx m d G it) (hg : EGx m d G g) (hb : ESx m d G b) : ESx m d G fun r h => (match it r h with
    | .ok (xs, ls) h1 => (forL g b xs r (lockAll h1 ls)).done ls
    | .ex c p h1 => .ex c p r h1
    | .no => .no) := by
  intro r r' h rr hm
  have z := hi r r' h rr hm
  dsimp only
  cases e1 : it r h with
  | ok p h1 =>
    rw [e1] at z
    obtain ⟨z2, p', z1, rfl⟩ := z
    rw [z1]
    obtain ⟨xs, ls⟩ := p
    dsimp only
    obtain ⟨l1, l2⟩ := lockAll_s hG ls z2
    rw [l1]
    exact done_s hG ls (forL_s hg hb xs r r' _ rr l2)
  | ex c p h1 =>
    rw [e1] at z
    obtain ⟨z2, z1⟩ := z
    rw [z1]
    exact ⟨z2, r', rfl, rr⟩
  | no => exact nos_s
omit hG in
theorem par_s {a : AX} {g : List PV → Rho → VH → Res Rho} (ha : EAx m d G a) (hg : EHx m d G g) : ESx m d G fun r h => (match a r h with
    | .ok vs h1 => (match g vs r h1 with
      | .ok r' h2 => .nx r' h2
      | _ => .no)
    | .ex c p h1 => .ex c p r h1
    | .no => .no) := by
  intro r r' h rr hm
  have z := ha r r' h rr hm
  dsimp only
  cases e1 : a r h with
  | ok v h1 =>
    rw [e1] at z
    obtain ⟨z2, v', z1, rfl⟩ := z
    rw [z1]
    dsimp only
    have w := hg v r r' h1 rr z2
    cases e2 : g v r h1 with
    | ok r1 h2 =>
      rw [e2] at w
      obtain ⟨w2, r1', w1, rr1⟩ := w
      rw [w1]
      exact ⟨w2, r1', rfl, rr1⟩
    | ex c p h2 => exact nos_s
    | no => exact nos_s
  | ex c p h1 =>
    rw [e1] at z
    obtain ⟨z2, z1⟩ := z
    rw [z1]
    exact ⟨z2, r', rfl, rr⟩
  | no => exact nos_s
omit hG in
theorem seq_s {a b : SX} (ha : ESx m d G a) (hb : ESx m d G b) : ESx m d G fun r h => (match a r h with
    | .nx r' h' => b r' h'
    | o => o) := by
  intro r r' h rr hm
  have z := ha r r' h rr hm
  dsimp only
  cases e1 : a r h with
  | nx r1 h1 =>
    rw [e1] at z
    obtain ⟨z2, r1', z1, rr1⟩ := z
    rw [z1]
    exact hb r1 r1' h1 rr1 z2
  | rt v h1 =>
    rw [e1] at z
    obtain ⟨z2, z1⟩ := z
    rw [z1]
    exact ⟨z2, rfl⟩
  | ct r1 h1 =>
    rw [e1] at z
    obtain ⟨z2, r1', z1, rr1⟩ := z
    rw [z1]
    exact ⟨z2, r1', rfl, rr1⟩
  | ex c p r1 h1 =>
    rw [e1] at z
    obtain ⟨z2, r1', z1, rr1⟩ := z
    rw [z1]
    exact ⟨z2, r1', rfl, rr1⟩
  | no => exact nos_s
variable {T : Tb} (S : Shf m d G T)
include S
theorem p0_nil   : P0 m d G T (.nil) where
  cE := fun r r' h rr hm => no_s
  cT := fun r r' h rr hm => ok_s hm rfl
  cA := fun r r' h rr hm => ok_s hm rfl
  cP := fun r r' h rr hm => ok_s hm rfl
  cO := fun r r' h rr hm => ok_s hm rfl
  cI := fun r r' h rr hm => no_s
  cG := fun v r r' h rr hm => no_s
  cH := fun vs r r' h rr hm => by
      cases vs with
      | nil => exact ok_s hm rr
      | cons x xs => exact no_s
  cS := fun r r' h rr hm => nos_s
  cSs := fun r r' h rr hm => ⟨hm, r', rfl, rr⟩
theorem p0_cons {a : I} {r : I} (ia : P0 m d G T a) (ir : P0 m d G T r) (kr : ∀ v ps, r = .cons v ps → P0 m d G T v ∧ P0 m d G T ps) : P0 m d G T (.cons a r) where
  cE := fun r0 r' h rr hm => no_s
  cT := fun r0 r' h rr hm => no_s
  cA := fun r r' h rr hm => bind_f (ia.cE r r' h rr hm) fun x h1 m1 => bind_f (ir.cA r r' h1 rr m1) fun xs h2 m2 => ok_s m2 rfl
  cP := fun r0 r' h rr hm => by
      cases r with
      | cons v ps =>
        obtain ⟨iv, ip⟩ := kr v ps rfl
        exact bind_f (ia.cE r0 r' h rr hm) fun x h1 m1 => bind_f (iv.cE r0 r' h1 rr m1) fun y h2 m2 => bind_f (ip.cP r0 r' h2 rr m2) fun kvs h3 m3 => ok_s m3 rfl
      | _ => exact no_s
  cO := fun r0 r' h rr hm => bind_f (ia.cE r0 r' h rr hm) fun x h1 m1 => by cases x <;> first | exact no_s | exact ok_s m1 rfl
  cI := fun r0 r' h rr hm => no_s
  cG := fun v r0 r' h rr hm => no_s
  cH := fun vs r0 r' h rr hm => by
      cases vs with
      | nil => exact no_s
      | cons x xs => exact bind_s (ia.cG x r0 r' h rr hm) fun r1 r1' h' rr1 m' => ir.cH xs r1 r1' h' rr1 m'
  cS := fun r0 r' h rr hm => nos_s
  cSs := fun r0 r' h rr hm => seq_s ia.cS ir.cSs r0 r' h rr hm
theorem p0_star {a : I} {r : I} (ia : P0 m d G T a) (ir : P0 m d G T r) : P0 m d G T (.star a r) where
  cE := fun r r' h rr hm => no_s
  cT := fun r r' h rr hm => no_s
  cA := fun r r' h rr hm => bind_f (ia.cE r r' h rr hm) fun x h1 m1 => by
      rw [seqOf_s hG m1]
      cases seqOf h1 x with
      | none => exact no_s
      | some ys => exact bind_f (ir.cA r r' h1 rr m1) fun xs h2 m2 => ok_s m2 (by rw [sVs_app])
  cP := fun r r' h rr hm => no_s
  cO := fun r r' h rr hm => no_s
  cI := fun r r' h rr hm => no_s
  cG := fun v r r' h rr hm => no_s
  cH := fun vs r r' h rr hm => by cases vs <;> exact no_s
  cS := fun r r' h rr hm => nos_s
  cSs := fun r r' h rr hm => nos_s
theorem p0_var (i : Nat)  : P0 m d G T (.var i) where
  cE := fun r r' h rr hm => by
      show Sm m d G (sV m d) (match r[i]? with | some (some v) => Res.ok v h | _ => .no) (match r'[i]? with | some (some v) => Res.ok v (sH m d G h) | _ => .no)
      cases e : r[i]? with
      | none => exact no_s
      | some o =>
        cases o with
        | none => exact no_s
        | some v => rw [rr_get rr e]; exact ok_s hm rfl
  cT := fun r r' h rr hm => no_s
  cA := fun r r' h rr hm => no_s
  cP := fun r r' h rr hm => no_s
  cO := fun r r' h rr hm => no_s
  cI := fun r r' h rr hm => no_s
  cG := fun v r r' h rr hm => ok_s hm (rr_set rr i v)
  cH := fun vs r r' h rr hm => by cases vs <;> exact no_s
  cS := fun r r' h rr hm => nos_s
  cSs := fun r r' h rr hm => nos_s
theorem p0_lit (v : PV)  (ok : okL (.lit v) = true) : P0 m d G T (.lit v) where
  cE := fun r r' h rr hm => by
      have e : sV m d v = v := by cases v <;> first | rfl | (exact absurd ok (by simp [okL, flat]))
      exact ok_s hm e.symm
  cT := fun r r' h rr hm => no_s
  cA := fun r r' h rr hm => no_s
  cP := fun r r' h rr hm => no_s
  cO := fun r r' h rr hm => no_s
  cI := fun r r' h rr hm => no_s
  cG := fun v r r' h rr hm => no_s
  cH := fun vs r r' h rr hm => by cases vs <;> exact no_s
  cS := fun r r' h rr hm => nos_s
  cSs := fun r r' h rr hm => nos_s
theorem p0_con (k : Nat)  : P0 m d G T (.con k) where
  cE := fun r r' h rr hm => by
      show Sm m d G (sV m d) (match T.con k with | some v => Res.ok v h | none => .no) (match T.con k with | some v => Res.ok v (sH m d G h) | none => .no)
      cases e : T.con k with
      | none => exact no_s
      | some v => exact ok_s hm (S.con k v e).symm
  cT := fun r r' h rr hm => no_s
  cA := fun r r' h rr hm => no_s
  cP := fun r r' h rr hm => no_s
  cO := fun r r' h rr hm => no_s
  cI := fun r r' h rr hm => no_s
  cG := fun v r r' h rr hm => no_s
  cH := fun vs r r' h rr hm => by cases vs <;> exact no_s
  cS := fun r r' h rr hm => nos_s
  cSs := fun r r' h rr hm => nos_s
theorem p0_tup {a : I} (ia : P0 m d G T a) : P0 m d G T (.tup a) where
  cE := fun r r' h rr hm => bind_f (ia.cA r r' h rr hm) fun vs h1 m1 => (of_sm (newT_s hG m1 vs))
  cT := fun r r' h rr hm => no_s
  cA := fun r r' h rr hm => no_s
  cP := fun r r' h rr hm => no_s
  cO := fun r r' h rr hm => no_s
  cI := fun r r' h rr hm => no_s
  cG := fun v r r' h rr hm => no_s
  cH := fun vs r r' h rr hm => by cases vs <;> exact no_s
  cS := fun r r' h rr hm => nos_s
  cSs := fun r r' h rr hm => nos_s
theorem p0_lst {a : I} (ia : P0 m d G T a) : P0 m d G T (.lst a) where
  cE := fun r r' h rr hm => bind_f (ia.cA r r' h rr hm) fun vs h1 m1 => (of_sm (newL_s hG m1 vs))
  cT := fun r r' h rr hm => no_s
  cA := fun r r' h rr hm => no_s
  cP := fun r r' h rr hm => no_s
  cO := fun r r' h rr hm => no_s
  cI := fun r r' h rr hm => no_s
  cG := fun v r r' h rr hm => no_s
  cH := fun vs r r' h rr hm => by cases vs <;> exact no_s
  cS := fun r r' h rr hm => nos_s
  cSs := fun r r' h rr hm => nos_s
theorem p0_dct {a : I} (ia : P0 m d G T a) : P0 m d G T (.dct a) where
  cE := fun r r' h rr hm => dct_s hG ia.cP r r' h rr hm
  cT := fun r r' h rr hm => no_s
  cA := fun r r' h rr hm => no_s
  cP := fun r r' h rr hm => no_s
  cO := fun r r' h rr hm => no_s
  cI := fun r r' h rr hm => no_s
  cG := fun v r r' h rr hm => no_s
  cH := fun vs r r' h rr hm => by cases vs <;> exact no_s
  cS := fun r r' h rr hm => nos_s
  cSs := fun r r' h rr hm => nos_s
theorem p0_bin (o : BO) {a : I} {b : I} (ia : P0 m d G T a) (ib : P0 m d G T b) : P0 m d G T (.bin o a b) where
  cE := fun r r' h rr hm => bind_f (ia.cE r r' h rr hm) fun x h1 m1 => bind_f (ib.cE r r' h1 rr m1) fun y h2 m2 => (of_sm (vBin_s hG m2 o x y))
  cT := fun r r' h rr hm => no_s
  cA := fun r r' h rr hm => no_s
  cP := fun r r' h rr hm => no_s
  cO := fun r r' h rr hm => no_s
  cI := fun r r' h rr hm => no_s
  cG := fun v r r' h rr hm => no_s
  cH := fun vs r r' h rr hm => by cases vs <;> exact no_s
  cS := fun r r' h rr hm => nos_s
  cSs := fun r r' h rr hm => nos_s
theorem p0_neg {a : I} (ia : P0 m d G T a) : P0 m d G T (.neg a) where
  cE := fun r r' h rr hm => bind_f (ia.cE r r' h rr hm) fun x h1 m1 => by cases x <;> first | exact no_s | exact ok_s m1 rfl
  cT := fun r r' h rr hm => no_s
  cA := fun r r' h rr hm => no_s
  cP := fun r r' h rr hm => no_s
  cO := fun r r' h rr hm => no_s
  cI := fun r r' h rr hm => no_s
  cG := fun v r r' h rr hm => no_s
  cH := fun vs r r' h rr hm => by cases vs <;> exact no_s
  cS := fun r r' h rr hm => nos_s
  cSs := fun r r' h rr hm => nos_s
theorem p0_cmp (o : CO) {a : I} {b : I} (ia : P0 m d G T a) (ib : P0 m d G T b) : P0 m d G T (.cmp o a b) where
  cE := fun r r' h rr hm => bind_f (ia.cE r r' h rr hm) fun x h1 m1 => bind_f (ib.cE r r' h1 rr m1) fun y h2 m2 => bind_f ((of_sm (vCmp_s hG m2 o x y))) fun c h3 m3 => ok_s m3 rfl
  cT := fun r r' h rr hm => bind_f (ia.cE r r' h rr hm) fun x h1 m1 => bind_f (ib.cE r r' h1 rr m1) fun y h2 m2 => (of_sm (vCmp_s hG m2 o x y))
  cA := fun r r' h rr hm => no_s
  cP := fun r r' h rr hm => no_s
  cO := fun r r' h rr hm => no_s
  cI := fun r r' h rr hm => no_s
  cG := fun v r r' h rr hm => no_s
  cH := fun vs r r' h rr hm => by cases vs <;> exact no_s
  cS := fun r r' h rr hm => nos_s
  cSs := fun r r' h rr hm => nos_s
theorem p0_chn (o : CO) (p : CO) {a : I} {b : I} {c : I} (ia : P0 m d G T a) (ib : P0 m d G T b) (ic : P0 m d G T c) : P0 m d G T (.chn o p a b c) where
  cE := fun r r' h rr hm => bind_f (ia.cE r r' h rr hm) fun x h1 m1 => bind_f (ib.cE r r' h1 rr m1) fun y h2 m2 => bind_f ((of_sm (vCmp_s hG m2 o x y))) fun k h3 m3 => by
      cases k with
      | false => exact ok_s m3 rfl
      | true => exact bind_f (ic.cE r r' h3 rr m3) fun z h4 m4 => bind_f ((of_sm (vCmp_s hG m4 p y z))) fun e h5 m5 => ok_s m5 rfl
  cT := fun r r' h rr hm => bind_f (ia.cE r r' h rr hm) fun x h1 m1 => bind_f (ib.cE r r' h1 rr m1) fun y h2 m2 => bind_f ((of_sm (vCmp_s hG m2 o x y))) fun k h3 m3 => by
      cases k with
      | false => exact ok_s m3 rfl
      | true => exact bind_f (ic.cE r r' h3 rr m3) fun z h4 m4 => (of_sm (vCmp_s hG m4 p y z))
  cA := fun r r' h rr hm => no_s
  cP := fun r r' h rr hm => no_s
  cO := fun r r' h rr hm => no_s
  cI := fun r r' h rr hm => no_s
  cG := fun v r r' h rr hm => no_s
  cH := fun vs r r' h rr hm => by cases vs <;> exact no_s
  cS := fun r r' h rr hm => nos_s
  cSs := fun r r' h rr hm => nos_s
theorem p0_and {a : I} {b : I} (ia : P0 m d G T a) (ib : P0 m d G T b) : P0 m d G T (.and a b) where
  cE := fun r r' h rr hm => bind_f (ia.cE r r' h rr hm) fun x h1 m1 => by
      cases x with
      | bl q => cases q <;> first | exact ok_s m1 rfl | exact ib.cE r r' h1 rr m1
      | _ => exact no_s
  cT := fun r r' h rr hm => bind_f (ia.cT r r' h rr hm) fun x h1 m1 => by
      cases x with
      | true => exact ib.cT r r' h1 rr m1
      | false => exact ok_s m1 rfl
  cA := fun r r' h rr hm => no_s
  cP := fun r r' h rr hm => no_s
  cO := fun r r' h rr hm => no_s
  cI := fun r r' h rr hm => no_s
  cG := fun v r r' h rr hm => no_s
  cH := fun vs r r' h rr hm => by cases vs <;> exact no_s
  cS := fun r r' h rr hm => nos_s
  cSs := fun r r' h rr hm => nos_s
theorem p0_or {a : I} {b : I} (ia : P0 m d G T a) (ib : P0 m d G T b) : P0 m d G T (.or a b) where
  cE := fun r r' h rr hm => bind_f (ia.cE r r' h rr hm) fun x h1 m1 => by
      cases x with
      | bl q => cases q <;> first | exact ok_s m1 rfl | exact ib.cE r r' h1 rr m1
      | _ => exact no_s
  cT := fun r r' h rr hm => bind_f (ia.cT r r' h rr hm) fun x h1 m1 => by
      cases x with
      | true => exact ok_s m1 rfl
      | false => exact ib.cT r r' h1 rr m1
  cA := fun r r' h rr hm => no_s
  cP := fun r r' h rr hm => no_s
  cO := fun r r' h rr hm => no_s
  cI := fun r r' h rr hm => no_s
  cG := fun v r r' h rr hm => no_s
  cH := fun vs r r' h rr hm => by cases vs <;> exact no_s
  cS := fun r r' h rr hm => nos_s
  cSs := fun r r' h rr hm => nos_s
theorem p0_not {a : I} (ia : P0 m d G T a) : P0 m d G T (.not a) where
  cE := fun r r' h rr hm => bind_f (ia.cE r r' h rr hm) fun x h1 m1 => by cases x <;> first | exact no_s | exact ok_s m1 rfl
  cT := fun r r' h rr hm => bind_f (ia.cT r r' h rr hm) fun x h1 m1 => ok_s m1 rfl
  cA := fun r r' h rr hm => no_s
  cP := fun r r' h rr hm => no_s
  cO := fun r r' h rr hm => no_s
  cI := fun r r' h rr hm => no_s
  cG := fun v r r' h rr hm => no_s
  cH := fun vs r r' h rr hm => by cases vs <;> exact no_s
  cS := fun r r' h rr hm => nos_s
  cSs := fun r r' h rr hm => nos_s
theorem p0_ife {a : I} {b : I} {c : I} (ia : P0 m d G T a) (ib : P0 m d G T b) (ic : P0 m d G T c) : P0 m d G T (.ife a b c) where
  cE := fun r r' h rr hm => bind_f (ia.cT r r' h rr hm) fun x h1 m1 => by
      cases x with
      | true => exact ib.cE r r' h1 rr m1
      | false => exact ic.cE r r' h1 rr m1
  cT := fun r r' h rr hm => no_s
  cA := fun r r' h rr hm => no_s
  cP := fun r r' h rr hm => no_s
  cO := fun r r' h rr hm => no_s
  cI := fun r r' h rr hm => no_s
  cG := fun v r r' h rr hm => no_s
  cH := fun vs r r' h rr hm => by cases vs <;> exact no_s
  cS := fun r r' h rr hm => nos_s
  cSs := fun r r' h rr hm => nos_s
theorem p0_att {a : I} (f : Str) (ia : P0 m d G T a) : P0 m d G T (.att a f) where
  cE := fun r r' h rr hm => bind_f (ia.cE r r' h rr hm) fun x h1 m1 => attr_s hG S m1 x f
  cT := fun r r' h rr hm => no_s
  cA := fun r r' h rr hm => no_s
  cP := fun r r' h rr hm => no_s
  cO := fun r r' h rr hm => no_s
  cI := fun r r' h rr hm => no_s
  cG := fun v r r' h rr hm => bind_f (ia.cE r r' h rr hm) fun x h1 m1 => attG_s hG S m1 x f v rr
  cH := fun vs r r' h rr hm => by cases vs <;> exact no_s
  cS := fun r r' h rr hm => nos_s
  cSs := fun r r' h rr hm => nos_s
theorem p0_sub {a : I} {b : I} (ia : P0 m d G T a) (ib : P0 m d G T b) : P0 m d G T (.sub a b) where
  cE := fun r r' h rr hm => bind_f (ia.cE r r' h rr hm) fun x h1 m1 => bind_f (ib.cE r r' h1 rr m1) fun y h2 m2 => sub_s hG S m2 x y
  cT := fun r r' h rr hm => no_s
  cA := fun r r' h rr hm => no_s
  cP := fun r r' h rr hm => no_s
  cO := fun r r' h rr hm => no_s
  cI := fun r r' h rr hm => no_s
  cG := fun v r r' h rr hm => bind_f (ia.cE r r' h rr hm) fun x h1 m1 => bind_f (ib.cE r r' h1 rr m1) fun y h2 m2 => by
      obtain ⟨q1, q2⟩ := vSet_s hG m2 x y v
      rw [q1]
      cases e : vSet h2 x y v with
      | none => exact no_s
      | some h3 => exact ok_s (q2 h3 e) rr
  cH := fun vs r r' h rr hm => by cases vs <;> exact no_s
  cS := fun r r' h rr hm => nos_s
  cSs := fun r r' h rr hm => nos_s
theorem p0_slc {a : I} {b : I} {c : I} (ia : P0 m d G T a) (ib : P0 m d G T b) (ic : P0 m d G T c) : P0 m d G T (.slc a b c) where
  cE := fun r r' h rr hm => bind_f (ia.cE r r' h rr hm) fun x h1 m1 => bind_f (ib.cO r r' h1 rr m1) fun i h2 m2 => bind_f (ic.cO r r' h2 rr m2) fun j h3 m3 => (of_sm (vCut_s hG m3 x i j))
  cT := fun r r' h rr hm => no_s
  cA := fun r r' h rr hm => no_s
  cP := fun r r' h rr hm => no_s
  cO := fun r r' h rr hm => no_s
  cI := fun r r' h rr hm => no_s
  cG := fun v r r' h rr hm => no_s
  cH := fun vs r r' h rr hm => by cases vs <;> exact no_s
  cS := fun r r' h rr hm => nos_s
  cSs := fun r r' h rr hm => nos_s
theorem p0_rvs {a : I} (ia : P0 m d G T a) : P0 m d G T (.rvs a) where
  cE := fun r r' h rr hm => bind_f (ia.cE r r' h rr hm) fun x h1 m1 => (of_sm (vRev_s hG m1 x))
  cT := fun r r' h rr hm => no_s
  cA := fun r r' h rr hm => no_s
  cP := fun r r' h rr hm => no_s
  cO := fun r r' h rr hm => no_s
  cI := fun r r' h rr hm => no_s
  cG := fun v r r' h rr hm => no_s
  cH := fun vs r r' h rr hm => by cases vs <;> exact no_s
  cS := fun r r' h rr hm => nos_s
  cSs := fun r r' h rr hm => nos_s
theorem p0_call (f : Nat) {a : I} (ia : P0 m d G T a) : P0 m d G T (.call f a) where
  cE := fun r r' h rr hm => bind_f (ia.cA r r' h rr hm) fun vs h1 m1 => run_s S m1 f vs
  cT := fun r r' h rr hm => no_s
  cA := fun r r' h rr hm => no_s
  cP := fun r r' h rr hm => no_s
  cO := fun r r' h rr hm => no_s
  cI := fun r r' h rr hm => no_s
  cG := fun v r r' h rr hm => no_s
  cH := fun vs r r' h rr hm => by cases vs <;> exact no_s
  cS := fun r r' h rr hm => nos_s
  cSs := fun r r' h rr hm => nos_s
theorem p0_mk (c : Nat) {a : I} (ia : P0 m d G T a) : P0 m d G T (.mk c a) where
  cE := fun r r' h rr hm => bind_f (ia.cA r r' h rr hm) fun vs h1 m1 => make_s hG S m1 c vs
  cT := fun r r' h rr hm => no_s
  cA := fun r r' h rr hm => no_s
  cP := fun r r' h rr hm => no_s
  cO := fun r r' h rr hm => no_s
  cI := fun r r' h rr hm => no_s
  cG := fun v r r' h rr hm => no_s
  cH := fun vs r r' h rr hm => by cases vs <;> exact no_s
  cS := fun r r' h rr hm => nos_s
  cSs := fun r r' h rr hm => nos_s
theorem p0_mkk (c : Nat) {a : I} {b : I} (ia : P0 m d G T a) (ib : P0 m d G T b) : P0 m d G T (.mkk c a b) where
  cE := fun r r' h rr hm => bind_f (ia.cA r r' h rr hm) fun vs h1 m1 => bind_f (ib.cE r r' h1 rr m1) fun w h2 m2 => makeK_s hG S m2 c vs w
  cT := fun r r' h rr hm => no_s
  cA := fun r r' h rr hm => no_s
  cP := fun r r' h rr hm => no_s
  cO := fun r r' h rr hm => no_s
  cI := fun r r' h rr hm => no_s
  cG := fun v r r' h rr hm => no_s
  cH := fun vs r r' h rr hm => by cases vs <;> exact no_s
  cS := fun r r' h rr hm => nos_s
  cSs := fun r r' h rr hm => nos_s
theorem p0_mth (n : Str) {a : I} {b : I} (ia : P0 m d G T a) (ib : P0 m d G T b) : P0 m d G T (.mth n a b) where
  cE := fun r r' h rr hm => bind_f (ia.cE r r' h rr hm) fun x h1 m1 => by
      rw [findM_s hG m1]
      cases T.findM n x h1 with
      | none => exact no_s
      | some f => exact bind_f (ib.cA r r' h1 rr m1) fun vs h2 m2 => run_s S m2 f (x :: vs)
  cT := fun r r' h rr hm => no_s
  cA := fun r r' h rr hm => no_s
  cP := fun r r' h rr hm => no_s
  cO := fun r r' h rr hm => no_s
  cI := fun r r' h rr hm => no_s
  cG := fun v r r' h rr hm => no_s
  cH := fun vs r r' h rr hm => by cases vs <;> exact no_s
  cS := fun r r' h rr hm => nos_s
  cSs := fun r r' h rr hm => nos_s
theorem p0_bm (b : BM) {a : I} {c : I} (ia : P0 m d G T a) (ic : P0 m d G T c) : P0 m d G T (.bm b a c) where
  cE := fun r r' h rr hm => bind_f (ia.cE r r' h rr hm) fun x h1 m1 => by
      rw [kindB_s hG m1]
      cases kindB h1 x with
      | zero => exact no_s
      | succ k => exact bind_f (ic.cA r r' h1 rr m1) fun vs h2 m2 => (of_sm (vBM_s hG m2 k b x vs))
  cT := fun r r' h rr hm => no_s
  cA := fun r r' h rr hm => no_s
  cP := fun r r' h rr hm => no_s
  cO := fun r r' h rr hm => no_s
  cI := fun r r' h rr hm => no_s
  cG := fun v r r' h rr hm => no_s
  cH := fun vs r r' h rr hm => by cases vs <;> exact no_s
  cS := fun r r' h rr hm => nos_s
  cSs := fun r r' h rr hm => nos_s
theorem p0_b1 (b : B1) {a : I} (ia : P0 m d G T a) : P0 m d G T (.b1 b a) where
  cE := fun r r' h rr hm => bind_f (ia.cE r r' h rr hm) fun x h1 m1 => vB_s hG S m1 b x
  cT := fun r r' h rr hm => no_s
  cA := fun r r' h rr hm => no_s
  cP := fun r r' h rr hm => no_s
  cO := fun r r' h rr hm => no_s
  cI := fun r r' h rr hm => no_s
  cG := fun v r r' h rr hm => no_s
  cH := fun vs r r' h rr hm => by cases vs <;> exact no_s
  cS := fun r r' h rr hm => nos_s
  cSs := fun r r' h rr hm => nos_s
theorem p0_max2 {a : I} {b : I} (ia : P0 m d G T a) (ib : P0 m d G T b) : P0 m d G T (.max2 a b) where
  cE := fun r r' h rr hm => bind_f (ia.cE r r' h rr hm) fun x h1 m1 => bind_f (ib.cE r r' h1 rr m1) fun y h2 m2 => by
      cases x with
      | int i => cases y <;> first | exact no_s | exact ok_s m2 rfl
      | _ => exact no_s
  cT := fun r r' h rr hm => no_s
  cA := fun r r' h rr hm => no_s
  cP := fun r r' h rr hm => no_s
  cO := fun r r' h rr hm => no_s
  cI := fun r r' h rr hm => no_s
  cG := fun v r r' h rr hm => no_s
  cH := fun vs r r' h rr hm => by cases vs <;> exact no_s
  cS := fun r r' h rr hm => nos_s
  cSs := fun r r' h rr hm => nos_s
theorem p0_min2 {a : I} {b : I} (ia : P0 m d G T a) (ib : P0 m d G T b) : P0 m d G T (.min2 a b) where
  cE := fun r r' h rr hm => bind_f (ia.cE r r' h rr hm) fun x h1 m1 => bind_f (ib.cE r r' h1 rr m1) fun y h2 m2 => by
      cases x with
      | int i => cases y <;> first | exact no_s | exact ok_s m2 rfl
      | _ => exact no_s
  cT := fun r r' h rr hm => no_s
  cA := fun r r' h rr hm => no_s
  cP := fun r r' h rr hm => no_s
  cO := fun r r' h rr hm => no_s
  cI := fun r r' h rr hm => no_s
  cG := fun v r r' h rr hm => no_s
  cH := fun vs r r' h rr hm => by cases vs <;> exact no_s
  cS := fun r r' h rr hm => nos_s
  cSs := fun r r' h rr hm => nos_s
theorem p0_isi {a : I} (ks : List TyK) (ia : P0 m d G T a) : P0 m d G T (.isi a ks) where
  cE := fun r r' h rr hm => bind_f (ia.cE r r' h rr hm) fun x h1 m1 => by
      rw [tcOf_s hG m1]
      cases tcOf h1 x with
      | none => exact no_s
      | some t => dsimp only; cases anyK (T.kit t) ks <;> first | exact no_s | exact ok_s m1 rfl
  cT := fun r r' h rr hm => no_s
  cA := fun r r' h rr hm => no_s
  cP := fun r r' h rr hm => no_s
  cO := fun r r' h rr hm => no_s
  cI := fun r r' h rr hm => no_s
  cG := fun v r r' h rr hm => no_s
  cH := fun vs r r' h rr hm => by cases vs <;> exact no_s
  cS := fun r r' h rr hm => nos_s
  cSs := fun r r' h rr hm => nos_s
theorem p0_gin (ng : Bool) (g : Nat) {a : I} (ia : P0 m d G T a) : P0 m d G T (.gin ng g a) where
  cE := fun r r' h rr hm => bind_f (ia.cE r r' h rr hm) fun x h1 m1 => by
      cases T.gd g with
      | none => exact no_s
      | some kvs => cases x <;> first | exact no_s | exact ok_s m1 rfl
  cT := fun r r' h rr hm => no_s
  cA := fun r r' h rr hm => no_s
  cP := fun r r' h rr hm => no_s
  cO := fun r r' h rr hm => no_s
  cI := fun r r' h rr hm => no_s
  cG := fun v r r' h rr hm => no_s
  cH := fun vs r r' h rr hm => by cases vs <;> exact no_s
  cS := fun r r' h rr hm => nos_s
  cSs := fun r r' h rr hm => nos_s
theorem p0_gget (g : Nat) {a : I} (ia : P0 m d G T a) : P0 m d G T (.gget g a) where
  cE := fun r r' h rr hm => bind_f (ia.cE r r' h rr hm) fun x h1 m1 => by
      cases e : T.gd g with
      | none => exact no_s
      | some kvs =>
        cases x with
        | str s =>
          simp only [sV]
          cases e2 : kvs.lookup s with
          | none => exact no_s
          | some v => exact ok_s m1 (S.gd g kvs e s v e2).symm
        | _ => exact no_s
  cT := fun r r' h rr hm => no_s
  cA := fun r r' h rr hm => no_s
  cP := fun r r' h rr hm => no_s
  cO := fun r r' h rr hm => no_s
  cI := fun r r' h rr hm => no_s
  cG := fun v r r' h rr hm => no_s
  cH := fun vs r r' h rr hm => by cases vs <;> exact no_s
  cS := fun r r' h rr hm => nos_s
  cSs := fun r r' h rr hm => nos_s
theorem p0_srtk {a : I} (ia : P0 m d G T a) : P0 m d G T (.srtk a) where
  cE := fun r r' h rr hm => no_s
  cT := fun r r' h rr hm => no_s
  cA := fun r r' h rr hm => no_s
  cP := fun r r' h rr hm => no_s
  cO := fun r r' h rr hm => no_s
  cI := fun r r' h rr hm => no_s
  cG := fun v r r' h rr hm => no_s
  cH := fun vs r r' h rr hm => by cases vs <;> exact no_s
  cS := fun r r' h rr hm => nos_s
  cSs := fun r r' h rr hm => nos_s
theorem p0_lc (own : List Nat) {a : I} {b : I} {c : I} {e : I} (ia : P0 m d G T a) (ib : P0 m d G T b) (ic : P0 m d G T c) (ie : P0 m d G T e) : P0 m d G T (.lc own a b c e) where
  cE := fun r r' h rr hm => lc_s hG own ib.cI ia.cG ic.cT ie.cE r r' h rr hm
  cT := fun r r' h rr hm => no_s
  cA := fun r r' h rr hm => no_s
  cP := fun r r' h rr hm => no_s
  cO := fun r r' h rr hm => no_s
  cI := fun r r' h rr hm => no_s
  cG := fun v r r' h rr hm => no_s
  cH := fun vs r r' h rr hm => by cases vs <;> exact no_s
  cS := fun r r' h rr hm => nos_s
  cSs := fun r r' h rr hm => nos_s
theorem p0_lc2 (own : List Nat) {a : I} {b : I} {c : I} {e : I} {f : I} {g : I} (ia : P0 m d G T a) (ib : P0 m d G T b) (ic : P0 m d G T c) (ie : P0 m d G T e) (if_ : P0 m d G T f) (ig : P0 m d G T g) : P0 m d G T (.lc2 own a b c e f g) where
  cE := fun r r' h rr hm => lc2_s hG own ib.cI ia.cG ie.cI ic.cG if_.cT ig.cE r r' h rr hm
  cT := fun r r' h rr hm => no_s
  cA := fun r r' h rr hm => no_s
  cP := fun r r' h rr hm => no_s
  cO := fun r r' h rr hm => no_s
  cI := fun r r' h rr hm => no_s
  cG := fun v r r' h rr hm => no_s
  cH := fun vs r r' h rr hm => by cases vs <;> exact no_s
  cS := fun r r' h rr hm => nos_s
  cSs := fun r r' h rr hm => nos_s
theorem p0_dc (own : List Nat) {a : I} {b : I} {c : I} {e : I} {f : I} (ia : P0 m d G T a) (ib : P0 m d G T b) (ic : P0 m d G T c) (ie : P0 m d G T e) (if_ : P0 m d G T f) : P0 m d G T (.dc own a b c e f) where
  cE := fun r r' h rr hm => dc_s hG own ib.cI ia.cG ic.cT ie.cE if_.cE r r' h rr hm
  cT := fun r r' h rr hm => no_s
  cA := fun r r' h rr hm => no_s
  cP := fun r r' h rr hm => no_s
  cO := fun r r' h rr hm => no_s
  cI := fun r r' h rr hm => no_s
  cG := fun v r r' h rr hm => no_s
  cH := fun vs r r' h rr hm => by cases vs <;> exact no_s
  cS := fun r r' h rr hm => nos_s
  cSs := fun r r' h rr hm => nos_s
theorem p0_lam (k : Nat) (cap : List Nat)  : P0 m d G T (.lam k cap) where
  cE := fun r r' h rr hm => no_s
  cT := fun r r' h rr hm => no_s
  cA := fun r r' h rr hm => no_s
  cP := fun r r' h rr hm => no_s
  cO := fun r r' h rr hm => no_s
  cI := fun r r' h rr hm => no_s
  cG := fun v r r' h rr hm => no_s
  cH := fun vs r r' h rr hm => by cases vs <;> exact no_s
  cS := fun r r' h rr hm => nos_s
  cSs := fun r r' h rr hm => nos_s
theorem p0_cal (i : Nat) {a : I} (ia : P0 m d G T a) : P0 m d G T (.cal i a) where
  cE := fun r r' h rr hm => no_s
  cT := fun r r' h rr hm => no_s
  cA := fun r r' h rr hm => no_s
  cP := fun r r' h rr hm => no_s
  cO := fun r r' h rr hm => no_s
  cI := fun r r' h rr hm => no_s
  cG := fun v r r' h rr hm => no_s
  cH := fun vs r r' h rr hm => by cases vs <;> exact no_s
  cS := fun r r' h rr hm => nos_s
  cSs := fun r r' h rr hm => nos_s
theorem p0_eqx (ng : Bool) {a : I} {b : I} (ia : P0 m d G T a) (ib : P0 m d G T b) : P0 m d G T (.eqx ng a b) where
  cE := fun r r' h rr hm => bind_f (ia.cE r r' h rr hm) fun x h1 m1 => bind_f (ib.cE r r' h1 rr m1) fun y h2 m2 => bind_f (eqX_s hG S m2 ng x y) fun c h3 m3 => ok_s m3 rfl
  cT := fun r r' h rr hm => bind_f (ia.cE r r' h rr hm) fun x h1 m1 => bind_f (ib.cE r r' h1 rr m1) fun y h2 m2 => eqX_s hG S m2 ng x y
  cA := fun r r' h rr hm => no_s
  cP := fun r r' h rr hm => no_s
  cO := fun r r' h rr hm => no_s
  cI := fun r r' h rr hm => no_s
  cG := fun v r r' h rr hm => no_s
  cH := fun vs r r' h rr hm => by cases vs <;> exact no_s
  cS := fun r r' h rr hm => nos_s
  cSs := fun r r' h rr hm => nos_s
theorem p0_rng {a : I} {b : I} (ia : P0 m d G T a) (ib : P0 m d G T b) : P0 m d G T (.rng a b) where
  cE := fun r r' h rr hm => no_s
  cT := fun r r' h rr hm => no_s
  cA := fun r r' h rr hm => no_s
  cP := fun r r' h rr hm => no_s
  cO := fun r r' h rr hm => no_s
  cI := fun r r' h rr hm => bind_f (ia.cE r r' h rr hm) fun x h1 m1 => bind_f (ib.cE r r' h1 rr m1) fun y h2 m2 => by
      cases x with
      | int i =>
        cases y with
        | int j =>
          simp only [sV]
          split
          · exact ok_s m2 (by unfold sIt; rw [← rangeL_s]; rfl)
          · exact no_s
        | _ => exact no_s
      | _ => exact no_s
  cG := fun v r r' h rr hm => no_s
  cH := fun vs r r' h rr hm => by cases vs <;> exact no_s
  cS := fun r r' h rr hm => nos_s
  cSs := fun r r' h rr hm => nos_s
theorem p0_enm {a : I} (ia : P0 m d G T a) : P0 m d G T (.enm a) where
  cE := fun r r' h rr hm => no_s
  cT := fun r r' h rr hm => no_s
  cA := fun r r' h rr hm => no_s
  cP := fun r r' h rr hm => no_s
  cO := fun r r' h rr hm => no_s
  cI := fun r r' h rr hm => bind_f (ia.cE r r' h rr hm) fun x h1 m1 => by
      rw [enmW_s hG m1]
      cases enmW h1 x with
      | none => exact no_s
      | some p => exact ok_s m1 (by unfold sIt; rw [enumL_s])
  cG := fun v r r' h rr hm => no_s
  cH := fun vs r r' h rr hm => by cases vs <;> exact no_s
  cS := fun r r' h rr hm => nos_s
  cSs := fun r r' h rr hm => nos_s
theorem p0_zip {a : I} {b : I} (ia : P0 m d G T a) (ib : P0 m d G T b) : P0 m d G T (.zip a b) where
  cE := fun r r' h rr hm => no_s
  cT := fun r r' h rr hm => no_s
  cA := fun r r' h rr hm => no_s
  cP := fun r r' h rr hm => no_s
  cO := fun r r' h rr hm => no_s
  cI := fun r r' h rr hm => bind_f (ia.cE r r' h rr hm) fun x h1 m1 => bind_f (ib.cE r r' h1 rr m1) fun y h2 m2 => by
      rw [zipW_s hG m2]
      cases zipW h2 x y with
      | none => exact no_s
      | some p => exact ok_s m2 rfl
  cG := fun v r r' h rr hm => no_s
  cH := fun vs r r' h rr hm => by cases vs <;> exact no_s
  cS := fun r r' h rr hm => nos_s
  cSs := fun r r' h rr hm => nos_s
theorem p0_itm {a : I} (ia : P0 m d G T a) : P0 m d G T (.itm a) where
  cE := fun r r' h rr hm => no_s
  cT := fun r r' h rr hm => no_s
  cA := fun r r' h rr hm => no_s
  cP := fun r r' h rr hm => no_s
  cO := fun r r' h rr hm => no_s
  cI := fun r r' h rr hm => bind_f (ia.cE r r' h rr hm) fun x h1 m1 => itm_s hG m1 x
  cG := fun v r r' h rr hm => no_s
  cH := fun vs r r' h rr hm => by cases vs <;> exact no_s
  cS := fun r r' h rr hm => nos_s
  cSs := fun r r' h rr hm => nos_s
theorem p0_vls {a : I} (ia : P0 m d G T a) : P0 m d G T (.vls a) where
  cE := fun r r' h rr hm => no_s
  cT := fun r r' h rr hm => no_s
  cA := fun r r' h rr hm => no_s
  cP := fun r r' h rr hm => no_s
  cO := fun r r' h rr hm => no_s
  cI := fun r r' h rr hm => bind_f (ia.cE r r' h rr hm) fun x h1 m1 => vls_s hG m1 x
  cG := fun v r r' h rr hm => no_s
  cH := fun vs r r' h rr hm => by cases vs <;> exact no_s
  cS := fun r r' h rr hm => nos_s
  cSs := fun r r' h rr hm => nos_s
theorem p0_tgt {a : I} (ia : P0 m d G T a) : P0 m d G T (.tgt a) where
  cE := fun r r' h rr hm => no_s
  cT := fun r r' h rr hm => no_s
  cA := fun r r' h rr hm => no_s
  cP := fun r r' h rr hm => no_s
  cO := fun r r' h rr hm => no_s
  cI := fun r r' h rr hm => no_s
  cG := fun v r r' h rr hm => by
      cases v with
      | tup xs => exact ia.cH xs r r' h rr hm
      | _ => exact no_s
  cH := fun vs r r' h rr hm => by cases vs <;> exact no_s
  cS := fun r r' h rr hm => nos_s
  cSs := fun r r' h rr hm => nos_s
theorem p0_asg {a : I} {b : I} (ia : P0 m d G T a) (ib : P0 m d G T b) : P0 m d G T (.asg a b) where
  cE := fun r r' h rr hm => no_s
  cT := fun r r' h rr hm => no_s
  cA := fun r r' h rr hm => no_s
  cP := fun r r' h rr hm => no_s
  cO := fun r r' h rr hm => no_s
  cI := fun r r' h rr hm => no_s
  cG := fun v r r' h rr hm => no_s
  cH := fun vs r r' h rr hm => by cases vs <;> exact no_s
  cS := fun r r' h rr hm => asg_s ib.cE ia.cG r r' h rr hm
  cSs := fun r r' h rr hm => nos_s
theorem p0_aug (i : Nat) (o : BO) {a : I} (ia : P0 m d G T a) : P0 m d G T (.aug i o a) where
  cE := fun r r' h rr hm => no_s
  cT := fun r r' h rr hm => no_s
  cA := fun r r' h rr hm => no_s
  cP := fun r r' h rr hm => no_s
  cO := fun r r' h rr hm => no_s
  cI := fun r r' h rr hm => no_s
  cG := fun v r r' h rr hm => no_s
  cH := fun vs r r' h rr hm => by cases vs <;> exact no_s
  cS := fun r r' h rr hm => aug_s i o ia.cE r r' h rr hm
  cSs := fun r r' h rr hm => nos_s
theorem p0_ex {a : I} (ia : P0 m d G T a) : P0 m d G T (.ex a) where
  cE := fun r r' h rr hm => no_s
  cT := fun r r' h rr hm => bind_f (ia.cE r r' h rr hm) fun x h1 m1 => by cases x <;> first | exact no_s | exact ok_s m1 rfl
  cA := fun r r' h rr hm => no_s
  cP := fun r r' h rr hm => no_s
  cO := fun r r' h rr hm => no_s
  cI := fun r r' h rr hm => bind_f (ia.cE r r' h rr hm) fun x h1 m1 => by
      rw [walkV_s hG m1]
      cases walkV h1 x with
      | none => exact no_s
      | some p => exact ok_s m1 rfl
  cG := fun v r r' h rr hm => no_s
  cH := fun vs r r' h rr hm => by cases vs <;> exact no_s
  cS := fun r r' h rr hm => exS_s ia.cE r r' h rr hm
  cSs := fun r r' h rr hm => nos_s
theorem p0_ifs {a : I} {b : I} {c : I} (ia : P0 m d G T a) (ib : P0 m d G T b) (ic : P0 m d G T c) : P0 m d G T (.ifs a b c) where
  cE := fun r r' h rr hm => no_s
  cT := fun r r' h rr hm => no_s
  cA := fun r r' h rr hm => no_s
  cP := fun r r' h rr hm => no_s
  cO := fun r r' h rr hm => no_s
  cI := fun r r' h rr hm => no_s
  cG := fun v r r' h rr hm => no_s
  cH := fun vs r r' h rr hm => by cases vs <;> exact no_s
  cS := fun r r' h rr hm => ifs_s ia.cT ib.cSs ic.cSs r r' h rr hm
  cSs := fun r r' h rr hm => nos_s
theorem p0_whl {a : I} {b : I} (ia : P0 m d G T a) (ib : P0 m d G T b) : P0 m d G T (.whl a b) where
  cE := fun r r' h rr hm => no_s
  cT := fun r r' h rr hm => no_s
  cA := fun r r' h rr hm => no_s
  cP := fun r r' h rr hm => no_s
  cO := fun r r' h rr hm => no_s
  cI := fun r r' h rr hm => no_s
  cG := fun v r r' h rr hm => no_s
  cH := fun vs r r' h rr hm => by cases vs <;> exact no_s
  cS := fun r r' h rr hm => whileL_s ia.cT ib.cSs fuel r r' h rr hm
  cSs := fun r r' h rr hm => nos_s
theorem p0_for {a : I} {b : I} {c : I} (ia : P0 m d G T a) (ib : P0 m d G T b) (ic : P0 m d G T c) : P0 m d G T (.for a b c) where
  cE := fun r r' h rr hm => no_s
  cT := fun r r' h rr hm => no_s
  cA := fun r r' h rr hm => no_s
  cP := fun r r' h rr hm => no_s
  cO := fun r r' h rr hm => no_s
  cI := fun r r' h rr hm => no_s
  cG := fun v r r' h rr hm => no_s
  cH := fun vs r r' h rr hm => by cases vs <;> exact no_s
  cS := fun r r' h rr hm => for_s hG ib.cI ia.cG ic.cSs r r' h rr hm
  cSs := fun r r' h rr hm => nos_s
theorem p0_ret {a : I} (ia : P0 m d G T a) : P0 m d G T (.ret a) where
  cE := fun r r' h rr hm => no_s
  cT := fun r r' h rr hm => no_s
  cA := fun r r' h rr hm => no_s
  cP := fun r r' h rr hm => no_s
  cO := fun r r' h rr hm => no_s
  cI := fun r r' h rr hm => no_s
  cG := fun v r r' h rr hm => no_s
  cH := fun vs r r' h rr hm => by cases vs <;> exact no_s
  cS := fun r r' h rr hm => ret_s ia.cE r r' h rr hm
  cSs := fun r r' h rr hm => nos_s
theorem p0_pass   : P0 m d G T (.pass) where
  cE := fun r r' h rr hm => no_s
  cT := fun r r' h rr hm => no_s
  cA := fun r r' h rr hm => no_s
  cP := fun r r' h rr hm => no_s
  cO := fun r r' h rr hm => no_s
  cI := fun r r' h rr hm => no_s
  cG := fun v r r' h rr hm => no_s
  cH := fun vs r r' h rr hm => by cases vs <;> exact no_s
  cS := fun r r' h rr hm => ⟨hm, r', rfl, rr⟩
  cSs := fun r r' h rr hm => nos_s
theorem p0_cont   : P0 m d G T (.cont) where
  cE := fun r r' h rr hm => no_s
  cT := fun r r' h rr hm => no_s
  cA := fun r r' h rr hm => no_s
  cP := fun r r' h rr hm => no_s
  cO := fun r r' h rr hm => no_s
  cI := fun r r' h rr hm => no_s
  cG := fun v r r' h rr hm => no_s
  cH := fun vs r r' h rr hm => by cases vs <;> exact no_s
  cS := fun r r' h rr hm => ⟨hm, r', rfl, rr⟩
  cSs := fun r r' h rr hm => nos_s
theorem p0_par {a : I} {b : I} (ia : P0 m d G T a) (ib : P0 m d G T b) : P0 m d G T (.par a b) where
  cE := fun r r' h rr hm => no_s
  cT := fun r r' h rr hm => no_s
  cA := fun r r' h rr hm => no_s
  cP := fun r r' h rr hm => no_s
  cO := fun r r' h rr hm => no_s
  cI := fun r r' h rr hm => no_s
  cG := fun v r r' h rr hm => no_s
  cH := fun vs r r' h rr hm => by cases vs <;> exact no_s
  cS := fun r r' h rr hm => par_s ib.cA ia.cH r r' h rr hm
  cSs := fun r r' h rr hm => nos_s
theorem p0_rais (c : Nat) {a : I} (ia : P0 m d G T a) : P0 m d G T (.rais c a) where
  cE := fun r r' h rr hm => no_s
  cT := fun r r' h rr hm => no_s
  cA := fun r r' h rr hm => no_s
  cP := fun r r' h rr hm => no_s
  cO := fun r r' h rr hm => no_s
  cI := fun r r' h rr hm => no_s
  cG := fun v r r' h rr hm => no_s
  cH := fun vs r r' h rr hm => by cases vs <;> exact no_s
  cS := fun r r' h rr hm => rais_s c ia.cE r r' h rr hm
  cSs := fun r r' h rr hm => nos_s
theorem p0_tri {a : I} {b : I} (ia : P0 m d G T a) (ib : P0 m d G T b) : P0 m d G T (.tri a b) where
  cE := fun r r' h rr hm => no_s
  cT := fun r r' h rr hm => no_s
  cA := fun r r' h rr hm => no_s
  cP := fun r r' h rr hm => no_s
  cO := fun r r' h rr hm => no_s
  cI := fun r r' h rr hm => no_s
  cG := fun v r r' h rr hm => no_s
  cH := fun vs r r' h rr hm => by cases vs <;> exact no_s
  cS := fun r r' h rr hm => nos_s
  cSs := fun r r' h rr hm => nos_s
theorem p0_hnd (cs : List Nat) (as : Option Nat) {a : I} (ia : P0 m d G T a) : P0 m d G T (.hnd cs as a) where
  cE := fun r r' h rr hm => no_s
  cT := fun r r' h rr hm => no_s
  cA := fun r r' h rr hm => no_s
  cP := fun r r' h rr hm => no_s
  cO := fun r r' h rr hm => no_s
  cI := fun r r' h rr hm => no_s
  cG := fun v r r' h rr hm => no_s
  cH := fun vs r r' h rr hm => by cases vs <;> exact no_s
  cS := fun r r' h rr hm => nos_s
  cSs := fun r r' h rr hm => nos_s
theorem p0_wth {a : I} (i : Nat) {b : I} (ia : P0 m d G T a) (ib : P0 m d G T b) : P0 m d G T (.wth a i b) where
  cE := fun r r' h rr hm => no_s
  cT := fun r r' h rr hm => no_s
  cA := fun r r' h rr hm => no_s
  cP := fun r r' h rr hm => no_s
  cO := fun r r' h rr hm => no_s
  cI := fun r r' h rr hm => no_s
  cG := fun v r r' h rr hm => no_s
  cH := fun vs r r' h rr hm => by cases vs <;> exact no_s
  cS := fun r r' h rr hm => nos_s
  cSs := fun r r' h rr hm => nos_s
theorem p0 : ∀ e : I, okL e = true → P0 m d G T e ∧ ∀ v ps, e = .cons v ps → P0 m d G T v ∧ P0 m d G T ps := by
  intro e
  induction e with
  | nil => 
    intro h
    exact ⟨p0_nil hG S , fun _ _ e => by cases e⟩
  | cons a r ja jr => 
    intro h
    simp only [okL, Bool.and_eq_true] at h
    exact ⟨p0_cons hG S (ja h.1).1 (jr h.2).1 (jr h.2).2, fun v ps e => by cases e; exact ⟨(ja h.1).1, (jr h.2).1⟩⟩
  | star a r ja jr => 
    intro h
    simp only [okL, Bool.and_eq_true] at h
    exact ⟨p0_star hG S (ja h.1).1 (jr h.2).1, fun _ _ e => by cases e⟩
  | var i => 
    intro h
    exact ⟨p0_var hG S i, fun _ _ e => by cases e⟩
  | lit v => 
    intro h
    exact ⟨p0_lit hG S v h, fun _ _ e => by cases e⟩
  | con k => 
    intro h
    exact ⟨p0_con hG S k, fun _ _ e => by cases e⟩
  | tup a ja => 
    intro h
    simp only [okL] at h
    exact ⟨p0_tup hG S (ja h).1, fun _ _ e => by cases e⟩
  | lst a ja => 
    intro h
    simp only [okL] at h
    exact ⟨p0_lst hG S (ja h).1, fun _ _ e => by cases e⟩
  | dct a ja => 
    intro h
    simp only [okL] at h
    exact ⟨p0_dct hG S (ja h).1, fun _ _ e => by cases e⟩
  | bin o a b ja jb => 
    intro h
    simp only [okL, Bool.and_eq_true] at h
    exact ⟨p0_bin hG S o (ja h.1).1 (jb h.2).1, fun _ _ e => by cases e⟩
  | neg a ja => 
    intro h
    simp only [okL] at h
    exact ⟨p0_neg hG S (ja h).1, fun _ _ e => by cases e⟩
  | cmp o a b ja jb => 
    intro h
    simp only [okL, Bool.and_eq_true] at h
    exact ⟨p0_cmp hG S o (ja h.1).1 (jb h.2).1, fun _ _ e => by cases e⟩
  | chn o p a b c ja jb jc => 
    intro h
    simp only [okL, Bool.and_eq_true] at h
    exact ⟨p0_chn hG S o p (ja h.1).1 (jb h.2.1).1 (jc h.2.2).1, fun _ _ e => by cases e⟩
  | and a b ja jb => 
    intro h
    simp only [okL, Bool.and_eq_true] at h
    exact ⟨p0_and hG S (ja h.1).1 (jb h.2).1, fun _ _ e => by cases e⟩
  | or a b ja jb => 
    intro h
    simp only [okL, Bool.and_eq_true] at h
    exact ⟨p0_or hG S (ja h.1).1 (jb h.2).1, fun _ _ e => by cases e⟩
  | not a ja => 
    intro h
    simp only [okL] at h
    exact ⟨p0_not hG S (ja h).1, fun _ _ e => by cases e⟩
  | ife a b c ja jb jc => 
    intro h
    simp only [okL, Bool.and_eq_true] at h
    exact ⟨p0_ife hG S (ja h.1).1 (jb h.2.1).1 (jc h.2.2).1, fun _ _ e => by cases e⟩
  | att a f ja => 
    intro h
    simp only [okL] at h
    exact ⟨p0_att hG S f (ja h).1, fun _ _ e => by cases e⟩
  | sub a b ja jb => 
    intro h
    simp only [okL, Bool.and_eq_true] at h
    exact ⟨p0_sub hG S (ja h.1).1 (jb h.2).1, fun _ _ e => by cases e⟩
  | slc a b c ja jb jc => 
    intro h
    simp only [okL, Bool.and_eq_true] at h
    exact ⟨p0_slc hG S (ja h.1).1 (jb h.2.1).1 (jc h.2.2).1, fun _ _ e => by cases e⟩
  | rvs a ja => 
    intro h
    simp only [okL] at h
    exact ⟨p0_rvs hG S (ja h).1, fun _ _ e => by cases e⟩
  | call f a ja => 
    intro h
    simp only [okL] at h
    exact ⟨p0_call hG S f (ja h).1, fun _ _ e => by cases e⟩
  | mk c a ja => 
    intro h
    simp only [okL] at h
    exact ⟨p0_mk hG S c (ja h).1, fun _ _ e => by cases e⟩
  | mkk c a b ja jb => 
    intro h
    simp only [okL, Bool.and_eq_true] at h
    exact ⟨p0_mkk hG S c (ja h.1).1 (jb h.2).1, fun _ _ e => by cases e⟩
  | mth n a b ja jb => 
    intro h
    simp only [okL, Bool.and_eq_true] at h
    exact ⟨p0_mth hG S n (ja h.1).1 (jb h.2).1, fun _ _ e => by cases e⟩
  | bm b a c ja jc => 
    intro h
    simp only [okL, Bool.and_eq_true] at h
    exact ⟨p0_bm hG S b (ja h.1).1 (jc h.2).1, fun _ _ e => by cases e⟩
  | b1 b a ja => 
    intro h
    simp only [okL] at h
    exact ⟨p0_b1 hG S b (ja h).1, fun _ _ e => by cases e⟩
  | max2 a b ja jb => 
    intro h
    simp only [okL, Bool.and_eq_true] at h
    exact ⟨p0_max2 hG S (ja h.1).1 (jb h.2).1, fun _ _ e => by cases e⟩
  | min2 a b ja jb => 
    intro h
    simp only [okL, Bool.and_eq_true] at h
    exact ⟨p0_min2 hG S (ja h.1).1 (jb h.2).1, fun _ _ e => by cases e⟩
  | isi a ks ja => 
    intro h
    simp only [okL] at h
    exact ⟨p0_isi hG S ks (ja h).1, fun _ _ e => by cases e⟩
  | gin ng g a ja => 
    intro h
    simp only [okL] at h
    exact ⟨p0_gin hG S ng g (ja h).1, fun _ _ e => by cases e⟩
  | gget g a ja => 
    intro h
    simp only [okL] at h
    exact ⟨p0_gget hG S g (ja h).1, fun _ _ e => by cases e⟩
  | srtk a ja => 
    intro h
    simp only [okL] at h
    exact ⟨p0_srtk hG S (ja h).1, fun _ _ e => by cases e⟩
  | lc own a b c e ja jb jc je => 
    intro h
    simp only [okL, Bool.and_eq_true] at h
    exact ⟨p0_lc hG S own (ja h.1).1 (jb h.2.1).1 (jc h.2.2.1).1 (je h.2.2.2).1, fun _ _ e => by cases e⟩
  | lc2 own a b c e f g ja jb jc je jf jg => 
    intro h
    simp only [okL, Bool.and_eq_true] at h
    exact ⟨p0_lc2 hG S own (ja h.1).1 (jb h.2.1).1 (jc h.2.2.1).1 (je h.2.2.2.1).1 (jf h.2.2.2.2.1).1 (jg h.2.2.2.2.2).1, fun _ _ e => by cases e⟩
  | dc own a b c e f ja jb jc je jf => 
    intro h
    simp only [okL, Bool.and_eq_true] at h
    exact ⟨p0_dc hG S own (ja h.1).1 (jb h.2.1).1 (jc h.2.2.1).1 (je h.2.2.2.1).1 (jf h.2.2.2.2).1, fun _ _ e => by cases e⟩
  | lam k cap => 
    intro h
    exact ⟨p0_lam hG S k cap, fun _ _ e => by cases e⟩
  | cal i a ja => 
    intro h
    simp only [okL] at h
    exact ⟨p0_cal hG S i (ja h).1, fun _ _ e => by cases e⟩
  | eqx ng a b ja jb => 
    intro h
    simp only [okL, Bool.and_eq_true] at h
    exact ⟨p0_eqx hG S ng (ja h.1).1 (jb h.2).1, fun _ _ e => by cases e⟩
  | rng a b ja jb => 
    intro h
    simp only [okL, Bool.and_eq_true] at h
    exact ⟨p0_rng hG S (ja h.1).1 (jb h.2).1, fun _ _ e => by cases e⟩
  | enm a ja => 
    intro h
    simp only [okL] at h
    exact ⟨p0_enm hG S (ja h).1, fun _ _ e => by cases e⟩
  | zip a b ja jb => 
    intro h
    simp only [okL, Bool.and_eq_true] at h
    exact ⟨p0_zip hG S (ja h.1).1 (jb h.2).1, fun _ _ e => by cases e⟩
  | itm a ja => 
    intro h
    simp only [okL] at h
    exact ⟨p0_itm hG S (ja h).1, fun _ _ e => by cases e⟩
  | vls a ja => 
    intro h
    simp only [okL] at h
    exact ⟨p0_vls hG S (ja h).1, fun _ _ e => by cases e⟩
  | tgt a ja => 
    intro h
    simp only [okL] at h
    exact ⟨p0_tgt hG S (ja h).1, fun _ _ e => by cases e⟩
  | asg a b ja jb => 
    intro h
    simp only [okL, Bool.and_eq_true] at h
    exact ⟨p0_asg hG S (ja h.1).1 (jb h.2).1, fun _ _ e => by cases e⟩
  | aug i o a ja => 
    intro h
    simp only [okL] at h
    exact ⟨p0_aug hG S i o (ja h).1, fun _ _ e => by cases e⟩
  | ex a ja => 
    intro h
    simp only [okL] at h
    exact ⟨p0_ex hG S (ja h).1, fun _ _ e => by cases e⟩
  | ifs a b c ja jb jc => 
    intro h
    simp only [okL, Bool.and_eq_true] at h
    exact ⟨p0_ifs hG S (ja h.1).1 (jb h.2.1).1 (jc h.2.2).1, fun _ _ e => by cases e⟩
  | whl a b ja jb => 
    intro h
    simp only [okL, Bool.and_eq_true] at h
    exact ⟨p0_whl hG S (ja h.1).1 (jb h.2).1, fun _ _ e => by cases e⟩
  | «for» a b c ja jb jc => 
    intro h
    simp only [okL, Bool.and_eq_true] at h
    exact ⟨p0_for hG S (ja h.1).1 (jb h.2.1).1 (jc h.2.2).1, fun _ _ e => by cases e⟩
  | ret a ja => 
    intro h
    simp only [okL] at h
    exact ⟨p0_ret hG S (ja h).1, fun _ _ e => by cases e⟩
  | pass => 
    intro h
    exact ⟨p0_pass hG S , fun _ _ e => by cases e⟩
  | cont => 
    intro h
    exact ⟨p0_cont hG S , fun _ _ e => by cases e⟩
  | par a b ja jb => 
    intro h
    simp only [okL, Bool.and_eq_true] at h
    exact ⟨p0_par hG S (ja h.1).1 (jb h.2).1, fun _ _ e => by cases e⟩
  | rais c a ja => 
    intro h
    simp only [okL] at h
    exact ⟨p0_rais hG S c (ja h).1, fun _ _ e => by cases e⟩
  | tri a b ja jb => 
    intro h
    simp only [okL, Bool.and_eq_true] at h
    exact ⟨p0_tri hG S (ja h.1).1 (jb h.2).1, fun _ _ e => by cases e⟩
  | hnd cs as a ja => 
    intro h
    simp only [okL] at h
    exact ⟨p0_hnd hG S cs as (ja h).1, fun _ _ e => by cases e⟩
  | wth a i b ja jb => 
    intro h
    simp only [okL, Bool.and_eq_true] at h
    exact ⟨p0_wth hG S i (ja h.1).1 (jb h.2).1, fun _ _ e => by cases e⟩
end
end VI
set_option autoImplicit false
set_option linter.all false
set_option Elab.async false
set_option maxRecDepth 100000
set_option maxHeartbeats 4000000
/-! VI over the hand layer: a def may be taken for a plain function that says the same: what it leaves unused on the own heap is dropped. -/
namespace VI
open PySem PySem.Spec PyProof.Rows L2
/-! ### what points below n alone -/
mutual
def clV (n : Nat) : PV → Prop
  | .ref m => m < n
  | .tup xs => clVs n xs
  | _ => True
def clVs (n : Nat) : List PV → Prop
  | [] => True
  | x :: xs => clV n x ∧ clVs n xs
end
section
variable {P : Program} {w : World} {K : PySem.W.Frag} {cls : Nat → Addr} {ι ι' : List Addr} {H H' : Hp}
mutual
theorem RV.cl : ∀ {p : PV} {v : V}, RV K ι H p v → clV ι.length p
  | .non, _, _ => trivial
  | .bl _, _, _ => trivial
  | .int _, _, _ => trivial
  | .str _, _, _ => trivial
  | .err _ _, _, _ => trivial
  | .tup _, _, ⟨_, _, _, _, r⟩ => RVs.cl r
  | .ref _, _, ⟨_, e, _⟩ => (List.getElem?_eq_some_iff.mp e).1
theorem RVs.cl : ∀ {p : List PV} {v : List V}, RVs K ι H p v → clVs ι.length p
  | [], _, _ => trivial
  | _ :: _, _, ⟨_, _, _, a, b⟩ => ⟨RV.cl a, RVs.cl b⟩
end
mutual
theorem RV.down (l : Le ι ι') : ∀ {p : PV} {v : V}, clV ι.length p → RV K ι' H p v → RV K ι H p v
  | .non, _, _, h => h
  | .bl _, _, _, h => h
  | .int _, _, _, h => h
  | .str _, _, _, h => h
  | .err _ _, _, _, h => h
  | .tup _, _, c, ⟨a, vs, e, q, r⟩ => ⟨a, vs, e, q, RVs.down l c r⟩
  | .ref n, _, c, ⟨a, e, q⟩ => by
    obtain ⟨r, rfl⟩ := l
    exact ⟨a, by rw [List.getElem?_append_left c] at e; exact e, q⟩
theorem RVs.down (l : Le ι ι') : ∀ {p : List PV} {v : List V}, clVs ι.length p → RVs K ι' H p v → RVs K ι H p v
  | [], _, _, h => h
  | _ :: _, _, ⟨c, d⟩, ⟨v, r, e, a, b⟩ => ⟨v, r, e, RV.down l c a, RVs.down l d b⟩
end
theorem RFs.down (l : Le ι ι') : ∀ {p : List (Str × PV)} {v v0 : List (Str × V)} {H0 : Hp}, RFs K ι H0 p v0 → RFs K ι' H p v → RFs K ι H p v
  | [], _, _, _, _, h => h
  | _ :: _, _, _, _, ⟨_, _, _, a0, b0⟩, ⟨v, r, e, a, b⟩ => ⟨v, r, e, RV.down l (RV.cl a0) a, RFs.down l b0 b⟩
def clK (n : Nat) : List (PV × PV) → Prop
  | [] => True
  | x :: xs => clV n x.1 ∧ clV n x.2 ∧ clK n xs
mutual
theorem key_cl (n : Nat) : ∀ {p : PV}, PV.keyOk p = true → clV n p
  | .non, _ => trivial
  | .bl _, _ => trivial
  | .int _, _ => trivial
  | .str _, _ => trivial
  | .err _ _, _ => trivial
  | .ref _, h => by simp [PV.keyOk] at h
  | .tup xs, h => keys_cl n (by simpa [PV.keyOk] using h)
theorem keys_cl (n : Nat) : ∀ {p : List PV}, PV.keysOk p = true → clVs n p
  | [], _ => trivial
  | x :: xs, h => by
    simp only [PV.keysOk, Bool.and_eq_true] at h
    exact ⟨key_cl n h.1, keys_cl n h.2⟩
end
theorem RL.cl : ∀ {p : List (PV × PV)} {v : List (Leaf × Value)}, RL K ι H p v → clK ι.length p
  | [], _, _ => trivial
  | _ :: _, _, ⟨_, _, _, _, a, _, c, _, f⟩ => ⟨key_cl _ a, RV.cl c, RL.cl f⟩
theorem RN.cl : ∀ {p : List (PV × PV)} {v : List (NestedKey × Addr × Value)}, RN K ι H p v → clK ι.length p
  | [], _, _ => trivial
  | _ :: _, _, ⟨_, _, _, _, _, x, _, _, _, c, _, f⟩ => ⟨key_cl _ x, RV.cl c, RN.cl f⟩
theorem RL.down (l : Le ι ι') : ∀ {p : List (PV × PV)} {v : List (Leaf × Value)}, clK ι.length p → RL K ι' H p v → RL K ι H p v
  | [], _, _, h => h
  | _ :: _, _, ⟨_, c, d⟩, ⟨v, u, r, e, a, b, x, y, f⟩ => ⟨v, u, r, e, a, b, RV.down l c x, y, RL.down l d f⟩
theorem RN.down (l : Le ι ι') : ∀ {p : List (PV × PV)} {v : List (NestedKey × Addr × Value)}, clK ι.length p → RN K ι' H p v → RN K ι H p v
  | [], _, _, h => h
  | _ :: _, _, ⟨k, c, d⟩, ⟨a, v, u, r, e, x, y, z, b, q, m, f⟩ => ⟨a, v, u, r, e, x, y, z, RV.down l k b, RV.down l c q, m, RN.down l d f⟩
theorem RD.cl {a : Addr} {kvs : List (PV × PV)} {o : Obj} (h : RD P w K ι H a kvs o) : clK ι.length kvs := by
  obtain ⟨_, _, h⟩ := h
  rcases h with ⟨ls, r, _⟩ | ⟨xs, es, ep, r, _⟩
  · exact r.cl
  · exact r.cl
theorem RD.down (l : Le ι ι') {a : Addr} {kvs : List (PV × PV)} {o : Obj} (c : clK ι.length kvs) (h : RD P w K ι' H a kvs o) : RD P w K ι H a kvs o := by
  obtain ⟨z, y, h⟩ := h
  refine ⟨z, y, ?_⟩
  rcases h with ⟨ls, r, q⟩ | ⟨xs, es, ep, r, q⟩
  · exact .inl ⟨ls, r.down l c, q⟩
  · exact .inr ⟨xs, es, ep, r.down l c, q⟩
theorem RO.down (l : Le ι ι') {a a0 : Addr} {H0 : Hp} : ∀ {o : VO}, RO P w K cls ι H0 a0 o → RO P w K cls ι' H a o → RO P w K cls ι H a o
  | .lst _ false, ⟨_, _, r0⟩, ⟨vs, h, r⟩ => ⟨vs, h, r.down l r0.cl⟩
  | .lst _ true, ⟨_, _, r0⟩, ⟨vs, h, r⟩ => ⟨vs, h, r.down l r0.cl⟩
  | .dct _ false, ⟨_, _, r0⟩, ⟨o, h, r⟩ => ⟨o, h, r.down l r0.cl⟩
  | .dct _ true, ⟨_, _, _, r0⟩, ⟨od, o, h, r⟩ => ⟨od, o, h, r.down l r0.cl⟩
  | .ins _ _, ⟨_, _, _, r0, _⟩, ⟨dx, vs, h, r, c⟩ => ⟨dx, vs, h, RFs.down l r0 r, c⟩
  | .lam _ _, h, _ => h.elim
/-- what stood stays told, without what came behind -/
theorem Rep.down {h g : VH} (l : Le ι ι') (R0 : Rep P w K cls ι h H) (R : Rep P w K cls ι' (h ++ g) H') : Rep P w K cls ι h H' where
  len := R0.len
  nd := fun n m a e1 e2 => by
    have hn : n < h.length := by rw [← R0.len]; exact (List.getElem?_eq_some_iff.mp e1).1
    have hm : m < h.length := by rw [← R0.len]; exact (List.getElem?_eq_some_iff.mp e2).1
    have key : ∀ i, i < h.length → KC K (h ++ g) i a → KC K h i a := fun i hi ⟨xs, vs, e, q⟩ => ⟨xs, vs, by rw [List.getElem?_append_left hi] at e; exact e, q⟩
    rcases R.nd n m a (l.get e1) (l.get e2) with z | z | z
    · exact .inl z
    · exact .inr (.inl (key n hn z))
    · exact .inr (.inr (key m hm z))
  ob := fun n a o e1 e2 => by
    have hn := (List.getElem?_eq_some_iff.mp e2).1
    exact (R0.ob n a o e1 e2).down l (R.ob n a o (l.get e1) (by rw [List.getElem?_append_left hn]; exact e2))
/-- garbage may be dropped -/
theorem WR.gc {W1 : XW} {h g : VH} {v : PV} {Q : V → Hp → Prop} (R0 : Rep P w K cls ι h H) (c : clV 0 v) (hw : WR P w K cls (RV K) W1 (.ok v h) ι H Q) : WR P w K cls (RV K) W1 (.ok v (h ++ g)) ι H Q :=
  fun ι' H' b l k R rv => hw ι H' b (.refl _) k (R0.down l R) (rv.down l (by
    have : ∀ {n : Nat}, (∀ {p : PV}, clV 0 p → clV n p) ∧ ∀ {ps : List PV}, clVs 0 ps → clVs n ps := by
      intro n
      suffices H : ∀ k, (∀ p : PV, sizeOf p ≤ k → clV 0 p → clV n p) ∧ ∀ ps : List PV, sizeOf ps ≤ k → clVs 0 ps → clVs n ps from ⟨fun {p} h => (H (sizeOf p)).1 p (Nat.le_refl _) h, fun {ps} h => (H (sizeOf ps)).2 ps (Nat.le_refl _) h⟩
      intro k
      induction k with
      | zero => exact ⟨fun p hp => by cases p <;> simp at hp, fun ps hp => by cases ps <;> simp at hp⟩
      | succ k ih =>
        refine ⟨fun p hp h => ?_, fun ps hp h => ?_⟩
        · cases p with
          | tup xs => simp only [PV.tup.sizeOf_spec] at hp; exact ih.2 xs (by omega) h
          | ref m => exact absurd h (Nat.not_lt_zero m)
          | _ => trivial
        · cases ps with
          | nil => trivial
          | cons x xs => simp only [List.cons.sizeOf_spec] at hp; exact ⟨ih.1 x (by omega) h.1, ih.2 xs (by omega) h.2⟩
    exact this.1 c))
end
end VI
set_option autoImplicit false
set_option linter.all false
set_option Elab.async false
set_option maxRecDepth 100000
set_option maxHeartbeats 4000000
/-! VI over the hand layer: the law's end, some defs taken for plain functions. -/
namespace VI
open PySem PySem.Spec PyProof.Rows L2
/-- from which depth on, and for what -/
abbrev Mirs := Nat → Option (Nat × (List PV → VH → Res PV))
def Tb.atM (T : Tb) (B : Nat → Option Fd) (Mi : Mirs) : Nat → Tb
  | 0 => { T with fn := fun _ _ _ => .no }
  | k + 1 => { T with fn := fun f vs h => match Mi f with
    | some (kf, m) => if Nat.ble kf k then m vs h else (match B f with
      | some d => runB (Tb.atM T B Mi k) d vs h
      | none => .no)
    | none => (match B f with
      | some d => runB (Tb.atM T B Mi k) d vs h
      | none => .no) }
/-- the plain function says what the def does, but for what is left unused -/
def Mok (r1 : Res PV) (h : VH) (r2 : Res PV) : Prop := match r1 with
  | .ok v h' => h' = h ∧ clV 0 v ∧ ∃ g, r2 = .ok v (h ++ g)
  | .no => True
  | .ex _ _ _ => False
def MirOk (M : MD) (Mi : Mirs) : Prop := ∀ f kf m e, Mi f = some (kf, m) → M.fs.get f = some e → ∀ j, kf ≤ j → ∀ vs h, Mok (m vs h) h (runB (Tb.atM M.T0 M.B Mi j) ⟨e.N.length, e.body⟩ vs h)
section
variable {P : Program} {w : World} {K : PySem.W.Frag} {mg : Str → Option Value} {base : Heap} {M : MD} {Mi : Mirs}
theorem on_atM : ∀ j, On M (Tb.atM M.T0 M.B Mi j)
  | 0 => ⟨rfl, rfl, rfl, rfl, rfl, rfl, rfl, rfl⟩
  | j + 1 => ⟨rfl, rfl, rfl, rfl, rfl, rfl, rfl, rfl⟩
theorem fn_atM {f : Nat} {e : FnE} (h : M.fs.get f = some e) (j : Nat) : (Tb.atM M.T0 M.B Mi (j + 1)).fn f = fun vs h' => match Mi f with
    | some (kf, m) => if Nat.ble kf j then m vs h' else runB (Tb.atM M.T0 M.B Mi j) ⟨e.N.length, e.body⟩ vs h'
    | none => runB (Tb.atM M.T0 M.B Mi j) ⟨e.N.length, e.body⟩ vs h' := by
  funext vs h'
  show (match Mi f with
    | some (kf, m) => if Nat.ble kf j then m vs h' else (match M.B f with
      | some d => runB (Tb.atM M.T0 M.B Mi j) d vs h'
      | none => Res.no)
    | none => (match M.B f with
      | some d => runB (Tb.atM M.T0 M.B Mi j) d vs h'
      | none => .no)) = _
  unfold MD.B
  rw [h]
theorem fill_atM (f : Nat) (as : List PV) (j : Nat) : (Tb.atM M.T0 M.B Mi j).fill f as = M.T0.fill f as := by
  cases j <;> rfl
theorem all_okM (hb : M.okB K = true) (hc : M.chkB = true) (tabs : ∀ q ∈ M.G.gd, ∃ es n, KDict K w (He.ga K q.1) es n) (X : K.In base) (Gs : base.Ns mainGlobals mg) (defs : DefsOk M K) (bo : ∀ f e, M.fs.get f = some e → BindOk M K f e)
    (ko : ∀ c kw f e, M.G.kw.lookup c = some kw → M.il.get c = some f → M.fs.get f = some e → KwOk K e kw) (ki : ∀ c kw f, M.G.kw.lookup c = some kw → M.il.get c = some f → ∃ e, M.fs.get f = some e) (hm : MirOk M Mi) :
    ∀ j, GF P w K mg base (M.cls K) (M.ad K) (Tb.atM M.T0 M.B Mi j) (2 * j) M.G := by
  have adf : ∀ f e, M.fs.get f = some e → M.ad K f = He.fAd K e.d.at_ := fun f e h => by
    unfold MD.ad
    rw [h]
  have fnok : ∀ j, (∀ f e fd, M.fs.get f = some e → FunD K e.d.name e.d.qual e.d.params e.d.body e.d.scope (e.d.dvs K) (e.d.kws K) (He.fAd K e.d.at_) fd → FnOk P w K mg base CX0 (2 * j) (M.ad K f) fd e.ps (spV P w K (M.cls K) e.ps.length ((Tb.atM M.T0 M.B Mi j).fn f))) →
      GF P w K mg base (M.cls K) (M.ad K) (Tb.atM M.T0 M.B Mi j) (2 * j) M.G := fun j hj => by
    refine gf_of hb tabs X Gs (on_atM j) (fun f e hf => ?_) fun c kw f h1 h2 => ?_
    · obtain ⟨fd, F⟩ := defs f e hf
      refine ⟨⟨fd, e.ps, hj f e fd hf F, fun as vs hv => bo f e hf fd F as vs (by rw [← fill_atM (Mi := Mi) f as j]; exact hv)⟩, ?_⟩
      rw [adf f e hf]
      exact F.kp
    · obtain ⟨e, hf⟩ := ki c kw f h1 h2
      obtain ⟨fd, F⟩ := defs f e hf
      refine ⟨⟨fd, e.ps, _, hj f e fd hf F, ?_, ko c kw f e h1 h2 hf fd F⟩⟩
      rw [(on_atM j).par]
      show (match M.fs.get f with
        | some e => (e.ps.length, e.ds, e.ko)
        | none => (1000000, [], false)).1 = _
      rw [hf]
  intro j
  induction j with
  | zero =>
    refine fnok 0 fun f e fd hf F => ⟨fun vs H Q E h => h.1, fun A outer s H args us vs Q E hr he hbd hv h => ?_⟩
    obtain ⟨_, ι, h0, ps, R, rv, hw⟩ := h
    exact hw.elim
  | succ j ih =>
    refine fnok (j + 1) fun f e fd hf F => ?_
    have q := Tr.all_get hc hf
    obtain ⟨q1, q2⟩ := He.ba q
    have base := fn_ok (d := ⟨e.N.length, e.body⟩) F (scB_ok q2) rfl q1 ih
    rw [fn_atM hf j, adf f e hf]
    cases hM : Mi f with
    | none => exact base
    | some km =>
      obtain ⟨kf, m⟩ := km
      by_cases hk : Nat.ble kf j = true
      · simp only [if_pos hk]
        refine base.imp fun vs H Q E h => ?_
        obtain ⟨hl, ι, h0, ps, R, rv, hw⟩ := h
        refine ⟨hl, ι, h0, ps, R, rv, ?_⟩
        dsimp only at hw
        have z := hm f kf m e hM hf j (Nat.le_of_ble_eq_true hk) ps h0
        cases hr : m ps h0 with
        | ok v h1 =>
          rw [hr] at hw z
          obtain ⟨rfl, c, g, e2⟩ := z
          rw [e2]
          exact WR.gc R c hw
        | ex c p h1 => rw [hr] at z; exact z.elim
        | no => rw [hr] at hw; exact hw.elim
      · simp only [if_neg hk]
        exact base
end
/-- the law, by what its term answers -/
theorem law_walkM {M : MD} {Mi : Mirs} {l : PySem.W.OpenLaw} {n0 j f0 : Nat} {e0 : FnE} {q : Program} {loose : List Str} {XP : (Str → Option Value) → Heap → Prop} {d : DefRec} {x : Str} {nh : Nat}
    (hm : l.most = some 63) (hdf : d.params.defaults = []) (hr : Room (2 * j + 2) callerA) (hc : M.chkB = true) (h0 : M.fs.get f0 = some e0) (hp : e0.ps = [x]) (hat : e0.d.at_ = (d.name, none)) (hg : M.G.fn.lookup d.name = some f0) (hs0 : simpleE e0 = true)
    (bo : ∀ K f e, M.okB K = true → M.fs.get f = some e → BindOk M K f e)
    (ko : ∀ K c kw f e, M.G.kw.lookup c = some kw → M.il.get c = some f → M.fs.get f = some e → KwOk K e kw) (ki : ∀ c kw f, M.G.kw.lookup c = some kw → M.il.get c = some f → ∃ e, M.fs.get f = some e)
    (hmi : MirOk M Mi) (plain : ∀ ns : List Int, ns.length ≤ 63 → ∃ h', runB (Tb.atM M.T0 M.B Mi j) ⟨e0.N.length, e0.body⟩ [.ref 0] [.lst (ns.map .int) true] = .ok (.bl true) h') :
    PySem.W.WalkO q loose XP (M.hook nh).says l.row.toRowW d [] (fun f vs => PySem.call f vs) := by
  refine walk_ofE (CX := CX0) (x := x) (k := 2 * j + 2) hm (by rw [sizeLine_eq]; omega) hdf hr ?_ fun _ _ _ _ z => z
  intro w mg fa h Y G hmg
  obtain ⟨K, KX, c⟩ := Y
  have hb := c.more
  have tabs : ∀ q ∈ M.G.gd, ∃ es n, KDict K w (He.ga K q.1) es n := fun q hq => by
    obtain ⟨i, hi, e⟩ := List.mem_iff_getElem.mp hq
    have hi' : M.tabs[i]? = some ((fun K => He.ga K q.1), ((M.gd.get q.2).getD []).map (·.1)) := by
      unfold MD.tabs
      rw [List.getElem?_map, List.getElem?_eq_getElem hi, e]
      rfl
    exact c.t.tab i hi'
  have defs : DefsOk M K := fun f e hf => c.t.d.defs (List.mem_map.mpr ⟨e, Tr.mem_get hf, rfl⟩)
  obtain ⟨fd, F⟩ := defs f0 e0 h0
  have q0 := Tr.all_get hc h0
  obtain ⟨q1, q2⟩ := He.ba q0
  have hfa : He.fAd K e0.d.at_ = fa := by
    have hb' := hb
    unfold MD.okB at hb'
    have b1 := (He.ba hb').1
    have z := He.ba (List.all_eq_true.mp b1 _ (PySem.mem_of_lookup hg))
    have g := He.glo_ok KX G z.2
    rw [hmg] at g
    have : fa = He.ga K d.name := by cases g; rfl
    rw [hat, this]
    rfl
  refine ⟨K, fd, spV l.prog w K (M.cls K) 1 (runB (Tb.atM M.T0 M.B Mi j) ⟨e0.N.length, e0.body⟩), KX, fun s u => ?_, fun H a ns hl hO hS => ?_, fun base Xb Gb => ?_⟩
  · unfold simpleE at hs0
    simp only [Bool.and_eq_true, List.isEmpty_iff, Bool.not_eq_true'] at hs0
    obtain ⟨_, _, h3, h4⟩ := hs0
    have e1 : e0.d.dvs K = [] := by unfold He.DefD.dvs; rw [h3]; rfl
    rw [e1] at F
    have b := FunD.bindsA (ps := e0.ps) F (fun kV doc pm an cdv ct us hl => bind_simple h4 kV doc pm an cdv ct us hl) s [u] (by rw [hp]; rfl)
    rw [hp] at b
    exact b
  · obtain ⟨h', e⟩ := plain ns hl
    refine ⟨rfl, [a], [.lst (ns.map .int) true], [.ref 0], ⟨rfl, fun i m b e1 e2 => ?_, fun i b o e1 e2 => ?_⟩, ⟨_, _, rfl, ⟨a, rfl, rfl⟩, rfl⟩, ?_⟩
    · left
      have := (List.getElem?_eq_some_iff.mp e1).1
      have := (List.getElem?_eq_some_iff.mp e2).1
      simp at *
      omega
    · have hi := (List.getElem?_eq_some_iff.mp e1).1
      have : i = 0 := by simpa using hi
      subst this
      cases e1
      cases e2
      exact ⟨_, only_frz hO hS, rvs_ints _ _ ns⟩
    · rw [e]
      exact fun ι' H' b l k R rv => rv
  · have ok := all_okM (P := l.prog) (w := w) (base := base) hb hc tabs Xb Gb defs (fun f e hf => bo K f e hb hf) (ko K) ki hmi j
    have z := fn_ok (d := ⟨e0.N.length, e0.body⟩) F (scB_ok q2) rfl q1 ok
    rw [hp, hfa] at z
    exact z
end VI
set_option autoImplicit false
set_option linter.all false
set_option Elab.async false
set_option maxRecDepth 100000
set_option maxHeartbeats 4000000
/-! a module's defs where objects stand between; loops turn by turn -/
namespace VI
open PySem (Str)
mutual
/-- no reference -/
def clB : PV → Bool
  | .ref _ => false
  | .tup xs => clBs xs
  | .err _ p => clB p
  | .non => true
  | .bl _ => true
  | .int _ => true
  | .str _ => true
def clBs : List PV → Bool
  | [] => true
  | x :: xs => clB x && clBs xs
end
section
variable {m d : Nat} {G : VH}
mutual
theorem sV_cl : ∀ {v : PV}, clB v = true → sV m d v = v
  | .non, _ | .bl _, _ | .int _, _ | .str _, _ => rfl
  | .ref _, h => by simp [clB] at h
  | .tup xs, h => by rw [sV, sVs_cl (by simpa [clB] using h)]
  | .err c p, h => by rw [sV, sV_cl (by simpa [clB] using h)]
theorem sVs_cl : ∀ {v : List PV}, clBs v = true → sVs m d v = v
  | [], _ => rfl
  | x :: xs, h => by
    simp only [clBs, Bool.and_eq_true] at h
    rw [sVs, sV_cl h.1, sVs_cl h.2]
end
theorem rr_start2 (n : Nat) (vs : List PV) : RR2 m d (start n vs) (start n (sVs m d vs)) := by
  unfold start
  rw [sVs_len]
  refine ⟨by simp [sVs_len], fun i v e => ?_⟩
  by_cases hi : i < vs.length
  · rw [List.getElem?_append_left (by simpa using hi), List.getElem?_map] at e
    rw [List.getElem?_append_left (by simpa [sVs_len] using hi), List.getElem?_map, sVs_get]
    cases hv : vs[i]? with
    | none => rw [hv] at e; cases e
    | some w =>
      rw [hv] at e
      cases e
      rfl
  · rw [List.getElem?_append_right (by simpa using hi), List.getElem?_replicate] at e
    split at e <;> cases e
theorem runB_s (hG : G.length = d) {T : Tb} (S : Shf m d G T) (fd : Fd) (ok : okL fd.body = true) (vs : List PV) (h : VH) (hm : m ≤ h.length) : Sm m d G (sV m d) (runB T fd vs h) (runB T fd (sVs m d vs) (sH m d G h)) := by
  unfold runB
  have z := (p0 hG S fd.body ok).1.cSs _ _ h (rr_start2 (m := m) (d := d) fd.n vs) hm
  cases e : dSs T fd.body (start fd.n vs) h with
  | nx r h' =>
    rw [e] at z
    obtain ⟨z2, r2, z1, _⟩ := z
    rw [z1]
    exact ok_s z2 rfl
  | rt v h' =>
    rw [e] at z
    obtain ⟨z2, z1⟩ := z
    rw [z1]
    exact ok_s z2 rfl
  | ct r h' => exact no_s
  | ex c p r h' =>
    rw [e] at z
    obtain ⟨z2, r2, z1, _⟩ := z
    rw [z1]
    exact ex_s c p z2
  | no => exact no_s
end
/-- all that stands in the tables is free of references -/
def MD.shB (M : MD) : Bool := (M.fs.all fun _ e => okL e.body && clBs e.ds) && ((M.co.all fun _ v => clB v) && (M.gd.all fun _ kvs => kvs.all fun q => clB q.2))
/-- a plain function in a def's place does the same where objects stand between -/
def MirSh (Mi : Mirs) : Prop := ∀ f kf mf, Mi f = some (kf, mf) → ∀ (m d : Nat) (G : VH), G.length = d → ∀ vs h, m ≤ h.length → Sm m d G (sV m d) (mf vs h) (mf (sVs m d vs) (sH m d G h))
theorem shf_atM {m d : Nat} {G : VH} {M : MD} {Mi : Mirs} (hG : G.length = d) (hs : M.shB = true) (hmi : MirSh Mi) : ∀ j, Shf m d G (Tb.atM M.T0 M.B Mi j) := by
  unfold MD.shB at hs
  simp only [Bool.and_eq_true] at hs
  obtain ⟨h1, h2, h3⟩ := hs
  have con : ∀ j k v, (Tb.atM M.T0 M.B Mi j).con k = some v → sV m d v = v := fun j k v e => by
    have e : M.co.get k = some v := by cases j <;> exact e
    exact sV_cl (Tr.all_get h2 e)
  have gd : ∀ j g kvs, (Tb.atM M.T0 M.B Mi j).gd g = some kvs → ∀ s v, kvs.lookup s = some v → sV m d v = v := fun j g kvs e s v e2 => by
    have e : M.gd.get g = some kvs := by cases j <;> exact e
    exact sV_cl (List.all_eq_true.mp (Tr.all_get h3 e) (s, v) (PySem.mem_of_lookup e2))
  have par : ∀ j f, sVs m d ((Tb.atM M.T0 M.B Mi j).par f).2.1 = ((Tb.atM M.T0 M.B Mi j).par f).2.1 := fun j f => by
    have e : (Tb.atM M.T0 M.B Mi j).par f = M.T0.par f := by cases j <;> rfl
    rw [e]
    show sVs m d (match M.fs.get f with
      | some e => (e.ps.length, e.ds, e.ko)
      | none => (1000000, [], false)).2.1 = _
    show _ = (match M.fs.get f with
      | some e => (e.ps.length, e.ds, e.ko)
      | none => (1000000, [], false)).2.1
    cases e2 : M.fs.get f with
    | none => rfl
    | some e =>
      have q := Tr.all_get h1 e2
      rw [Bool.and_eq_true] at q
      exact sVs_cl q.2
  intro j
  induction j with
  | zero => exact ⟨fun f vs h hm => no_s, con 0, gd 0, par 0⟩
  | succ j ih =>
    refine ⟨fun f vs h hm => ?_, con (j + 1), gd (j + 1), par (j + 1)⟩
    have run : Sm m d G (sV m d) (match M.B f with
        | some d => runB (Tb.atM M.T0 M.B Mi j) d vs h
        | none => Res.no) (match M.B f with
        | some d' => runB (Tb.atM M.T0 M.B Mi j) d' (sVs m d vs) (sH m d G h)
        | none => Res.no) := by
      cases e : M.B f with
      | none => exact no_s
      | some fd =>
        refine runB_s hG ih fd ?_ vs h hm
        unfold MD.B at e
        cases e2 : M.fs.get f with
        | none => rw [e2] at e; cases e
        | some en =>
          rw [e2] at e
          cases e
          have q := Tr.all_get h1 e2
          rw [Bool.and_eq_true] at q
          exact q.1
    show Sm m d G (sV m d) (match Mi f with
      | some (kf, mf) => if Nat.ble kf j then mf vs h else (match M.B f with
        | some d => runB (Tb.atM M.T0 M.B Mi j) d vs h
        | none => .no)
      | none => (match M.B f with
        | some d => runB (Tb.atM M.T0 M.B Mi j) d vs h
        | none => .no)) (match Mi f with
      | some (kf, mf) => if Nat.ble kf j then mf (sVs m d vs) (sH m d G h) else (match M.B f with
        | some d' => runB (Tb.atM M.T0 M.B Mi j) d' (sVs m d vs) (sH m d G h)
        | none => .no)
      | none => (match M.B f with
        | some d' => runB (Tb.atM M.T0 M.B Mi j) d' (sVs m d vs) (sH m d G h)
        | none => .no))
    cases e : Mi f with
    | none => exact run
    | some q =>
      obtain ⟨kf, mf⟩ := q
      dsimp only
      split
      · exact hmi f kf mf e m d G hG vs h hm
      · exact run
/-! ### one turn, whatever stands behind the first object -/
theorem sH_one (A : VO) (g : VH) (hA : ∀ d, sO 1 d A = A) : sH 1 g.length g [A] = A :: g := by
  show (([A] : VH).take 1).map (sO 1 g.length) ++ (g ++ (([A] : VH).drop 1).map (sO 1 g.length)) = _
  simp [hA]
/-- what a statement leaves: whether it goes on, what stands first -/
def nxA : SR → Option (Nat × Option (Option PV) × VO)
  | .nx r (a :: _) => some (r.length, r[0]?, a)
  | _ => none
theorem turn_any {M : MD} {Mi : Mirs} {j : Nat} (hs : M.shB = true) (hmi : MirSh Mi) {b : I} (ok : okL b = true) {A : VO} (hA : ∀ d, sO 1 d A = A) {r0 : Rho} {n : Nat} (hx : nxA (dSs (Tb.atM M.T0 M.B Mi j) b r0 [A]) = some (n, some (some (.ref 0)), A)) (g : VH) (r : Rho) (hr : RR2 1 g.length r0 r) :
    ∃ r' g', dSs (Tb.atM M.T0 M.B Mi j) b r (A :: g) = .nx r' (A :: g') ∧ r'.length = n ∧ r'[0]? = some (some (.ref 0)) := by
  have S := shf_atM (m := 1) (G := g) (M := M) (Mi := Mi) rfl hs hmi j
  have z := (p0 rfl S b ok).1.cSs r0 r [A] hr (Nat.le_refl 1)
  rw [sH_one A g hA] at z
  cases e : dSs (Tb.atM M.T0 M.B Mi j) b r0 [A] with
  | nx r1 h1 =>
    rw [e] at z hx
    obtain ⟨z2, r2, z1, rr⟩ := z
    cases h1 with
    | nil => cases hx
    | cons a h1 =>
      simp only [nxA, Option.some.injEq, Prod.mk.injEq] at hx
      obtain ⟨hx0, hx1, rfl⟩ := hx
      refine ⟨r2, g ++ h1.map (sO 1 g.length), ?_, rr.1.trans hx0, ?_⟩
      · rw [z1]
        show SR.nx r2 (((a :: h1).take 1).map (sO 1 g.length) ++ (g ++ ((a :: h1).drop 1).map (sO 1 g.length))) = _
        simp [hA]
      · have := rr.2 0 (.ref 0) hx1
        simpa [sV, ix] using this
  | rt v h' => rw [e] at hx; cases hx
  | ct r h' => rw [e] at hx; cases hx
  | ex c p r h' => rw [e] at hx; cases hx
  | no => rw [e] at hx; cases hx
/-- all turns of a loop over numbers, each of which stands alone -/
theorem loop_any {M : MD} {Mi : Mirs} {j : Nat} (hs : M.shB = true) (hmi : MirSh Mi) {b : I} (ok : okL b = true) {A : VO} (hA : ∀ d, sO 1 d A = A) {n i : Nat} (hi : 0 < i) {rf : PV → Rho} (hf : ∀ x, (rf x).length = n ∧ ∀ (k : Nat) v, (rf x)[k]? = some (some v) → (k = 0 ∧ v = .ref 0) ∨ (k = i ∧ v = x)) (hn : i < n) :
    ∀ (xs : List PV), (∀ x ∈ xs, clB x = true ∧ nxA (dSs (Tb.atM M.T0 M.B Mi j) b (rf x) [A]) = some (n, some (some (.ref 0)), A)) → ∀ (r : Rho) (g : VH), r.length = n → r[0]? = some (some (.ref 0)) →
    ∃ r' g', forL (dG (Tb.atM M.T0 M.B Mi j) (.var i)) (dSs (Tb.atM M.T0 M.B Mi j) b) xs r (A :: g) = .nx r' (A :: g') ∧ r'.length = n ∧ r'[0]? = some (some (.ref 0))
  | [], _, r, g, hl, h0 => ⟨r, g, rfl, hl, h0⟩
  | x :: xs, hx, r, g, hl, h0 => by
    obtain ⟨hc, ht⟩ := hx x (by simp)
    have rr : RR2 1 g.length (rf x) (r.set i (some x)) := by
      refine ⟨by rw [List.length_set, hl, (hf x).1], fun k v e => ?_⟩
      rcases (hf x).2 k v e with ⟨rfl, rfl⟩ | ⟨rfl, rfl⟩
      · rw [List.getElem?_set_ne (by omega), h0]
        rfl
      · rw [List.getElem?_set_self (by omega), sV_cl hc]
    obtain ⟨r', g', e, l', h0'⟩ := turn_any hs hmi ok hA ht g _ rr
    obtain ⟨r2, g2, e2, l2, h2⟩ := loop_any hs hmi ok hA hi hf hn xs (fun y hy => hx y (by simp [hy])) r' g' l' h0'
    refine ⟨r2, g2, ?_, l2, h2⟩
    show (match dG (Tb.atM M.T0 M.B Mi j) (.var i) x r (A :: g) with
    | .ok r' h' => (match dSs (Tb.atM M.T0 M.B Mi j) b r' h' with
      | .nx r'' h'' => forL (dG (Tb.atM M.T0 M.B Mi j) (.var i)) (dSs (Tb.atM M.T0 M.B Mi j) b) xs r'' h''
      | .ct r'' h'' => forL (dG (Tb.atM M.T0 M.B Mi j) (.var i)) (dSs (Tb.atM M.T0 M.B Mi j) b) xs r'' h''
      | o => o)
    | _ => .no) = _
    have eg : dG (Tb.atM M.T0 M.B Mi j) (.var i) x r (A :: g) = .ok (r.set i (some x)) (A :: g) := by simp only [dG]
    rw [eg]
    dsimp only
    rw [e]
    exact e2
theorem run_two {T : Tb} {n : Nat} {s1 s2 : I} {vs : List PV} {h h' h2 : VH} {r' : Rho} {v : PV} (e1 : dS T s1 (start n vs) h = .nx r' h') (e2 : dS T s2 r' h' = .rt v h2) : runB T ⟨n, .cons s1 (.cons s2 .nil)⟩ vs h = .ok v h2 := by
  unfold runB
  simp only [dSs]
  rw [e1]
  dsimp only
  rw [e2]
theorem for_any {T : Tb} {t it b : I} {r r' : Rho} {h h1 h' : VH} {xs : List PV} (e1 : dI T it r h = .ok (xs, []) h1) (e2 : forL (dG T t) (dSs T b) xs r h1 = .nx r' h') : dS T (.for t it b) r h = .nx r' h' := by
  simp only [dS]
  rw [e1]
  show (forL (dG T t) (dSs T b) xs r h1).done [] = _
  rw [e2]
  rfl
theorem ret_isi {T : Tb} {i : Nat} {ks : List TyK} {r : Rho} {h : VH} {x : PV} {t : TC} {b : Bool} (e : r[i]? = some (some x)) (et : tcOf h x = some t) (ek : anyK (T.kit t) ks = some b) : dS T (.ret (.isi (.var i) ks)) r h = .rt (.bl b) h := by
  simp only [dS, dE]
  rw [e]
  show (match (match tcOf h x with
    | some t => (match anyK (T.kit t) ks with
      | some b => (Res.ok (PV.bl b) h)
      | none => .no)
    | none => .no) with
    | .ok v h1 => SR.rt v h1
    | .ex c p h1 => .ex c p r h1
    | .no => .no) = _
  rw [et]
  dsimp only
  rw [ek]
end VI
set_option autoImplicit false
set_option linter.all false
set_option Elab.async false
set_option maxRecDepth 100000
set_option maxHeartbeats 0
namespace VI.K46
open PySem (Str)
def Mi : Mirs := fun _ => none
abbrev Tj : Tb := Tb.atM M.T0 M.B Mi 10
def lawB : I := match e_law.body with
  | .cons (.for _ _ b) _ => b
  | _ => .nil
def rf (x : PV) : Rho := [some (.ref 0), some x, none, none, none, none, none, none]
def okT (i : Int) (A : VO) : Prop := nxA (dSs Tj lawB (rf (.int i)) [A]) = some (8, some (some (.ref 0)), A)
theorem turn0 (A : VO) : okT 0 A := by unfold okT; kernel_rfl
theorem turn1 (A : VO) : okT 1 A := by unfold okT; kernel_rfl
theorem turn2 (A : VO) : okT 2 A := by unfold okT; kernel_rfl
theorem turn3 (A : VO) : okT 3 A := by unfold okT; kernel_rfl
theorem turn4 (A : VO) : okT 4 A := by unfold okT; kernel_rfl
theorem turn5 (A : VO) : okT 5 A := by unfold okT; kernel_rfl
theorem turn6 (A : VO) : okT 6 A := by unfold okT; kernel_rfl
theorem turn7 (A : VO) : okT 7 A := by unfold okT; kernel_rfl
theorem turn8 (A : VO) : okT 8 A := by unfold okT; kernel_rfl
theorem turn9 (A : VO) : okT 9 A := by unfold okT; kernel_rfl
theorem turn10 (A : VO) : okT 10 A := by unfold okT; kernel_rfl
theorem turn11 (A : VO) : okT 11 A := by unfold okT; kernel_rfl
theorem turn12 (A : VO) : okT 12 A := by unfold okT; kernel_rfl
theorem turn13 (A : VO) : okT 13 A := by unfold okT; kernel_rfl
end VI.K46
set_option autoImplicit false
set_option linter.all false
set_option Elab.async false
set_option maxRecDepth 100000
set_option maxHeartbeats 4000000
namespace VI.K46
open PySem PySem.Spec PyProof.Rows L2
theorem get239 {e : FnE} (h : M.fs.get 239 = some e) : e = e_Broken___init__ := by
  have : M.fs.get 239 = some e_Broken___init__ := rfl
  rw [h] at this
  exact Option.some.inj this
theorem bok_Broken___init__ {K : PySem.W.Frag} (hb : M.okB K = true) : BindOk M K 239 e_Broken___init__ := by
  intro fd F as vs hv
  have hp : M.T0.par 239 = (3, [.non], false) := rfl
  have h0 : as.length = 2 ∨ as.length = 3 := by
    unfold Tb.fill at hv
    rw [hp] at hv
    simp only [List.length_cons, List.length_nil, Bool.false_eq_true, if_false] at hv
    split at hv
    · rename_i hz
      rw [Bool.and_eq_true] at hz
      have z1 := Nat.le_of_ble_eq_true hz.1
      have z2 := Nat.le_of_ble_eq_true hz.2
      omega
    · cases hv
  rcases h0 with h0 | h0
  · have e : vs = as ++ [.non] := by
      unfold Tb.fill at hv
      rw [hp] at hv
      simp only [List.length_cons, List.length_nil, Bool.false_eq_true, if_false, h0] at hv
      simpa using hv.symm
    obtain ⟨ds, d1, d2⟩ := F.binds1 (ps := e_Broken___init__.ps) 2 0 (by simp [He.DefD.dvs, e_Broken___init__]) (by simp [He.DefD.dvs, e_Broken___init__]) fun T kV doc pm an cdv ct us its hl hi => match us, its, hl, hi with
      | [_, _], [_], _, _ => ⟨_, rfl, rfl⟩
    exact ⟨by rw [e]; simp [h0, e_Broken___init__], [.non], [.non], ds, e, fun _ _ => ⟨_, _, rfl, rfl, rfl⟩, d1, d2⟩
  · have e : vs = as := by
      unfold Tb.fill at hv
      rw [hp] at hv
      simp only [List.length_cons, List.length_nil, Bool.false_eq_true, if_false, h0] at hv
      simpa using hv.symm
    obtain ⟨ds, d1, d2⟩ := F.binds1 (ps := e_Broken___init__.ps) 3 1 (by simp [He.DefD.dvs, e_Broken___init__]) (by simp [He.DefD.dvs, e_Broken___init__]) fun T kV doc pm an cdv ct us its hl hi => match us, its, hl, hi with
      | [_, _, _], [_], _, _ => ⟨_, rfl, rfl⟩
    exact ⟨by rw [e]; simp [h0, e_Broken___init__], [], [], ds, by simp [e], fun _ _ => rfl, d1, d2⟩
theorem get252 {e : FnE} (h : M.fs.get 252 = some e) : e = e_Unsound___init__ := by
  have : M.fs.get 252 = some e_Unsound___init__ := rfl
  rw [h] at this
  exact Option.some.inj this
theorem bok_Unsound___init__ {K : PySem.W.Frag} (hb : M.okB K = true) : BindOk M K 252 e_Unsound___init__ := by
  intro fd F as vs hv
  have hp : M.T0.par 252 = (3, [.non], false) := rfl
  have h0 : as.length = 2 ∨ as.length = 3 := by
    unfold Tb.fill at hv
    rw [hp] at hv
    simp only [List.length_cons, List.length_nil, Bool.false_eq_true, if_false] at hv
    split at hv
    · rename_i hz
      rw [Bool.and_eq_true] at hz
      have z1 := Nat.le_of_ble_eq_true hz.1
      have z2 := Nat.le_of_ble_eq_true hz.2
      omega
    · cases hv
  rcases h0 with h0 | h0
  · have e : vs = as ++ [.non] := by
      unfold Tb.fill at hv
      rw [hp] at hv
      simp only [List.length_cons, List.length_nil, Bool.false_eq_true, if_false, h0] at hv
      simpa using hv.symm
    obtain ⟨ds, d1, d2⟩ := F.binds1 (ps := e_Unsound___init__.ps) 2 0 (by simp [He.DefD.dvs, e_Unsound___init__]) (by simp [He.DefD.dvs, e_Unsound___init__]) fun T kV doc pm an cdv ct us its hl hi => match us, its, hl, hi with
      | [_, _], [_], _, _ => ⟨_, rfl, rfl⟩
    exact ⟨by rw [e]; simp [h0, e_Unsound___init__], [.non], [.non], ds, e, fun _ _ => ⟨_, _, rfl, rfl, rfl⟩, d1, d2⟩
  · have e : vs = as := by
      unfold Tb.fill at hv
      rw [hp] at hv
      simp only [List.length_cons, List.length_nil, Bool.false_eq_true, if_false, h0] at hv
      simpa using hv.symm
    obtain ⟨ds, d1, d2⟩ := F.binds1 (ps := e_Unsound___init__.ps) 3 1 (by simp [He.DefD.dvs, e_Unsound___init__]) (by simp [He.DefD.dvs, e_Unsound___init__]) fun T kV doc pm an cdv ct us its hl hi => match us, its, hl, hi with
      | [_, _, _], [_], _, _ => ⟨_, rfl, rfl⟩
    exact ⟨by rw [e]; simp [h0, e_Unsound___init__], [], [], ds, by simp [e], fun _ _ => rfl, d1, d2⟩
theorem simp_all : (M.fs.all fun f e => simpleE e || (Nat.beq f 239 || Nat.beq f 252)) = true := by decide +kernel
theorem bok (K : PySem.W.Frag) (f : Nat) (e : FnE) (hb : M.okB K = true) (h : M.fs.get f = some e) : BindOk M K f e := by
  have q := Tr.all_get simp_all h
  rw [Bool.or_eq_true, Bool.or_eq_true] at q
  rcases q with q | q | q
  · exact bok_simple h q
  · have := Nat.eq_of_beq_eq_true q
    subst this
    rw [get239 h]
    exact bok_Broken___init__ hb
  · have := Nat.eq_of_beq_eq_true q
    subst this
    rw [get252 h]
    exact bok_Unsound___init__ hb
theorem kok (K : PySem.W.Frag) (c : Nat) (kw : Str) (f : Nat) (e : FnE) (h1 : M.G.kw.lookup c = some kw) (h2 : M.il.get c = some f) (h : M.fs.get f = some e) : KwOk K e kw := by
  have h1 : (List.lookup c ([] : List (Nat × Str))) = some kw := h1
  cases h1
theorem kin (c : Nat) (kw : Str) (f : Nat) (h1 : M.G.kw.lookup c = some kw) (h2 : M.il.get c = some f) : ∃ e, M.fs.get f = some e := by
  have h1 : (List.lookup c ([] : List (Nat × Str))) = some kw := h1
  cases h1
theorem mok : MirOk M Mi := fun f kf m e h => by cases h
theorem msh : MirSh Mi := fun f kf mf h => by cases h
theorem shB : M.shB = true := by decide +kernel
theorem okB' : okL lawB = true := by decide +kernel
theorem turns (A : VO) : ∀ x ∈ rangeL 0 14, clB x = true ∧ nxA (dSs Tj lawB (rf x) [A]) = some (8, some (some (.ref 0)), A) := by
  intro x hx
  have e : rangeL 0 14 = [.int 0, .int 1, .int 2, .int 3, .int 4, .int 5, .int 6, .int 7, .int 8, .int 9, .int 10, .int 11, .int 12, .int 13] := rfl
  rw [e] at hx
  simp only [List.mem_cons, List.not_mem_nil, or_false] at hx
  rcases hx with rfl | rfl | rfl | rfl | rfl | rfl | rfl | rfl | rfl | rfl | rfl | rfl | rfl | rfl
  · exact ⟨rfl, turn0 A⟩
  · exact ⟨rfl, turn1 A⟩
  · exact ⟨rfl, turn2 A⟩
  · exact ⟨rfl, turn3 A⟩
  · exact ⟨rfl, turn4 A⟩
  · exact ⟨rfl, turn5 A⟩
  · exact ⟨rfl, turn6 A⟩
  · exact ⟨rfl, turn7 A⟩
  · exact ⟨rfl, turn8 A⟩
  · exact ⟨rfl, turn9 A⟩
  · exact ⟨rfl, turn10 A⟩
  · exact ⟨rfl, turn11 A⟩
  · exact ⟨rfl, turn12 A⟩
  · exact ⟨rfl, turn13 A⟩
theorem rf_ok (x : PV) : (rf x).length = 8 ∧ ∀ (k : Nat) v, (rf x)[k]? = some (some v) → (k = 0 ∧ v = .ref 0) ∨ (k = 1 ∧ v = x) := by
  refine ⟨rfl, fun k v e => ?_⟩
  match k, e with
  | 0, e => cases e; exact .inl ⟨rfl, rfl⟩
  | 1, e => cases e; exact .inr ⟨rfl, rfl⟩
  | 2, e => cases e
  | 3, e => cases e
  | 4, e => cases e
  | 5, e => cases e
  | 6, e => cases e
  | 7, e => cases e
  | k + 8, e => simp [rf] at e
theorem plain (ns : List Int) (hl : ns.length ≤ 63) : ∃ h', runB (Tb.atM M.T0 M.B Mi 10) ⟨e_law.N.length, e_law.body⟩ [.ref 0] [.lst (ns.map .int) true] = .ok (.bl true) h' := by
  have hA : ∀ d, sO 1 d (.lst (ns.map PV.int) true) = .lst (ns.map .int) true := fun d => by
    show VO.lst (sVs 1 d (ns.map PV.int)) true = _
    rw [← ints_s]
  obtain ⟨r', g', e, l', h0⟩ := loop_any shB msh okB' hA (i := 1) (by decide) rf_ok (by decide) (rangeL 0 14) (turns _) (start 8 [.ref 0]) [] rfl rfl
  refine ⟨.lst (ns.map .int) true :: g', ?_⟩
  have eb : (⟨e_law.N.length, e_law.body⟩ : Fd) = ⟨8, .cons (.for (.var 1) (.rng (.lit (.int 0)) (.lit (.int 14))) lawB) (.cons (.ret (.isi (.var 0) [.list])) .nil)⟩ := rfl
  rw [eb]
  exact run_two (for_any (xs := rangeL 0 14) (h1 := [.lst (ns.map .int) true]) rfl e) (ret_isi h0 (t := .list) rfl rfl)
end VI.K46
open PySem PySem.W PySem.Calls PyProof.Rows
theorem PySem.Challenge.cw_readhalves_k46_known_equal_holds : PySem.Challenge.rw_readhalves_k46_known_equal.Holds := by
  w_on; o_law
  refine HandSHeadRun.head_any (r := OpenLaw.row PySem.Challenge.rw_readhalves_k46_known_equal) (q := view (OpenLaw.row PySem.Challenge.rw_readhalves_k46_known_equal).prog [30]) (H := VI.K46.M.hook 6) (ob := VI.K46.M.ob 6) (M := 8000) (loose := VI.K46.loose) (d := HandSHeadRun.topDef (OpenLaw.row PySem.Challenge.rw_readhalves_k46_known_equal).prog 30) (kwd := []) (VI.K46.M.ob_eq 6)
    (by kernel_rfl) (fun s => by kernel_rfl) VI.K46.run (by kernel_rfl) (by kernel_rfl) (by kernel_rfl) (by rfl) (by first | assumption | decide +kernel) (by decide +kernel) ⟨rfl, rfl, rfl, rfl, rfl, by decide +kernel⟩ ?hw ?hc
  case hw => w_witness2
  case hc =>
    have e : (HandSHeadRun.topDef (OpenLaw.row PySem.Challenge.rw_readhalves_k46_known_equal).prog 30).name = ("law" : PySem.Str) := by kernel_rfl
    exact VI.law_walkM (l := PySem.Challenge.rw_readhalves_k46_known_equal) (n0 := 0) (j := 10) (f0 := 242) (e0 := VI.K46.e_law) (Mi := VI.K46.Mi) rfl (by kernel_rfl) ⟨rfl, by decide, by decide⟩ VI.K46.chk rfl rfl (by rw [e]; rfl) (by rw [e]; rfl) (by decide +kernel) VI.K46.bok VI.K46.kok VI.K46.kin VI.K46.mok VI.K46.plain
