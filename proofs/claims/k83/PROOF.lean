import PyProof.Rows.All
import Wide.All
import OpenK.AllK
import Wide.FinOn
import HandS.ForMost
import HandS.ExcOwn
import HandS.IsInst
import HandS.WordsExc
import PySem.Challenge.RW_oncelinks_k83_whole_counts_of_terms
set_option Elab.async false
set_option linter.all false
set_option maxRecDepth 1000000
set_option maxHeartbeats 0
/-! P1: a small evaluator over plain data -/
namespace Px

abbrev Cs := List Nat

/-- plain data: tuples stand as such; a list of one's own is a number of the heap; lst: a list that is only read (w: it came with an argument) -/
inductive D where
  | non | bl (b : Bool) | int (i : Int) | str (s : Cs) | tup (xs : List D) | lst (w : Bool) (xs : List D) | ref (i : Nat)
  /-- the script -/
  | scr (ns : List Int)
  deriving Inhabited

abbrev Ky := Sum Int Cs

inductive O where
  | lst (xs : List D)
  | dK (kvs : List (Ky × D))
  | dT (kvs : List (List Ky × D))
  | ins (c : Nat) (fs : List (Cs × D))
  /-- a list that is being made -/
  | hid

abbrev Hq := List O
structure Xn where
  cls : Nat
  fs : List (Cs × D)

abbrev Sl := List (Option D)
/-- exc: what is raised, the names' values then -/
inductive Res (α : Type) where
  | ok (a : α) (h : Hq)
  | exc (x : Xn) (s : Sl) (h : Hq)
  | no

def Res.bind {α β : Type} (r : Res α) (f : α → Hq → Res β) : Res β :=
  match r with
  | .ok a h => f a h
  | .exc x s h => .exc x s h
  | .no => .no

abbrev Ex := Sl → Hq → Res D
abbrev Tx := Sl → Hq → Res Bool
abbrev Ax := Sl → Hq → Res (List D)
inductive Fl where
  | nx (σ : Sl) | rt (d : D) | bk (σ : Sl) | ct (σ : Sl)
abbrev Sx := Sl → Hq → Res Fl
abbrev Gx := D → Sl → Hq → Res Sl
inductive It where
  | seq (xs : List D) | live (i : Nat)
abbrev Ix := Sl → Hq → Res It

/-- what a body is run with: calls by number, constants, turns of a while -/
structure Gm where
  call : Nat → List D → Hq → Res D
  make : Nat → List D → Hq → Res D
  glob : Nat → Option D
  fuel : Nat

abbrev big : Nat := 16777216

def mapO {α β : Type} (f : α → Option β) : List α → Option (List β)
  | [] => some []
  | x :: xs => match f x with
    | none => none
    | some y => match mapO f xs with
      | none => none
      | some ys => some (y :: ys)

/-- read to the ground; w: the mark of its lists; where w is not set no list of an argument may stand within -/
def frz (h : Hq) (w : Bool) : Nat → D → Option D
  | 0, _ => none
  | n + 1, d => match d with
    | .tup xs => match mapO (frz h w n) xs with | some ys => some (.tup ys) | none => none
    | .lst b xs => if b && !w then none else match mapO (frz h w n) xs with | some ys => some (.lst w ys) | none => none
    | .ref i => match h[i]? with
      | some (.lst xs) => match mapO (frz h w n) xs with | some ys => some (.lst w ys) | none => none
      | _ => none
    | .non => some .non
    | .bl b => some (.bl b)
    | .int i => some (.int i)
    | .str s => some (.str s)
    | .scr _ => none

def deep : Nat := 64

mutual
/-- the lists within are lent -/
def lent : D → D
  | .tup xs => .tup (lents xs)
  | .lst _ xs => .lst true (lents xs)
  | .non => .non
  | .bl b => .bl b
  | .int i => .int i
  | .str s => .str s
  | .ref i => .ref i
  | .scr ns => .scr ns
def lents : List D → List D
  | [] => []
  | x :: xs => lent x :: lents xs
end

mutual
def deq : D → D → Bool
  | .non, .non => true
  | .bl a, .bl b => a == b
  | .bl a, .int j => (if a then 1 else 0) == j
  | .int i, .bl b => i == (if b then 1 else 0)
  | .int i, .int j => i == j
  | .str a, .str b => a == b
  | .tup xs, .tup ys => deqs xs ys
  | .lst _ xs, .lst _ ys => deqs xs ys
  | _, _ => false
def deqs : List D → List D → Bool
  | [], [] => true
  | x :: xs, y :: ys => deq x y && deqs xs ys
  | _, _ => false
end

/-- a list's items -/
def getL (h : Hq) : D → Option (List D)
  | .lst _ xs => some xs
  | .ref i => match h[i]? with
    | some (.lst xs) => some xs
    | _ => none
  | _ => none

/-- the items of a list or a tuple -/
def getS (h : Hq) : D → Option (List D)
  | .tup xs => some xs
  | d => getL h d

def keyOf : D → Option Ky
  | .int i => some (.inl i)
  | .str s => some (.inr s)
  | _ => none
def keyT : D → Option (List Ky)
  | .tup xs => mapO keyOf xs
  | _ => none

def lookA {κ : Type} [BEq κ] : List (κ × D) → κ → Option D
  | [], _ => none
  | (k, v) :: r, x => if k == x then some v else lookA r x
def setA {κ : Type} [BEq κ] : List (κ × D) → κ → D → List (κ × D)
  | [], _, _ => []
  | (k, v) :: r, x, d => (if k == x then (k, d) else (k, v)) :: setA r x d
def putA {κ : Type} [BEq κ] (kvs : List (κ × D)) (x : κ) (d : D) : List (κ × D) := match lookA kvs x with
  | some _ => setA kvs x d
  | none => kvs ++ [(x, d)]

def kyEq : Ky → Ky → Bool
  | .inl i, .inl j => i == j
  | .inr a, .inr b => a == b
  | _, _ => false

/-- Python's index -/
def ixn (n : Nat) (i : Int) : Option Nat := if 0 ≤ i then (if i < n then some i.toNat else none) else if -(n : Int) ≤ i then some (i + n).toNat else none
def aI {α : Type} (xs : List α) (i : Int) : Option α := match ixn xs.length i with
  | some j => xs[j]?
  | none => none

inductive Op where
  | add | sub | mul | fdiv | mod | pow
inductive Cm where
  | eq | ne | lt | le | gt | ge | inn | nin | is | isn

def new (o : O) (h : Hq) : Res D := .ok (.ref h.length) (h ++ [o])

def opB : Op → D → D → Hq → Res D
  | .add, x, y, h => match x, y with
    | .int i, .int j => .ok (.int (i + j)) h
    | .str a, .str b => if a.length + b.length ≤ big then .ok (.str (a ++ b)) h else .no
    | .tup xs, .tup ys => if xs.isEmpty || ys.isEmpty then .no else if xs.length + ys.length ≤ big then .ok (.tup (xs ++ ys)) h else .no
    | x, y => match getL h x, getL h y with
      | some xs, some ys => if xs.length + ys.length ≤ big then new (.lst (xs ++ ys)) h else .no
      | _, _ => .no
  | .sub, x, y, h => match x, y with
    | .int i, .int j => .ok (.int (i - j)) h
    | _, _ => .no
  | .mul, x, y, h => match x, y with
    | .int i, .int j => if (-18446744073709551616 < i && i < 18446744073709551616) || (-18446744073709551616 < j && j < 18446744073709551616) then .ok (.int (i * j)) h else .no
    | _, _ => .no
  | .fdiv, x, y, h => match x, y with
    | .int i, .int j => if 0 < j && j < 1073741824 then .ok (.int (i / j)) h else .no
    | _, _ => .no
  | .mod, x, y, h => match x, y with
    | .int i, .int j => if 0 < j then .ok (.int (i % j)) h else .no
    | _, _ => .no
  | .pow, x, y, h => match x, y with
    | .int i, .int j => if 0 ≤ j && j ≤ 1000000 && decide (i.natAbs < 18446744073709551616) then .ok (.int (i ^ j.toNat)) h else .no
    | _, _ => .no

/-- x = y of data -/
def eqV (x y : D) (h : Hq) : Option Bool := match x, y with
  | .int i, .int j => some (i == j)
  | .str a, .str b => some (a == b)
  | x, y => match frz h true deep x, frz h true deep y with
    | some a, some b => some (deq a b)
    | _, _ => none

def cmB : Cm → D → D → Hq → Option Bool
  | .eq, x, y, h => eqV x y h
  | .ne, x, y, h => match eqV x y h with
    | some b => some (!b)
    | none => none
  | .lt, x, y, _ => match x, y with
    | .int i, .int j => some (decide (i < j))
    | _, _ => none
  | .le, x, y, _ => match x, y with
    | .int i, .int j => some (decide (i ≤ j))
    | _, _ => none
  | .gt, x, y, _ => match x, y with
    | .int i, .int j => some (decide (j < i))
    | _, _ => none
  | .ge, x, y, _ => match x, y with
    | .int i, .int j => some (decide (j ≤ i))
    | _, _ => none
  | .is, x, y, _ => match y with
    | .non => some (match x with | .non => true | _ => false)
    | _ => none
  | .isn, x, y, _ => match y with
    | .non => some (match x with | .non => false | _ => true)
    | _ => none
  | .inn, _, _, _ => none
  | .nin, _, _, _ => none

def getItem (x i : D) (h : Hq) : Option D := match x with
  | .tup xs => match i with
    | .int k => aI xs k
    | _ => none
  | .str z => match i with
    | .int k => if z.length ≤ big then (match aI z k with | some c => some (.str [c]) | none => none) else none
    | _ => none
  | .lst _ xs => match i with
    | .int k => aI xs k
    | _ => none
  | .ref r => match h[r]? with
    | some (.lst xs) => (match i with
      | .int k => aI xs k
      | _ => none)
    | some (.dT kvs) => (match keyT i with
      | some k => lookA kvs k
      | none => none)
    | some (.dK kvs) => (match keyOf i with
      | some k => lookA kvs k
      | none => none)
    | _ => none
  | _ => none

def getRef (x i : D) (h : Hq) : Option D := match x with
  | .ref _ => getItem x i h
  | _ => none

def setItem (x i v : D) (h : Hq) : Option Hq := match x with
  | .ref r => match h[r]? with
    | some (.lst xs) => (match i with
      | .int k => (match ixn xs.length k with
        | some j => some (h.set r (.lst (xs.set j v)))
        | none => none)
      | _ => none)
    | some (.dT kvs) => (match keyT i with
      | some k => if kvs.length < big then some (h.set r (.dT (putA kvs k v))) else none
      | none => none)
    | some (.dK kvs) => (match keyOf i with
      | some k => if kvs.length < big then some (h.set r (.dK (putA kvs k v))) else none
      | none => none)
    | _ => none
  | _ => none

/-- the ends of a slice -/
def sIx (n d : Nat) : Option Int → Nat
  | none => d
  | some i => if i < 0 then (i + n).toNat else min i.toNat n
def cut {α : Type} (xs : List α) (lo hi : Option Int) : List α := (xs.drop (sIx xs.length 0 lo)).take (sIx xs.length xs.length hi - sIx xs.length 0 lo)

def slc (x : D) (lo hi : Option Int) (h : Hq) : Res D := match x with
  | .str z => if z.length ≤ big then .ok (.str (cut z lo hi)) h else .no
  | .tup xs => if sIx xs.length 0 lo == 0 && sIx xs.length xs.length hi == xs.length then .no else .ok (.tup (cut xs lo hi)) h
  | x => match getL h x with
    | some xs => new (.lst (cut xs lo hi)) h
    | none => .no

inductive Bl where
  | len | abs | int | list | sum | all | any
  | isi (n : Nat)      -- isinstance(x, T): list 0, tuple 1, str 2, int 3, bool 4

def isT : Nat → D → Option Bool
  | 0, d => match d with
    | .lst .. => some true
    | .ref _ => some true
    | .scr _ => none
    | _ => some false
  | 1, d => match d with
    | .tup _ => some true
    | _ => some false
  | 2, d => match d with
    | .str _ => some true
    | _ => some false
  | 3, d => match d with
    | .int _ => some true
    | .bl _ => some true
    | _ => some false
  | 4, d => match d with
    | .bl _ => some true
    | _ => some false
  | _, _ => none

def intsOf : List D → Option (List Int) := mapO fun d => match d with | .int i => some i | _ => none
def blsOf : List D → Option (List Bool) := mapO fun d => match d with | .bl i => some i | _ => none

def bLen (xs : List D) (h : Hq) : Res D := match xs with
  | [x] => (match x with
    | .str z => if z.length ≤ big then .ok (.int z.length) h else .no
    | x => match getS h x with
      | some xs => .ok (.int xs.length) h
      | none => .no)
  | _ => .no
def bAbs (xs : List D) (h : Hq) : Res D := match xs with
  | [.int i] => .ok (.int (if i < 0 then -i else i)) h
  | _ => .no
def bInt (xs : List D) (h : Hq) : Res D := match xs with
  | [.int i] => .ok (.int i) h
  | [.bl b] => .ok (.int (if b then 1 else 0)) h
  | _ => .no
def bList (xs : List D) (h : Hq) : Res D := match xs with
  | [x] => (match x with
    | .scr ns => new (.lst (ns.map .int)) h
    | x => match getS h x with
      | some xs => new (.lst xs) h
      | none => .no)
  | _ => .no
def bSum (xs : List D) (h : Hq) : Res D := match xs with
  | [x] => (match getL h x with
    | some xs => (match intsOf xs with
      | some ns => .ok (.int ns.sum) h
      | none => .no)
    | none => .no)
  | _ => .no
def bAll (xs : List D) (h : Hq) : Res D := match xs with
  | [x] => (match getL h x with
    | some xs => (match blsOf xs with
      | some bs => .ok (.bl (bs.all id)) h
      | none => .no)
    | none => .no)
  | _ => .no
def bAny (xs : List D) (h : Hq) : Res D := match xs with
  | [x] => (match getL h x with
    | some xs => (match blsOf xs with
      | some bs => .ok (.bl (bs.any id)) h
      | none => .no)
    | none => .no)
  | _ => .no
def bIsi (n : Nat) (xs : List D) (h : Hq) : Res D := match xs with
  | [x] => (match x with
    | .scr _ => .no
    | .ref r => (match h[r]? with
      | some (.lst _) => (match isT n x with | some b => .ok (.bl b) h | none => .no)
      | _ => .no)
    | x => match isT n x with
      | some b => .ok (.bl b) h
      | none => .no)
  | _ => .no
def bltV : Bl → List D → Hq → Res D
  | .len => bLen
  | .abs => bAbs
  | .int => bInt
  | .list => bList
  | .sum => bSum
  | .all => bAll
  | .any => bAny
  | .isi n => bIsi n

inductive Bm where
  | append | extend | get

def bmAppend (x : D) (ys : List D) (h : Hq) : Res D := match x, ys with
  | .ref r, [y] => (match h[r]? with
    | some (.lst xs) => if xs.length < big then .ok .non (h.set r (.lst (xs ++ [y]))) else .no
    | _ => .no)
  | _, _ => .no
def bmExtend (x : D) (ys : List D) (h : Hq) : Res D := match x, ys with
  | .ref r, [y] => (match h[r]? with
    | some (.lst xs) => (match getL h y with
      | some ys => if xs.length + ys.length ≤ big then .ok .non (h.set r (.lst (xs ++ ys))) else .no
      | none => .no)
    | _ => .no)
  | _, _ => .no
def bmGet (x : D) (ys : List D) (h : Hq) : Res D := match x, ys with
  | .ref r, [k, d] => (match h[r]? with
    | some (.dT kvs) => (match keyT k with
      | some k => .ok ((lookA kvs k).getD d) h
      | none => .no)
    | some (.dK kvs) => (match keyOf k with
      | some k => .ok ((lookA kvs k).getD d) h
      | none => .no)
    | _ => .no)
  | _, _ => .no
def bmV : Bm → D → List D → Hq → Res D
  | .append => bmAppend
  | .extend => bmExtend
  | .get => bmGet

/-- of what kind its object is: a list, a dict -/
def bmTy : Bm → D → Hq → Bool
  | .get, .ref r, h => match h[r]? with
    | some (.dT _) => true
    | some (.dK _) => true
    | _ => false
  | .get, _, _ => false
  | _, x, h => (getL h x).isSome

/-! ### the combinators -/
def xV (i : Nat) : Ex := fun σ h => match σ[i]? with
  | some (some d) => .ok d h
  | _ => .no
def xC (d : D) : Ex := fun _ h => .ok d h
def xGl (G : Gm) (g : Nat) : Ex := fun _ h => match G.glob g with
  | some d => .ok d h
  | none => .no
def xOp (o : Op) (a b : Ex) : Ex := fun σ h => (a σ h).bind fun x h => (b σ h).bind fun y h => opB o x y h
def xNeg (a : Ex) : Ex := fun σ h => (a σ h).bind fun x h => match x with
  | .int i => .ok (.int (-i)) h
  | _ => .no
def ofO {α : Type} (o : Option α) (h : Hq) : Res α := match o with
  | some a => .ok a h
  | none => .no
def tCm (c : Cm) (a b : Ex) : Tx := fun σ h => (a σ h).bind fun x h => (b σ h).bind fun y h => ofO (cmB c x y h) h
def tCm2 (c d : Cm) (a b e : Ex) : Tx := fun σ h => (a σ h).bind fun x h => (b σ h).bind fun y h => (ofO (cmB c x y h) h).bind fun k h => if k then (e σ h).bind fun z h => ofO (cmB d y z h) h else .ok false h
def xT (t : Tx) : Ex := fun σ h => (t σ h).bind fun b h => .ok (.bl b) h
def tX (a : Ex) : Tx := fun σ h => (a σ h).bind fun x h => match x with
  | .bl b => .ok b h
  | _ => .no
/-- truth -/
def tru (x : D) (h : Hq) : Option Bool := match x with
  | .non => some false
  | .bl b => some b
  | .int i => some (i != 0)
  | .str z => if z.length ≤ big then some (!z.isEmpty) else none
  | .tup xs => some (!xs.isEmpty)
  | .lst _ xs => some (!xs.isEmpty)
  | .ref r => match h[r]? with
    | some (.lst xs) => some (!xs.isEmpty)
    | some (.dK kvs) => some (!kvs.isEmpty)
    | _ => none
  | .scr _ => none
def tTr (a : Ex) : Tx := fun σ h => (a σ h).bind fun x h => ofO (tru x h) h
def tAnd (a b : Tx) : Tx := fun σ h => (a σ h).bind fun c h => if c then b σ h else .ok false h
def tOr (a b : Tx) : Tx := fun σ h => (a σ h).bind fun c h => if c then .ok true h else b σ h
def tNot (a : Tx) : Tx := fun σ h => (a σ h).bind fun c h => .ok (!c) h
def tTT : Tx := fun _ h => .ok true h
def xAnd (a b : Ex) : Ex := fun σ h => (a σ h).bind fun x h => match x with
  | .bl true => b σ h
  | .bl false => .ok (.bl false) h
  | _ => .no
def xOr (a b : Ex) : Ex := fun σ h => (a σ h).bind fun x h => match x with
  | .bl true => .ok (.bl true) h
  | .bl false => b σ h
  | _ => .no
def xNot (a : Ex) : Ex := fun σ h => (a σ h).bind fun x h => match x with
  | .bl b => .ok (.bl (!b)) h
  | _ => .no
def xIf (t : Tx) (a b : Ex) : Ex := fun σ h => (t σ h).bind fun c h => if c then a σ h else b σ h
def aNil : Ax := fun _ h => .ok [] h
def aCons (a : Ex) (r : Ax) : Ax := fun σ h => (a σ h).bind fun x h => (r σ h).bind fun xs h => .ok (x :: xs) h
def xTup (a : Ax) : Ex := fun σ h => (a σ h).bind fun xs h => if xs.length ≤ big then .ok (.tup xs) h else .no
def xLst (a : Ax) : Ex := fun σ h => (a σ h).bind fun xs h => if xs.length ≤ big then new (.lst xs) h else .no
def xDN (t : Bool) : Ex := fun _ h => new (if t then .dT [] else .dK []) h
def xIx (a i : Ex) : Ex := fun σ h => (a σ h).bind fun x h => (i σ h).bind fun k h => ofO (getItem x k h) h
def oNone : Sl → Hq → Res (Option Int) := fun _ h => .ok none h
def oSome (a : Ex) : Sl → Hq → Res (Option Int) := fun σ h => (a σ h).bind fun x h => match x with
  | .int i => .ok (some i) h
  | _ => .no
def xSl (a : Ex) (lo hi : Sl → Hq → Res (Option Int)) : Ex := fun σ h => (a σ h).bind fun x h => (lo σ h).bind fun l h => (hi σ h).bind fun r h => slc x l r h
/-- a call on the whole heap -/
def xCall (G : Gm) (f : Nat) (a : Ax) : Ex := fun σ h => (a σ h).bind fun xs h => match G.call f xs h with
  | .ok d h => .ok d h
  | .exc x _ h => .exc x σ h
  | .no => .no
def frzFs (h : Hq) : List (Cs × D) → Option (List (Cs × D))
  | [] => some []
  | (x, d) :: r => match frz h false deep d with
    | none => none
    | some e => match frzFs h r with
      | none => none
      | some s => some ((x, e) :: s)
/-- a call that is handed readings, and hands back a reading -/
def pureCall (G : Gm) (f : Nat) (xs : List D) (σ : Sl) (h : Hq) : Res D :=
  match mapO (frz h true deep) xs with
  | none => .no
  | some ys => match G.call f ys [] with
    | .ok d h' => (match frz h' false deep d with
      | some e => .ok e h
      | none => .no)
    | .exc x _ h' => (match frzFs h' x.fs with
      | some fs => .exc ⟨x.cls, fs⟩ σ h
      | none => .no)
    | .no => .no
def xPure (G : Gm) (f : Nat) (a : Ax) : Ex := fun σ h => (a σ h).bind fun xs h => pureCall G f xs σ h
/-- .. and its list is a new one of one's own -/
def xPureL (G : Gm) (f : Nat) (a : Ax) : Ex := fun σ h => (xPure G f a σ h).bind fun d h => match d with
  | .lst false ys => new (.lst ys) h
  | _ => .no
def xBlt (b : Bl) (a : Ax) : Ex := fun σ h => (a σ h).bind fun xs h => bltV b xs h
def xBm (m : Bm) (o : Ex) (a : Ax) : Ex := fun σ h => (o σ h).bind fun x h => if bmTy m x h then (a σ h).bind fun xs h => bmV m x xs h else .no

/-! what is walked -/
def iSeq (a : Ex) : Ix := fun σ h => (a σ h).bind fun x h => match x with
  | .str z => .ok (.seq (z.map fun c => .str [c])) h
  | .tup xs => .ok (.seq xs) h
  | .lst _ xs => .ok (.seq xs) h
  | .ref r => (match h[r]? with
    | some (.lst _) => .ok (.live r) h
    | _ => .no)
  | _ => .no
def upto (lo st : Int) : Nat → List D
  | 0 => []
  | n + 1 => .int lo :: upto (lo + st) st n
def rgOk (i : Int) : Bool := -4611686018427387904 ≤ i && i < 4611686018427387904
def iRg1 (a : Ex) : Ix := fun σ h => (a σ h).bind fun x h => match x with
  | .int j => if rgOk j then .ok (.seq (upto 0 1 j.toNat)) h else .no
  | _ => .no
def iRg2 (a b : Ex) : Ix := fun σ h => (a σ h).bind fun x h => (b σ h).bind fun y h => match x, y with
  | .int i, .int j => if rgOk i && rgOk j then .ok (.seq (upto i 1 (j - i).toNat)) h else .no
  | _, _ => .no
/-- downwards by one -/
def iRgD (a b : Ex) : Ix := fun σ h => (a σ h).bind fun x h => (b σ h).bind fun y h => match x, y with
  | .int i, .int j => if rgOk i && rgOk j then .ok (.seq (upto i (-1) (i - j).toNat)) h else .no
  | _, _ => .no

/-! targets -/
def gN (i : Nat) : Gx := fun d σ h => .ok (σ.set i (some d)) h
def gsNil : List D → Sl → Hq → Res Sl := fun ds σ h => match ds with
  | [] => .ok σ h
  | _ => .no
def gsCons (g : Gx) (r : List D → Sl → Hq → Res Sl) : List D → Sl → Hq → Res Sl := fun ds σ h => match ds with
  | d :: ds => (g d σ h).bind fun σ h => r ds σ h
  | [] => .no
/-- n targets -/
def gTup (n : Nat) (r : List D → Sl → Hq → Res Sl) : Gx := fun d σ h => match d with
  | .tup xs => if xs.length == n then r xs σ h else .no
  | _ => .no
def gSub (o i : Ex) : Gx := fun d σ h => (o σ h).bind fun x h => (i σ h).bind fun k h => match setItem x k d h with
  | some h => .ok σ h
  | none => .no

/-! loops -/
def forSeq (g : Gx) (b : Sx) : List D → Sl → Hq → Res Fl
  | [], σ, h => .ok (.nx σ) h
  | x :: xs, σ, h => match g x σ h with
    | .ok σ1 h1 => (match b σ1 h1 with
      | .ok f h2 => (match f with
        | .nx σ2 => forSeq g b xs σ2 h2
        | .ct σ2 => forSeq g b xs σ2 h2
        | .bk σ2 => .ok (.nx σ2) h2
        | .rt d => .ok (.rt d) h2)
      | .exc x s h => .exc x s h
      | .no => .no)
    | .exc x s h => .exc x s h
    | .no => .no
def forLive (g : Gx) (b : Sx) (r : Nat) : Nat → Nat → Sl → Hq → Res Fl
  | 0, i, σ, h => match h[r]? with
    | some (.lst xs) => if xs.length ≤ i then .ok (.nx σ) h else .no
    | _ => .no
  | n + 1, i, σ, h => match h[r]? with
    | some (.lst xs) => (match xs[i]? with
      | none => .ok (.nx σ) h
      | some x => match g x σ h with
        | .ok σ1 h1 => (match b σ1 h1 with
          | .ok f h2 => (match f with
            | .nx σ2 => forLive g b r n (i + 1) σ2 h2
            | .ct σ2 => forLive g b r n (i + 1) σ2 h2
            | .bk σ2 => .ok (.nx σ2) h2
            | .rt d => .ok (.rt d) h2)
          | .exc x s h => .exc x s h
          | .no => .no)
        | .exc x s h => .exc x s h
        | .no => .no)
    | _ => .no
def lenAt (h : Hq) (r : Nat) : Nat := match h[r]? with
  | some (.lst xs) => xs.length
  | _ => 0
def sFor (w : Ix) (g : Gx) (b : Sx) : Sx := fun σ h => (w σ h).bind fun it h => match it with
  | .seq xs => forSeq g b xs σ h
  | .live r => forLive g b r (lenAt h r) 0 σ h
def whil (t : Tx) (b : Sx) : Nat → Sl → Hq → Res Fl
  | 0, _, _ => .no
  | n + 1, σ, h => match t σ h with
    | .ok false h1 => .ok (.nx σ) h1
    | .ok true h1 => (match b σ h1 with
      | .ok f h2 => (match f with
        | .nx σ2 => whil t b n σ2 h2
        | .ct σ2 => whil t b n σ2 h2
        | .bk σ2 => .ok (.nx σ2) h2
        | .rt d => .ok (.rt d) h2)
      | .exc x s h => .exc x s h
      | .no => .no)
    | .exc x s h => .exc x s h
    | .no => .no
def sWh (G : Gm) (t : Tx) (b : Sx) : Sx := fun σ h => whil t b G.fuel σ h

def wipe (σ : Sl) : List Nat → Sl
  | [] => σ
  | v :: vs => (wipe σ vs).set v none
/-- a comprehension's turns: σ as at each turn's beginning -/
def lcSeq (g : Gx) (t : Tx) (e : Ex) (σ : Sl) : List D → List D → Hq → Res (List D)
  | [], acc, h => .ok acc.reverse h
  | x :: xs, acc, h => match g x σ h with
    | .ok σ1 h1 => (match t σ1 h1 with
      | .ok false h2 => lcSeq g t e σ xs acc h2
      | .ok true h2 => (match e σ1 h2 with
        | .ok y h3 => lcSeq g t e σ xs (y :: acc) h3
        | _ => .no)
      | _ => .no)
    | _ => .no
/-- a list that is walked by a comprehension must stand still: its items are read at the beginning, and looked up again at each turn -/
def lcLive (g : Gx) (t : Tx) (e : Ex) (σ : Sl) (r : Nat) : Nat → Nat → List D → Hq → Res (List D)
  | 0, i, acc, h => match h[r]? with
    | some (.lst xs) => if xs.length ≤ i then .ok acc.reverse h else .no
    | _ => .no
  | n + 1, i, acc, h => match h[r]? with
    | some (.lst xs) => (match xs[i]? with
      | none => .ok acc.reverse h
      | some x => match g x σ h with
        | .ok σ1 h1 => (match t σ1 h1 with
          | .ok false h2 => lcLive g t e σ r n (i + 1) acc h2
          | .ok true h2 => (match e σ1 h2 with
            | .ok y h3 => lcLive g t e σ r n (i + 1) (y :: acc) h3
            | _ => .no)
          | _ => .no)
        | _ => .no)
    | _ => .no
def xLc (vs : List Nat) (w : Ix) (g : Gx) (t : Tx) (e : Ex) : Ex := fun σ h => (w σ h).bind fun it h =>
  match (match it with
    | .seq xs => lcSeq g t e (wipe σ vs) xs [] (h ++ [O.hid])
    | .live r => lcLive g t e (wipe σ vs) r (lenAt h r) 0 [] (h ++ [O.hid])) with
  | .ok ys h' => if ys.length ≤ big then .ok (.ref h.length) (h'.set h.length (.lst ys)) else .no
  | _ => .no

/-! statements -/
def sNil : Sx := fun σ h => .ok (.nx σ) h
def sCons (a b : Sx) : Sx := fun σ h => match a σ h with
  | .ok f h1 => (match f with
    | .nx σ1 => b σ1 h1
    | f => .ok f h1)
  | .exc x s h => .exc x s h
  | .no => .no
def sAsg (g : Gx) (e : Ex) : Sx := fun σ h => (e σ h).bind fun d h => (g d σ h).bind fun σ h => .ok (.nx σ) h
/-- in place: ints and texts -/
def opI : Op → D → D → Hq → Res D
  | .add, .int i, .int j, h => .ok (.int (i + j)) h
  | .add, .str a, .str b, h => if a.length + b.length ≤ big then .ok (.str (a ++ b)) h else .no
  | .sub, .int i, .int j, h => .ok (.int (i - j)) h
  | _, _, _, _ => .no
def sAug (i : Nat) (o : Op) (e : Ex) : Sx := fun σ h => match σ[i]? with
  | some (some x) => (e σ h).bind fun y h => (opI o x y h).bind fun z h => .ok (.nx (σ.set i (some z))) h
  | _ => .no
def sAugS (o : Op) (a i e : Ex) : Sx := fun σ h => (a σ h).bind fun x h => (i σ h).bind fun k h => (ofO (getRef x k h) h).bind fun u h => (e σ h).bind fun y h => (opI o u y h).bind fun z h => match setItem x k z h with
  | some h => .ok (.nx σ) h
  | none => .no
def sExp (e : Ex) : Sx := fun σ h => (e σ h).bind fun _ h => .ok (.nx σ) h
def sRet (e : Ex) : Sx := fun σ h => (e σ h).bind fun d h => .ok (.rt d) h
def sRetN : Sx := fun _ h => .ok (.rt .non) h
def sIf (t : Tx) (a b : Sx) : Sx := fun σ h => (t σ h).bind fun c h => if c then a σ h else b σ h
def sBk : Sx := fun σ h => .ok (.bk σ) h
def sCt : Sx := fun σ h => .ok (.ct σ) h

/-! ### the text as data -/
mutual
inductive IE where
  | v (i : Nat) | non | bl (b : Bool) | int (i : Int) | str (s : Cs) | glob (g : Nat)
  | op (o : Op) (a b : IE) | neg (a : IE) | cmp (c : Cm) (a b : IE) | cmp2 (c d : Cm) (a b e : IE)
  | andv (a b : IE) | orv (a b : IE) | notv (a : IE) | ifx (t : IT) (a b : IE)
  | tup (es : IEs) | lst (es : IEs) | dnew (t : Bool) | ix (a i : IE) | sl (a : IE) (lo hi : IO)
  | call (f : Nat) (es : IEs) | pcall (f : Nat) (es : IEs) | pcallL (f : Nat) (es : IEs)
  | blt (b : Bl) (es : IEs) | bm (m : Bm) (o : IE) (es : IEs)
  | lc (vs : List Nat) (w : II) (g : IG) (t : IT) (e : IE)
inductive IT where
  | val (a : IE) | tru (a : IE) | cmp (c : Cm) (a b : IE) | cmp2 (c d : Cm) (a b e : IE) | and (a b : IT) | or (a b : IT) | not (a : IT) | tt
inductive IEs where
  | nil | cons (e : IE) (es : IEs)
inductive IO where
  | none | some (e : IE)
inductive II where
  | seq (e : IE) | rg1 (a : IE) | rg2 (a b : IE) | rgD (a b : IE)
inductive IG where
  | name (i : Nat) | tup (n : Nat) (gs : IGs) | sub (o i : IE)
inductive IGs where
  | nil | cons (g : IG) (gs : IGs)
inductive IS where
  | asg (g : IG) (e : IE) | aug (i : Nat) (o : Op) (e : IE) | augS (o : Op) (a i e : IE)
  | exp (e : IE) | ret (e : IE) | retN | pass | brk | cont
  | iff (t : IT) (a b : ISs) | for (w : II) (g : IG) (b : ISs) | wh (t : IT) (b : ISs)
inductive ISs where
  | nil | cons (s : IS) (r : ISs)
end

mutual
def evE (G : Gm) : IE → Ex
  | .v i => xV i
  | .non => xC .non
  | .bl b => xC (.bl b)
  | .int i => xC (.int i)
  | .str s => xC (.str s)
  | .glob g => xGl G g
  | .op o a b => xOp o (evE G a) (evE G b)
  | .neg a => xNeg (evE G a)
  | .cmp c a b => xT (tCm c (evE G a) (evE G b))
  | .cmp2 c d a b e => xT (tCm2 c d (evE G a) (evE G b) (evE G e))
  | .andv a b => xAnd (evE G a) (evE G b)
  | .orv a b => xOr (evE G a) (evE G b)
  | .notv a => xNot (evE G a)
  | .ifx t a b => xIf (evT G t) (evE G a) (evE G b)
  | .tup es => xTup (evA G es)
  | .lst es => xLst (evA G es)
  | .dnew t => xDN t
  | .ix a i => xIx (evE G a) (evE G i)
  | .sl a lo hi => xSl (evE G a) (evO G lo) (evO G hi)
  | .call f es => xCall G f (evA G es)
  | .pcall f es => xPure G f (evA G es)
  | .pcallL f es => xPureL G f (evA G es)
  | .blt b es => xBlt b (evA G es)
  | .bm m o es => xBm m (evE G o) (evA G es)
  | .lc vs w g t e => xLc vs (evI G w) (evG G g) (evT G t) (evE G e)
def evT (G : Gm) : IT → Tx
  | .val a => tX (evE G a)
  | .tru a => tTr (evE G a)
  | .cmp c a b => tCm c (evE G a) (evE G b)
  | .cmp2 c d a b e => tCm2 c d (evE G a) (evE G b) (evE G e)
  | .and a b => tAnd (evT G a) (evT G b)
  | .or a b => tOr (evT G a) (evT G b)
  | .not a => tNot (evT G a)
  | .tt => tTT
def evA (G : Gm) : IEs → Ax
  | .nil => aNil
  | .cons e es => aCons (evE G e) (evA G es)
def evO (G : Gm) : IO → Sl → Hq → Res (Option Int)
  | .none => oNone
  | .some e => oSome (evE G e)
def evI (G : Gm) : II → Ix
  | .seq e => iSeq (evE G e)
  | .rg1 a => iRg1 (evE G a)
  | .rg2 a b => iRg2 (evE G a) (evE G b)
  | .rgD a b => iRgD (evE G a) (evE G b)
def evG (G : Gm) : IG → Gx
  | .name i => gN i
  | .tup n gs => gTup n (evGs G gs)
  | .sub o i => gSub (evE G o) (evE G i)
def evGs (G : Gm) : IGs → List D → Sl → Hq → Res Sl
  | .nil => gsNil
  | .cons g gs => gsCons (evG G g) (evGs G gs)
def evS (G : Gm) : IS → Sx
  | .asg g e => sAsg (evG G g) (evE G e)
  | .aug i o e => sAug i o (evE G e)
  | .augS o a i e => sAugS o (evE G a) (evE G i) (evE G e)
  | .exp e => sExp (evE G e)
  | .ret e => sRet (evE G e)
  | .retN => sRetN
  | .pass => sNil
  | .brk => sBk
  | .cont => sCt
  | .iff t a b => sIf (evT G t) (evSs G a) (evSs G b)
  | .for w g b => sFor (evI G w) (evG G g) (evSs G b)
  | .wh t b => sWh G (evT G t) (evSs G b)
def evSs (G : Gm) : ISs → Sx
  | .nil => sNil
  | .cons s r => sCons (evS G s) (evSs G r)
end

/-- a def: the number of its parameters, of its names, its body -/
structure Fn where
  np : Nat
  ns : Nat
  body : Gm → Sx

def startD (ns : Nat) (ds : List D) : Sl := ds.map some ++ List.replicate (ns - ds.length) none
def runFn (f : Fn) (G : Gm) (ds : List D) (h : Hq) : Res D :=
  if ds.length == f.np then
    match f.body G (startD f.ns ds) h with
    | .ok fl h => (match fl with
      | .rt d => .ok d h
      | .nx _ => .ok .non h
      | _ => .no)
    | .exc x s h => .exc x s h
    | .no => .no
  else .no
structure Pg where
  fns : Nat → Option Fn
  inits : Nat → Option Nat
  glob : Nat → Option D
  fuel : Nat
/-- n calls deep -/
def run (p : Pg) : Nat → Nat → List D → Hq → Res D
  | 0, _, _, _ => .no
  | n + 1, f, ds, h => match p.fns f with
    | some fn => runFn fn { call := run p n, make := fun _ _ _ => .no, glob := p.glob, fuel := p.fuel } ds h
    | none => .no

end Px
/-! P2: what plain data stands for -/
namespace Px
open PySem L2

abbrev toS (s : Cs) : Str := ⟨s.toArray⟩

/-- a list of the written part -/
def KLst (K : PySem.W.Frag) (a : Addr) (xs : List V) : Prop :=
  ∃ (o : Obj) (its : Array Value) (n : Nat), K.lookup a = some o ∧ o.cls = .type "list" ∧ o.dict = none ∧ o.data = .seq its n ∧ its.size ≤ sizeLine ∧ Vals xs its.toList

/-- what stays fixed in a body: the written part, the heap and the lists at its entry, the wish about what is raised, the classes -/
structure Ct where
  K : PySem.W.Frag
  /-- what stood when the last reading was handed in: lists met later are one's own -/
  H0 : Hp
  /-- the heap, the lists at the entry -/
  E0 : Hp
  m0 : List Addr
  W : L2.WX
  cl : Nat → Option Addr
  /-- lists that are being made -/
  hd : List Addr

def TupAt (m : List Addr) (H : Hp) (a : Addr) (vs : List V) : Prop := H a = some (.tup vs) ∧ a ∉ m
def ScrAt (K : PySem.W.Frag) (m : List Addr) (H : Hp) (a : Addr) (vs : List V) : Prop := (Rd H a (.lst vs) ∧ a ∉ m) ∨ KLst K a vs

mutual
def RD (K : PySem.W.Frag) (H0 : Hp) (m : List Addr) (H : Hp) : D → V → Prop
  | .non, v => v = .non
  | .bl b, v => v = .bl b
  | .int i, v => v = .int i
  | .str s, v => v = .str (toS s)
  | .tup xs, v => ∃ a vs, v = .ref a ∧ TupAt m H a vs ∧ RDs K H0 m H xs vs
  | .lst w xs, v => ∃ a vs, v = .ref a ∧ H a = some (.lst vs) ∧ a ∉ m ∧ (w = false → H0 a = none) ∧ RDs K H0 m H xs vs
  | .ref i, v => ∃ a, v = .ref a ∧ m[i]? = some a
  | .scr ns, v => ∃ a, v = .ref a ∧ ScrAt K m H a (ns.map V.int)
def RDs (K : PySem.W.Frag) (H0 : Hp) (m : List Addr) (H : Hp) : List D → List V → Prop
  | [], vs => vs = []
  | x :: xs, vs => ∃ v r, vs = v :: r ∧ RD K H0 m H x v ∧ RDs K H0 m H xs r
end

/-- from (m, H) on: new numbers for new objects; what is not ours stands -/
structure Step (hd : List Addr) (m : List Addr) (H : Hp) (m' : List Addr) (H' : Hp) : Prop where
  more : ∃ l, m' = m ++ l ∧ ∀ a ∈ l, H a = none
  keep : ∀ a o, H a = some o → a ∉ m → H' a = some o
  hid : ∀ a o, H a = some o → a ∈ hd → H' a = some o

theorem Step.refl {hd m : List Addr} {H : Hp} : Step hd m H m H := ⟨⟨[], by simp, by simp⟩, fun _ _ h _ => h, fun _ _ h _ => h⟩
theorem Step.weak {hd hd' m m' : List Addr} {H H' : Hp} (s : Step hd m H m' H') (w : ∀ a ∈ hd', a ∈ hd) : Step hd' m H m' H' := ⟨s.more, s.keep, fun a o h q => s.hid a o h (w a q)⟩
theorem Step.notin {m m' : List Addr} {H H' : Hp} {hd : List Addr} (s : Step hd m H m' H') {a : Addr} {o : HO} (h : H a = some o) (n : a ∉ m) : a ∉ m' := by
  obtain ⟨l, rfl, hl⟩ := s.more
  intro q
  rcases List.mem_append.mp q with q | q
  · exact n q
  · rw [hl a q] at h; cases h
theorem Step.get {m m' : List Addr} {H H' : Hp} {hd : List Addr} (s : Step hd m H m' H') {i : Nat} {a : Addr} (h : m[i]? = some a) : m'[i]? = some a := by
  obtain ⟨l, rfl, _⟩ := s.more
  rw [List.getElem?_append_left (List.getElem?_eq_some_iff.mp h).1]
  exact h
theorem Step.mem {m m' : List Addr} {H H' : Hp} {hd : List Addr} (s : Step hd m H m' H') {a : Addr} (h : a ∈ m) : a ∈ m' := by
  obtain ⟨l, rfl, _⟩ := s.more
  exact List.mem_append_left _ h
theorem TupAt.step {m m' : List Addr} {H H' : Hp} {hd : List Addr} (s : Step hd m H m' H') {a : Addr} {vs : List V} (h : TupAt m H a vs) : TupAt m' H' a vs := by
  exact ⟨s.keep a _ h.1 h.2, s.notin h.1 h.2⟩
theorem ScrAt.step {K : PySem.W.Frag} {m m' : List Addr} {H H' : Hp} {hd : List Addr} (s : Step hd m H m' H') {a : Addr} {vs : List V} (h : ScrAt K m H a vs) : ScrAt K m' H' a vs := by
  rcases h with ⟨h | ⟨o, h⟩, n⟩ | h
  · exact .inl ⟨.inl (s.keep a _ h n), s.notin h n⟩
  · exact .inl ⟨.inr ⟨o, s.keep a _ h n⟩, s.notin h n⟩
  · exact .inr h
mutual
theorem RD.step {K : PySem.W.Frag} {H0 : Hp} {m m' : List Addr} {H H' : Hp} {hd : List Addr} (s : Step hd m H m' H') : ∀ (d : D) {v : V}, RD K H0 m H d v → RD K H0 m' H' d v
  | .non, _, h => by simpa only [RD] using h
  | .bl b, _, h => by simpa only [RD] using h
  | .int i, _, h => by simpa only [RD] using h
  | .str x, _, h => by simpa only [RD] using h
  | .tup xs, v, h => by
    simp only [RD] at h ⊢
    obtain ⟨a, vs, e, t, r⟩ := h
    exact ⟨a, vs, e, t.step s, RDs.step s xs r⟩
  | .lst w xs, v, h => by
    simp only [RD] at h ⊢
    obtain ⟨a, vs, e, t, n, f, r⟩ := h
    exact ⟨a, vs, e, s.keep a _ t n, s.notin t n, f, RDs.step s xs r⟩
  | .ref i, v, h => by
    simp only [RD] at h ⊢
    obtain ⟨a, e, g⟩ := h
    exact ⟨a, e, s.get g⟩
  | .scr ns, v, h => by
    simp only [RD] at h ⊢
    obtain ⟨a, e, g⟩ := h
    exact ⟨a, e, g.step s⟩
theorem RDs.step {K : PySem.W.Frag} {H0 : Hp} {m m' : List Addr} {H H' : Hp} {hd : List Addr} (s : Step hd m H m' H') : ∀ (ds : List D) {vs : List V}, RDs K H0 m H ds vs → RDs K H0 m' H' ds vs
  | [], _, h => by simpa only [RDs] using h
  | x :: xs, _, h => by
    simp only [RDs] at h ⊢
    obtain ⟨v, r, e, h1, h2⟩ := h
    exact ⟨v, r, e, RD.step s x h1, RDs.step s xs h2⟩
end

section
variable {K : PySem.W.Frag} {H0 : Hp} {m : List Addr} {H : Hp}
theorem rd_non {v : V} : RD K H0 m H .non v ↔ v = .non := by simp only [RD]
theorem rd_bl {b : Bool} {v : V} : RD K H0 m H (.bl b) v ↔ v = .bl b := by simp only [RD]
theorem rd_int {i : Int} {v : V} : RD K H0 m H (.int i) v ↔ v = .int i := by simp only [RD]
theorem rd_str {s : Cs} {v : V} : RD K H0 m H (.str s) v ↔ v = .str (toS s) := by simp only [RD]
theorem rd_tup {xs : List D} {v : V} : RD K H0 m H (.tup xs) v ↔ ∃ a vs, v = .ref a ∧ TupAt m H a vs ∧ RDs K H0 m H xs vs := by simp only [RD]
theorem rd_lst {w : Bool} {xs : List D} {v : V} : RD K H0 m H (.lst w xs) v ↔ ∃ a vs, v = .ref a ∧ H a = some (.lst vs) ∧ a ∉ m ∧ (w = false → H0 a = none) ∧ RDs K H0 m H xs vs := by simp only [RD]
theorem rd_ref {i : Nat} {v : V} : RD K H0 m H (.ref i) v ↔ ∃ a, v = .ref a ∧ m[i]? = some a := by simp only [RD]
theorem rd_scr {ns : List Int} {v : V} : RD K H0 m H (.scr ns) v ↔ ∃ a, v = .ref a ∧ ScrAt K m H a (ns.map V.int) := by simp only [RD]
theorem rds_nil {vs : List V} : RDs K H0 m H [] vs ↔ vs = [] := by simp only [RDs]
theorem rds_cons {x : D} {xs : List D} {vs : List V} : RDs K H0 m H (x :: xs) vs ↔ ∃ v r, vs = v :: r ∧ RD K H0 m H x v ∧ RDs K H0 m H xs r := by simp only [RDs]
theorem RDs.length : ∀ {xs : List D} {vs : List V}, RDs K H0 m H xs vs → xs.length = vs.length
  | [], _, h => by rw [rds_nil.mp h]; rfl
  | x :: xs, _, h => by
    obtain ⟨v, r, rfl, _, h2⟩ := rds_cons.mp h
    simp [RDs.length h2]
theorem RDs.get : ∀ {xs : List D} {vs : List V} {i : Nat} {x : D}, RDs K H0 m H xs vs → xs[i]? = some x → ∃ v, vs[i]? = some v ∧ RD K H0 m H x v
  | [], _, _, _, _, e => by simp at e
  | y :: ys, _, i, x, h, e => by
    obtain ⟨v, r, rfl, h1, h2⟩ := rds_cons.mp h
    cases i with
    | zero => simp at e; subst e; exact ⟨v, by simp, h1⟩
    | succ i =>
      obtain ⟨w, hw, q⟩ := RDs.get (i := i) h2 (by simpa using e)
      exact ⟨w, by simpa using hw, q⟩
theorem RDs.append : ∀ {xs ys : List D} {vs ws : List V}, RDs K H0 m H xs vs → RDs K H0 m H ys ws → RDs K H0 m H (xs ++ ys) (vs ++ ws)
  | [], _, _, _, h, g => by rw [rds_nil.mp h]; simpa using g
  | x :: xs, _, _, _, h, g => by
    obtain ⟨v, r, rfl, h1, h2⟩ := rds_cons.mp h
    exact rds_cons.mpr ⟨v, _, rfl, h1, RDs.append h2 g⟩
theorem RDs.set : ∀ {xs : List D} {vs : List V} (i : Nat) {x : D} {v : V}, RDs K H0 m H xs vs → RD K H0 m H x v → RDs K H0 m H (xs.set i x) (vs.set i v)
  | [], _, _, _, _, h, _ => by rw [rds_nil.mp h]; simpa using rds_nil.mpr rfl
  | y :: ys, _, i, x, v, h, g => by
    obtain ⟨w, r, rfl, h1, h2⟩ := rds_cons.mp h
    cases i with
    | zero => exact rds_cons.mpr ⟨v, r, rfl, g, h2⟩
    | succ i => exact rds_cons.mpr ⟨w, _, rfl, h1, RDs.set i h2 g⟩
theorem RDs.take : ∀ {xs : List D} {vs : List V} (n : Nat), RDs K H0 m H xs vs → RDs K H0 m H (xs.take n) (vs.take n)
  | _, _, 0, _ => rds_nil.mpr (by simp)
  | [], _, n + 1, h => by rw [rds_nil.mp h]; exact rds_nil.mpr (by simp)
  | y :: ys, _, n + 1, h => by
    obtain ⟨w, r, rfl, h1, h2⟩ := rds_cons.mp h
    exact rds_cons.mpr ⟨w, r.take n, by simp, h1, RDs.take n h2⟩
theorem RDs.drop : ∀ {xs : List D} {vs : List V} (n : Nat), RDs K H0 m H xs vs → RDs K H0 m H (xs.drop n) (vs.drop n)
  | _, _, 0, h => by simpa using h
  | [], _, n + 1, h => by rw [rds_nil.mp h]; exact rds_nil.mpr (by simp)
  | y :: ys, _, n + 1, h => by
    obtain ⟨w, r, rfl, h1, h2⟩ := rds_cons.mp h
    simpa using RDs.drop n h2
theorem rds_map {α : Type} {f : α → D} {g : α → V} (h : ∀ a, RD K H0 m H (f a) (g a)) : ∀ xs : List α, RDs K H0 m H (xs.map f) (xs.map g)
  | [] => rds_nil.mpr rfl
  | x :: xs => rds_cons.mpr ⟨g x, _, rfl, h x, rds_map h xs⟩
end

/-! ### the heap -/
def toKy : Ky → Key
  | .inl i => .inl i
  | .inr s => .inr (toS s)
theorem toKy_inj {a b : Ky} (h : toKy a = toKy b) : a = b := by
  cases a <;> cases b <;> simp_all [toKy]
def RKs {κ κ' : Type} (f : κ → κ') (K : PySem.W.Frag) (H0 : Hp) (m : List Addr) (H : Hp) (kvs : List (κ × D)) (zs : List (κ' × V)) : Prop :=
  zs.map (·.1) = kvs.map (fun p => f p.1) ∧ RDs K H0 m H (kvs.map (·.2)) (zs.map (·.2))
def RFs (K : PySem.W.Frag) (H0 : Hp) (m : List Addr) (H : Hp) (fs : List (Cs × D)) (zs : List (Str × V)) : Prop :=
  zs.map (·.1) = fs.map (fun p => toS p.1) ∧ RDs K H0 m H (fs.map (·.2)) (zs.map (·.2))

def RO (c : Ct) (m : List Addr) (H : Hp) : O → Addr → Prop
  | .lst xs, a => ∃ vs, H a = some (.lst vs) ∧ RDs c.K c.H0 m H xs vs
  | .dK kvs, a => ∃ zs, H a = some (.dK zs) ∧ RKs toKy c.K c.H0 m H kvs zs
  | .dT kvs, a => ∃ zs, H a = some (.dT zs) ∧ RKs (List.map toKy) c.K c.H0 m H kvs zs
  | .ins n fs, a => ∃ C dx zs, c.cl n = some C ∧ H a = some (.ins C dx zs) ∧ H dx = some (.own a) ∧ RFs c.K c.H0 m H fs zs
  | .hid, a => ∃ xs, H a = some (.lst xs)

theorem RO.live {c : Ct} {m : List Addr} {H : Hp} {o : O} {a : Addr} (h : RO c m H o a) : H a ≠ none := by
  cases o with
  | lst xs => obtain ⟨vs, e, _⟩ := h; rw [e]; simp
  | dK xs => obtain ⟨vs, e, _⟩ := h; rw [e]; simp
  | dT xs => obtain ⟨vs, e, _⟩ := h; rw [e]; simp
  | ins n fs => obtain ⟨_, _, _, _, e, _⟩ := h; rw [e]; simp
  | hid => obtain ⟨vs, e⟩ := h; rw [e]; simp
theorem RO.noown {c : Ct} {m : List Addr} {H : Hp} {o : O} {a x : Addr} (h : RO c m H o a) : H a ≠ some (.own x) := by
  cases o with
  | lst xs => obtain ⟨vs, e, _⟩ := h; rw [e]; simp
  | dK xs => obtain ⟨vs, e, _⟩ := h; rw [e]; simp
  | dT xs => obtain ⟨vs, e, _⟩ := h; rw [e]; simp
  | ins n fs => obtain ⟨_, _, _, _, e, _⟩ := h; rw [e]; simp
  | hid => obtain ⟨vs, e⟩ := h; rw [e]; simp

structure RH (c : Ct) (m : List Addr) (H : Hp) (h : Hq) : Prop where
  len : h.length = m.length
  nd : m.Nodup
  obj : ∀ (i : Nat) o a, h[i]? = some o → m[i]? = some a → RO c m H o a
  hid : ∀ a ∈ c.hd, ∃ i : Nat, m[i]? = some a ∧ h[i]? = some .hid
  dom : ∀ a, H a = none → c.H0 a = none
theorem RH.live {c : Ct} {m : List Addr} {H : Hp} {h : Hq} (r : RH c m H h) {a : Addr} (ha : a ∈ m) : H a ≠ none := by
  obtain ⟨i, hi, e⟩ := List.getElem_of_mem ha
  have hi' : i < h.length := by rw [r.len]; exact hi
  exact (r.obj i h[i] a (List.getElem?_eq_getElem hi') (by rw [List.getElem?_eq_getElem hi, e])).live
theorem RH.at {c : Ct} {m : List Addr} {H : Hp} {h : Hq} (r : RH c m H h) {i : Nat} {o : O} (e : h[i]? = some o) : ∃ a, m[i]? = some a ∧ RO c m H o a := by
  have hi : i < h.length := (List.getElem?_eq_some_iff.mp e).1
  have hi' : i < m.length := by rw [← r.len]; exact hi
  exact ⟨m[i], List.getElem?_eq_getElem hi', r.obj i o _ e (List.getElem?_eq_getElem hi')⟩
theorem RH.atRef {c : Ct} {m : List Addr} {H : Hp} {h : Hq} (r : RH c m H h) {i : Nat} {o : O} {v : V} (e : h[i]? = some o) (d : RD c.K c.H0 m H (.ref i) v) : ∃ a, v = .ref a ∧ m[i]? = some a ∧ RO c m H o a := by
  obtain ⟨a, rfl, g⟩ := rd_ref.mp d
  exact ⟨a, rfl, g, r.obj i o a e g⟩
theorem RH.noown {c : Ct} {m : List Addr} {H : Hp} {h : Hq} (r : RH c m H h) {a x : Addr} (e : H a = some (.own x)) : a ∉ m := fun ha => by
  obtain ⟨i, hi, q⟩ := List.getElem_of_mem ha
  have hi' : i < h.length := by rw [r.len]; exact hi
  exact (r.obj i h[i] a (List.getElem?_eq_getElem hi') (by rw [List.getElem?_eq_getElem hi, q])).noown e

theorem Step.trans {c : Ct} {hd m m1 m2 : List Addr} {H H1 H2 : Hp} {h1 : Hq} (s : Step hd m H m1 H1) (r : RH c m1 H1 h1) (t : Step hd m1 H1 m2 H2) : Step hd m H m2 H2 := by
  obtain ⟨l, rfl, hl⟩ := s.more
  obtain ⟨l', rfl, hl'⟩ := t.more
  refine ⟨⟨l ++ l', by simp, fun a ha => ?_⟩, fun a o e n => t.keep a o (s.keep a o e n) (s.notin e n), fun a o e n => t.hid a o (s.hid a o e n) n⟩
  rcases List.mem_append.mp ha with q | q
  · exact hl a q
  · cases e : H a with
    | none => rfl
    | some o =>
      by_cases n : a ∈ m
      · exact absurd (hl' a q) (r.live (List.mem_append_left _ n))
      · have := s.keep a o e n
        rw [hl' a q] at this
        cases this

/-- names, heap -/
structure Rel (c : Ct) (m : List Addr) (h : Hq) (σd : Sl) (σ : L2.St) (H : Hp) : Prop where
  rh : RH c m H h
  st : Step [] c.m0 c.E0 m H
  ln : σd.length = σ.length
  sl : ∀ (i : Nat) d, σd[i]? = some (some d) → ∃ v, σ[i]? = some (some v) ∧ RD c.K c.H0 m H d v

section
variable {c : Ct} {m m1 : List Addr} {h h1 : Hq} {σd : Sl} {σ : L2.St} {H H1 : Hp}
theorem Rel.step {hd : List Addr} (R : Rel c m h σd σ H) (s : Step hd m H m1 H1) (r : RH c m1 H1 h1) : Rel c m1 h1 σd σ H1 :=
  ⟨r, R.st.trans R.rh (s.weak (by simp)), R.ln, fun i d e => let ⟨v, q, k⟩ := R.sl i d e; ⟨v, q, RD.step s d k⟩⟩
theorem Rel.set (R : Rel c m h σd σ H) (i : Nat) {d : D} {v : V} (k : RD c.K c.H0 m H d v) : Rel c m h (σd.set i (some d)) (σ.set i (some v)) H := by
  refine ⟨R.rh, R.st, by simp [R.ln], fun j d' e => ?_⟩
  by_cases hj : i = j
  · subst hj
    by_cases hi : i < σd.length
    · rw [List.getElem?_set_self hi] at e
      simp only [Option.some.injEq] at e
      subst e
      exact ⟨v, by rw [List.getElem?_set_self (by rw [← R.ln]; exact hi)], k⟩
    · rw [List.getElem?_eq_none (by simpa using hi)] at e; cases e
  · rw [List.getElem?_set_ne hj] at e
    obtain ⟨w, q, z⟩ := R.sl j d' e
    exact ⟨w, by rw [List.getElem?_set_ne hj]; exact q, z⟩
theorem Rel.setNone (R : Rel c m h σd σ H) (i : Nat) : Rel c m h (σd.set i none) (σ.set i none) H := by
  refine ⟨R.rh, R.st, by simp [R.ln], fun j d' e => ?_⟩
  by_cases hj : i = j
  · subst hj
    by_cases hi : i < σd.length
    · rw [List.getElem?_set_self hi] at e; cases e
    · rw [List.getElem?_eq_none (by simpa using hi)] at e; cases e
  · rw [List.getElem?_set_ne hj] at e
    obtain ⟨w, q, z⟩ := R.sl j d' e
    exact ⟨w, by rw [List.getElem?_set_ne hj]; exact q, z⟩
theorem Rel.wipe (R : Rel c m h σd σ H) : ∀ vs : List Nat, Rel c m h (Px.wipe σd vs) (L2.wipe σ vs) H
  | [] => R
  | v :: vs => (R.wipe vs).setNone v
end

/-! ### what an answer means -/
/-- an exception's class and its own dict -/
def RX (c : Ct) (m : List Addr) (H : Hp) (x : Xn) (cls : Value) (da : Option Addr) : Prop :=
  ∃ C, c.cl x.cls = some C ∧ cls = .ref C ∧ match x.fs with
    | [] => True
    | fs => ∃ a zs, da = some a ∧ H a = some (.xd zs) ∧ a ∉ m ∧ c.H0 a = none ∧ RFs c.K c.H0 m H fs zs

def Sim {α β : Type} (R : List Addr → Hp → α → β → Prop) (c : Ct) (m : List Addr) (H : Hp) (r : Res α) (Q : β → Hp → Prop) : Prop :=
  match r with
  | .ok a h' => ∀ m' H' b, Step c.hd m H m' H' → RH c m' H' h' → R m' H' a b → Q b H'
  | .exc x σe h' => ∀ m' H' cls da σ', Step c.hd m H m' H' → Rel c m' h' σe σ' H' → RX c m' H' x cls da → c.W cls da σ' H'
  | .no => False
abbrev SimD (c : Ct) (m : List Addr) (H : Hp) (r : Res D) (Q : VK) : Prop := Sim (fun m H d v => RD c.K c.H0 m H d v) c m H r Q
abbrev SimB (c : Ct) (m : List Addr) (H : Hp) (r : Res Bool) (Q : Bool → Hp → Prop) : Prop := Sim (fun _ _ a b => a = b) c m H r Q
abbrev SimA (c : Ct) (m : List Addr) (H : Hp) (r : Res (List D)) (Q : List V → Hp → Prop) : Prop := Sim (fun m H d v => RDs c.K c.H0 m H d v) c m H r Q
abbrev SimO (c : Ct) (m : List Addr) (H : Hp) (r : Res (Option Int)) (Q : Option Int → Hp → Prop) : Prop := Sim (fun _ _ a b => a = b) c m H r Q

section
variable {α β γ δ : Type} {R : List Addr → Hp → α → β → Prop} {R' : List Addr → Hp → γ → δ → Prop} {c : Ct} {m m1 : List Addr} {H H1 : Hp} {h1 : Hq}
theorem Sim.shift {r : Res α} {Q : β → Hp → Prop} (S : Sim R c m H r Q) (s : Step c.hd m H m1 H1) (k : RH c m1 H1 h1) : Sim R c m1 H1 r Q := by
  cases r with
  | ok a h' => exact fun m' H' b t g q => S m' H' b (s.trans k t) g q
  | exc x σe h' => exact fun m' H' cls da σ' t g q => S m' H' cls da σ' (s.trans k t) g q
  | no => exact S
/-- first r, then f of what it gives -/
theorem Sim.bind {r : Res α} {f : α → Hq → Res γ} {Q : δ → Hp → Prop} {P : β → Hp → Prop} (S : Sim R' c m H (r.bind f) Q)
    (k : ∀ a h1 m1 H1 b, Step c.hd m H m1 H1 → RH c m1 H1 h1 → R m1 H1 a b → Sim R' c m1 H1 (f a h1) Q → P b H1) : Sim R c m H r P := by
  cases r with
  | ok a h' => exact fun m' H' b t g q => k a h' m' H' b t g q (Sim.shift S t g)
  | exc x σe h' => exact S
  | no => exact S
theorem Sim.ok_ {a : α} {h : Hq} {b : β} {Q : β → Hp → Prop} (S : Sim R c m H (.ok a h) Q) (k : RH c m H h) (r : R m H a b) : Q b H := S m H b .refl k r
end

/-! ### readings by the evaluator -/
def rE (c : Ct) (x : Ex) : TE := fun σ H Q => ∃ m h σd, Rel c m h σd σ H ∧ SimD c m H (x σd h) Q
def rT (c : Ct) (x : Tx) : TT := fun σ H Q => ∃ m h σd, Rel c m h σd σ H ∧ SimB c m H (x σd h) Q
def rA (c : Ct) (x : Ax) : TA := fun σ H Q => ∃ m h σd, Rel c m h σd σ H ∧ SimA c m H (x σd h) Q
end Px
/-! P3: operations by values -/
namespace Px
open PySem L2

theorem big_line : sizeLine = big := sizeLine_eq
section
variable {c : Ct} {m : List Addr} {H : Hp} {h : Hq}

theorem TupAt.sq {K : PySem.W.Frag} {a : Addr} {vs : List V} (t : TupAt m H a vs) : SqT K H a vs := .inl (.inl t.1)
theorem ScrAt.sq {K : PySem.W.Frag} {a : Addr} {vs : List V} (t : ScrAt K m H a vs) : SqL K H a vs := by
  rcases t with ⟨t, _⟩ | t
  · exact .inl t
  · exact .inr t

theorem getL_ok {d : D} {v : V} {xs : List D} (r : RH c m H h) (k : RD c.K c.H0 m H d v) (e : getL h d = some xs) : ∃ a vs, v = .ref a ∧ H a = some (.lst vs) ∧ RDs c.K c.H0 m H xs vs := by
  cases d with
  | lst w ys =>
    obtain ⟨a, vs, rfl, t, _, _, q⟩ := rd_lst.mp k
    simp only [getL, Option.some.injEq] at e
    subst e
    exact ⟨a, vs, rfl, t, q⟩
  | ref i =>
    simp only [getL] at e
    split at e
    · rename_i ys he
      simp only [Option.some.injEq] at e
      subst e
      obtain ⟨a, rfl, _, vs, t, q⟩ := r.atRef he k
      exact ⟨a, vs, rfl, t, q⟩
    · cases e
  | _ => simp [getL] at e
theorem getS_ok {d : D} {v : V} {xs : List D} (r : RH c m H h) (k : RD c.K c.H0 m H d v) (e : getS h d = some xs) : ∃ a vs, v = .ref a ∧ (SqL c.K H a vs ∨ SqT c.K H a vs) ∧ RDs c.K c.H0 m H xs vs := by
  cases d with
  | tup ys =>
    obtain ⟨a, vs, rfl, t, q⟩ := rd_tup.mp k
    simp only [getS, Option.some.injEq] at e
    subst e
    exact ⟨a, vs, rfl, .inr t.sq, q⟩
  | lst w ys =>
    obtain ⟨a, vs, e1, t, q⟩ := getL_ok r k (show getL h (.lst w ys) = some xs from e)
    exact ⟨a, vs, e1, .inl (SqL.of t), q⟩
  | ref i =>
    obtain ⟨a, vs, e1, t, q⟩ := getL_ok r k (show getL h (.ref i) = some xs from e)
    exact ⟨a, vs, e1, .inl (SqL.of t), q⟩
  | _ => simp [getS, getL] at e

/-! ### a new object, a changed one -/
theorem dom_upd {p : Addr} {o : HO} {B : Hp} (d : ∀ a, H a = none → B a = none) : ∀ a, upd H p o a = none → B a = none := fun a q => by
  by_cases e : a = p
  · subst e; rw [upd_same] at q; cases q
  · rw [upd_ne e] at q; exact d a q
theorem Step.new {hd : List Addr} {p : Addr} {o : HO} (hp : H p = none) : Step hd m H (m ++ [p]) (upd H p o) :=
  ⟨⟨[p], rfl, fun a ha => by rw [List.mem_singleton.mp ha]; exact hp⟩, fun a u e _ => by rw [upd_ne (ne_of_none e hp)]; exact e, fun a u e _ => by rw [upd_ne (ne_of_none e hp)]; exact e⟩
theorem Step.mut {hd : List Addr} {p : Addr} {o : HO} (hp : p ∈ m) (nh : p ∉ hd) : Step hd m H m (upd H p o) :=
  ⟨⟨[], by simp, by simp⟩, fun a u e n => by rw [upd_ne (by rintro rfl; exact n hp)]; exact e, fun a u e n => by rw [upd_ne (by rintro rfl; exact nh n)]; exact e⟩
/-- an untracked one (of a kind of list) is laid or changed -/
theorem RO.step {hd m' : List Addr} {H' : Hp} {o : O} {a : Addr} (r : RH c m H h) (k : RO c m H o a) (s : Step hd m H m' H') (e : H' a = H a) : RO c m' H' o a := by
  cases o with
  | lst xs => obtain ⟨vs, q, z⟩ := k; exact ⟨vs, by rw [e]; exact q, RDs.step s xs z⟩
  | dK xs => obtain ⟨vs, q, z1, z2⟩ := k; exact ⟨vs, by rw [e]; exact q, z1, RDs.step s _ z2⟩
  | dT xs => obtain ⟨vs, q, z1, z2⟩ := k; exact ⟨vs, by rw [e]; exact q, z1, RDs.step s _ z2⟩
  | ins n fs =>
    obtain ⟨C, dx, zs, q1, q2, q3, z1, z2⟩ := k
    exact ⟨C, dx, zs, q1, by rw [e]; exact q2, s.keep dx _ q3 (r.noown q3), z1, RDs.step s _ z2⟩
  | hid => obtain ⟨vs, q⟩ := k; exact ⟨vs, by rw [e]; exact q⟩
theorem RH.new (r : RH c m H h) {p : Addr} {o : O} {ho : HO} (hp : H p = none) (k : RO c (m ++ [p]) (upd H p ho) o p) : RH c (m ++ [p]) (upd H p ho) (h ++ [o]) := by
  have np : p ∉ m := fun q => r.live q hp
  refine ⟨by simp [r.len], ?_, fun i o' a e1 e2 => ?_, fun a ha => ?_, dom_upd r.dom⟩
  rotate_left 2
  · obtain ⟨i, e1, e2⟩ := r.hid a ha
    exact ⟨i, by rw [List.getElem?_append_left (List.getElem?_eq_some_iff.mp e1).1]; exact e1, by rw [List.getElem?_append_left (List.getElem?_eq_some_iff.mp e2).1]; exact e2⟩
  · rw [List.nodup_append]
    refine ⟨r.nd, by simp, fun a ha b hb => ?_⟩
    rw [List.mem_singleton.mp hb]
    rintro rfl
    exact np ha
  · by_cases hi : i < h.length
    · rw [List.getElem?_append_left hi] at e1
      rw [List.getElem?_append_left (by rw [← r.len]; exact hi)] at e2
      have ha : a ≠ p := by rintro rfl; exact np (List.mem_of_getElem? e2)
      exact (r.obj i o' a e1 e2).step r (Step.new (hd := []) hp) (upd_ne ha)
    · have hi' : i = h.length := by
        have := (List.getElem?_eq_some_iff.mp e1).1
        simp at this
        omega
      subst hi'
      rw [List.getElem?_append_right (Nat.le_refl _)] at e1
      rw [List.getElem?_append_right (by rw [r.len]; exact Nat.le_refl _)] at e2
      simp at e1
      rw [r.len] at e2
      simp at e2
      subst e1 e2
      exact k
theorem nodup_ixA {N : List Addr} (hN : N.Nodup) {i j : Nat} {x : Addr} (a : N[i]? = some x) (b : N[j]? = some x) : i = j := by
  obtain ⟨h1, e1⟩ := List.getElem?_eq_some_iff.mp a
  obtain ⟨h2, e2⟩ := List.getElem?_eq_some_iff.mp b
  exact (List.getElem_inj hN).mp (e1.trans e2.symm)
/-- what is not being made may be changed -/
theorem RH.nohid (r : RH c m H h) {i : Nat} {p : Addr} {o : O} (hi : m[i]? = some p) (ho : h[i]? = some o) (n : o ≠ .hid) : p ∉ c.hd := fun q => by
  obtain ⟨j, e1, e2⟩ := r.hid p q
  have := nodup_ixA r.nd hi e1
  subst this
  rw [ho] at e2
  exact n (Option.some.inj e2)
theorem RH.mut (r : RH c m H h) {i : Nat} {p : Addr} {o : O} {ho : HO} (hi : m[i]? = some p) (nh : p ∉ c.hd) (k : RO c m (upd H p ho) o p) : RH c m (upd H p ho) (h.set i o) := by
  have hm : p ∈ m := List.mem_of_getElem? hi
  refine ⟨by simp [r.len], r.nd, fun j o' a e1 e2 => ?_, fun a ha => ?_, dom_upd r.dom⟩
  rotate_left 1
  · obtain ⟨j, e1, e2⟩ := r.hid a ha
    refine ⟨j, e1, ?_⟩
    rw [List.getElem?_set_ne ?_]
    · exact e2
    · rintro rfl
      rw [hi] at e1
      cases e1
      exact nh ha
  by_cases hj : i = j
  · subst hj
    rw [hi] at e2
    cases e2
    rw [List.getElem?_set_self (by have := (List.getElem?_eq_some_iff.mp hi).1; rw [r.len]; exact this)] at e1
    cases e1
    exact k
  · rw [List.getElem?_set_ne hj] at e1
    have ha : a ≠ p := by
      rintro rfl
      exact hj (nodup_ixA r.nd hi e2)
    exact (r.obj j o' a e1 e2).step r (Step.mut (hd := []) hm (by simp)) (upd_ne ha)
/-- a new list, tuple .. is the answer -/
theorem new_ok {o : O} {ho : HO} {p : Addr} {Q : VK} (r : RH c m H h) (hp : H p = none) (k : RO c (m ++ [p]) (upd H p ho) o p) (S : SimD c m H (new o h) Q) : Q (.ref p) (upd H p ho) :=
  S (m ++ [p]) (upd H p ho) (.ref p) (.new hp) (r.new hp k) (rd_ref.mpr ⟨p, rfl, by rw [r.len]; simp⟩)
theorem new_lst {xs : List D} {vs : List V} {p : Addr} {Q : VK} (r : RH c m H h) (hp : H p = none) (k : RDs c.K c.H0 m H xs vs) (S : SimD c m H (new (.lst xs) h) Q) : Q (.ref p) (upd H p (.lst vs)) :=
  new_ok (o := .lst xs) r hp ⟨vs, upd_same, RDs.step (hd := []) (.new hp) xs k⟩ S
/-- a tuple is laid: no number -/
theorem Step.lay {hd : List Addr} {p : Addr} {o : HO} (hp : H p = none) : Step hd m H m (upd H p o) := ⟨⟨[], by simp, by simp⟩, fun a u e _ => by rw [upd_ne (ne_of_none e hp)]; exact e, fun a u e _ => by rw [upd_ne (ne_of_none e hp)]; exact e⟩
theorem RH.lay (r : RH c m H h) {p : Addr} {o : HO} (hp : H p = none) : RH c m (upd H p o) h :=
  ⟨r.len, r.nd, fun i o' a e1 e2 => (r.obj i o' a e1 e2).step r (Step.lay (hd := []) hp) (upd_ne (fun z => r.live (List.mem_of_getElem? e2) (z ▸ hp))), r.hid, dom_upd r.dom⟩
theorem lay_tup {xs : List D} {vs : List V} {p : Addr} {Q : VK} (r : RH c m H h) (hp : H p = none) (k : RDs c.K c.H0 m H xs vs) (S : SimD c m H (.ok (.tup xs) h) Q) : Q (.ref p) (upd H p (.tup vs)) :=
  S m (upd H p (.tup vs)) (.ref p) (.lay hp) (r.lay hp) (rd_tup.mpr ⟨p, vs, rfl, ⟨upd_same, fun z => r.live z hp⟩, RDs.step (hd := []) (.lay hp) xs k⟩)
end

/-! ### binary operations -/
def opPy : Op → Operator
  | .add => .Add | .sub => .Sub | .mul => .Mult | .fdiv => .FloorDiv | .mod => .Mod | .pow => .Pow
def rBin (c : Ct) (f : D → D → Hq → Res D) : R2 := fun x y H Q => ∃ m h d e, RH c m H h ∧ RD c.K c.H0 m H d x ∧ RD c.K c.H0 m H e y ∧ SimD c m H (f d e h) Q

theorem toS_len {s : Cs} : (toS s).length = s.length := by simp [Str.length]
theorem toS_app {a b : Cs} : toS a ++ toS b = toS (a ++ b) := by
  show Str.append _ _ = _
  simp [Str.append]

section
variable {X : Cx} {c : Ct}
theorem opB_ok (hK : X.K = c.K) (o : Op) : OpR X (binaryOp (opPy o)) (rBin c (opB o)) := by
  intro pins s σ H x y v u Q I rx ry hq
  obtain ⟨m, h, d, e, r, kd, ke, S⟩ := hq
  cases o with
  | add =>
    simp only [opB] at S
    split at S
    · rw [rd_int] at kd ke
      exact op_add pins s σ H x y v u Q I rx ry ⟨_, _, kd, ke, S.ok_ r (rd_int.mpr rfl)⟩
    · rw [rd_str] at kd ke
      split at S
      · rename_i hz
        exact op_add_str pins s σ H x y v u Q I rx ry ⟨_, _, kd, ke, by rw [toS_len, toS_len, big_line]; exact hz, S.ok_ r (by rw [rd_str, toS_app])⟩
      · exact S.elim
    · split at S
      · exact S.elim
      · rename_i xs ys hn
        split at S
        · rename_i hz
          obtain ⟨a, vs, rfl, ta, qa⟩ := rd_tup.mp kd
          obtain ⟨b, ws, rfl, tb, qb⟩ := rd_tup.mp ke
          simp only [Bool.or_eq_true, not_or, Bool.not_eq_true, List.isEmpty_eq_false_iff] at hn
          have l1 := qa.length
          have l2 := qb.length
          have n1 : vs ≠ [] := by rintro rfl; exact hn.1 (List.eq_nil_of_length_eq_zero l1)
          have n2 : ws ≠ [] := by rintro rfl; exact hn.2 (List.eq_nil_of_length_eq_zero l2)
          refine op_catT pins s σ H _ _ v u Q I rx ry ⟨a, b, vs, ws, rfl, rfl, by rw [hK]; exact ta.sq, by rw [hK]; exact tb.sq, n1, by rw [big_line, ← l1, ← l2]; exact hz, ?_⟩
          exact ⟨fun z => absurd z n2, fun _ p hp => lay_tup r hp (qa.append qb) S⟩
        · exact S.elim
    · split at S
      · rename_i xs ys e1 e2
        split at S
        · rename_i hz
          obtain ⟨a, vs, rfl, ta, qa⟩ := getL_ok r kd e1
          obtain ⟨b, ws, rfl, tb, qb⟩ := getL_ok r ke e2
          refine op_cat pins s σ H _ _ v u Q I rx ry ⟨a, b, vs, ws, rfl, rfl, ta, tb, by rw [big_line, ← qa.length, ← qb.length]; exact hz, fun p hp => new_lst r hp (qa.append qb) S⟩
        · exact S.elim
      · exact S.elim
  | sub =>
    simp only [opB] at S
    split at S
    · rw [rd_int] at kd ke
      exact op_sub pins s σ H x y v u Q I rx ry ⟨_, _, kd, ke, S.ok_ r (rd_int.mpr rfl)⟩
    · exact S.elim
  | mul =>
    simp only [opB] at S
    split at S
    · rw [rd_int] at kd ke
      split at S
      · rename_i hz
        simp only [Bool.or_eq_true, Bool.and_eq_true, decide_eq_true_eq] at hz
        exact op_mul pins s σ H x y v u Q I rx ry ⟨_, _, kd, ke, by simpa only [CMul, Int.reducePow, Int.reduceNeg] using hz, S.ok_ r (rd_int.mpr rfl)⟩
      · exact S.elim
    · exact S.elim
  | fdiv =>
    simp only [opB] at S
    split at S
    · rw [rd_int] at kd ke
      split at S
      · rename_i hz
        simp only [Bool.and_eq_true, decide_eq_true_eq] at hz
        exact op_fdiv pins s σ H x y v u Q I rx ry ⟨_, _, kd, ke, hz, S.ok_ r (rd_int.mpr rfl)⟩
      · exact S.elim
    · exact S.elim
  | mod =>
    simp only [opB] at S
    split at S
    · rw [rd_int] at kd ke
      split at S
      · rename_i hz
        exact op_mod pins s σ H x y v u Q I rx ry ⟨_, _, kd, ke, hz, S.ok_ r (rd_int.mpr rfl)⟩
      · exact S.elim
    · exact S.elim
  | pow =>
    simp only [opB] at S
    split at S
    · rw [rd_int] at kd ke
      split at S
      · rename_i hz
        simp only [Bool.and_eq_true, decide_eq_true_eq] at hz
        exact op_pow pins s σ H x y v u Q I rx ry ⟨_, _, kd, ke, ⟨hz.1.1, hz.1.2, by have := hz.2; omega⟩, S.ok_ r (rd_int.mpr rfl)⟩
      · exact S.elim
    · exact S.elim
/-- in place -/
theorem opI_ok (o : Op) : OpR X (inplaceOp (opPy o)) (rBin c (opI o)) := by
  intro pins s σ H x y v u Q I rx ry hq
  obtain ⟨m, h, d, e, r, kd, ke, S⟩ := hq
  unfold opI at S
  split at S
  · rw [rd_int] at kd ke
    exact ip_add pins s σ H x y v u Q I rx ry ⟨_, _, kd, ke, S.ok_ r (rd_int.mpr rfl)⟩
  · rw [rd_str] at kd ke
    split at S
    · rename_i hz
      exact iop_add_str pins s σ H x y v u Q I rx ry ⟨_, _, kd, ke, by rw [toS_len, toS_len, big_line]; exact hz, S.ok_ r (by rw [rd_str, toS_app])⟩
    · exact S.elim
  · rw [rd_int] at kd ke
    exact ip_sub pins s σ H x y v u Q I rx ry ⟨_, _, kd, ke, S.ok_ r (rd_int.mpr rfl)⟩
  · exact S.elim
end

/-! ### equality -/
def dle : Nat → D → Prop
  | 0, _ => False
  | n + 1, d => match d with
    | .tup xs => ∀ x ∈ xs, dle n x
    | .lst _ xs => ∀ x ∈ xs, dle n x
    | .ref _ => False
    | .scr _ => False
    | _ => True
theorem mapO_mem {α β : Type} {f : α → Option β} : ∀ {xs : List α} {ys : List β}, mapO f xs = some ys → ∀ y ∈ ys, ∃ x ∈ xs, f x = some y
  | [], _, e, y, hy => by simp [mapO] at e; subst e; cases hy
  | x :: xs, ys, e, y, hy => by
    simp only [mapO] at e
    split at e
    · cases e
    · rename_i z hz
      split at e
      · cases e
      · rename_i zs hzs
        simp only [Option.some.injEq] at e
        subst e
        rcases List.mem_cons.mp hy with rfl | hy
        · exact ⟨x, List.mem_cons_self, hz⟩
        · obtain ⟨w, hw, q⟩ := mapO_mem hzs y hy
          exact ⟨w, List.mem_cons_of_mem _ hw, q⟩
theorem frz_dle {h : Hq} {w : Bool} : ∀ (n : Nat) {d e : D}, frz h w n d = some e → dle n e
  | 0, _, _, q => by simp [frz] at q
  | n + 1, d, e, q => by
    have ih : ∀ {xs ys : List D}, mapO (frz h w n) xs = some ys → ∀ y ∈ ys, dle n y := fun q y hy => by
      obtain ⟨x, _, z⟩ := mapO_mem q y hy
      exact frz_dle n z
    unfold frz at q
    cases d with
    | tup xs =>
      simp only at q
      split at q
      · rename_i ys hy
        simp only [Option.some.injEq] at q
        subst q
        exact ih hy
      · cases q
    | lst b xs =>
      simp only at q
      split at q
      · cases q
      · split at q
        · rename_i ys hy
          simp only [Option.some.injEq] at q
          subst q
          exact ih hy
        · cases q
    | ref i =>
      simp only at q
      split at q
      · split at q
        · rename_i ys hy
          simp only [Option.some.injEq] at q
          subst q
          exact ih hy
        · cases q
      · cases q
    | scr ns => simp at q
    | _ => simp at q; subst q; trivial
/-- what is read is the same thing, seen from a place with no numbers -/
theorem rds_mapO {c : Ct} {m : List Addr} {H : Hp} {K' : PySem.W.Frag} {H0' : Hp} {m' : List Addr} {f : D → Option D} (F : ∀ d e v, f d = some e → RD c.K c.H0 m H d v → RD K' H0' m' H e v) :
    ∀ {xs ys : List D} {vs : List V}, mapO f xs = some ys → RDs c.K c.H0 m H xs vs → RDs K' H0' m' H ys vs
  | [], _, _, e, r => by simp [mapO] at e; subst e; rw [rds_nil.mp r]; exact rds_nil.mpr rfl
  | x :: xs, ys, _, e, r => by
    obtain ⟨v, t, rfl, h1, h2⟩ := rds_cons.mp r
    simp only [mapO] at e
    split at e
    · cases e
    · rename_i z hz
      split at e
      · cases e
      · rename_i zs hzs
        simp only [Option.some.injEq] at e
        subst e
        exact rds_cons.mpr ⟨v, t, rfl, F _ _ _ hz h1, rds_mapO F hzs h2⟩
theorem frz_true {c : Ct} {m : List Addr} {H : Hp} {h : Hq} (r : RH c m H h) (H0' : Hp) : ∀ (n : Nat) {d e : D} {v : V}, frz h true n d = some e → RD c.K c.H0 m H d v → RD c.K H0' [] H e v
  | 0, _, _, _, q, _ => by simp [frz] at q
  | n + 1, d, e, v, q, k => by
    have ih : ∀ {xs ys : List D} {vs : List V}, mapO (frz h true n) xs = some ys → RDs c.K c.H0 m H xs vs → RDs c.K H0' [] H ys vs := fun q k => rds_mapO (fun d e v q k => frz_true r H0' n q k) q k
    unfold frz at q
    cases d with
    | tup xs =>
      simp only at q
      split at q
      · rename_i ys hy
        simp only [Option.some.injEq] at q
        subst q
        obtain ⟨a, vs, rfl, t, z⟩ := rd_tup.mp k
        exact rd_tup.mpr ⟨a, vs, rfl, ⟨t.1, by simp⟩, ih hy z⟩
      · cases q
    | lst b xs =>
      simp only at q
      split at q
      · cases q
      · split at q
        · rename_i ys hy
          simp only [Option.some.injEq] at q
          subst q
          obtain ⟨a, vs, rfl, t, _, _, z⟩ := rd_lst.mp k
          exact rd_lst.mpr ⟨a, vs, rfl, t, by simp, (fun z => nomatch z), ih hy z⟩
        · cases q
    | ref i =>
      simp only at q
      split at q
      · rename_i xs hx
        split at q
        · rename_i ys hy
          simp only [Option.some.injEq] at q
          subst q
          obtain ⟨a, rfl, _, vs, t, z⟩ := r.atRef hx k
          exact rd_lst.mpr ⟨a, vs, rfl, t, by simp, (fun z => nomatch z), ih hy z⟩
        · cases q
      · cases q
    | scr ns => simp at q
    | non => simp at q; subst q; exact rd_non.mpr (rd_non.mp k)
    | bl b => simp at q; subst q; exact rd_bl.mpr (rd_bl.mp k)
    | int b => simp at q; subst q; exact rd_int.mpr (rd_int.mp k)
    | str b => simp at q; subst q; exact rd_str.mpr (rd_str.mp k)

theorem deqs_len : ∀ {xs ys : List D}, deqs xs ys = true → xs.length = ys.length
  | [], [], _ => rfl
  | [], _ :: _, h => by simp [deqs] at h
  | _ :: _, [], h => by simp [deqs] at h
  | x :: xs, y :: ys, h => by
    simp only [deqs, Bool.and_eq_true] at h
    simp [deqs_len h.2]
def atD (xs ys : List D) (j : Nat) : Bool := match xs[j]?, ys[j]? with
  | some x, some y => deq x y
  | _, _ => false
theorem deqs_range : ∀ (xs ys : List D), ((List.range (min xs.length ys.length)).all (atD xs ys) && xs.length == ys.length) = deqs xs ys
  | [], [] => by simp [deqs]
  | [], _ :: _ => by simp [deqs]
  | _ :: _, [] => by simp [deqs]
  | x :: xs, y :: ys => by
    have ih := deqs_range xs ys
    have e : min (x :: xs).length (y :: ys).length = (min xs.length ys.length) + 1 := by simp only [List.length_cons]; omega
    rw [e, List.range_succ_eq_map, List.all_cons, List.all_map]
    have e2 : (atD (x :: xs) (y :: ys)) ∘ Nat.succ = atD xs ys := by funext j; simp [atD]
    have e3 : atD (x :: xs) (y :: ys) 0 = deq x y := by simp [atD]
    rw [e2, e3]
    simp only [deqs, ← ih, List.length_cons]
    rw [Bool.and_assoc]
    congr 2
    rw [Bool.eq_iff_iff]
    simp
theorem deqs_range' {xs ys : List D} (h : xs.length = ys.length) : (List.range xs.length).all (atD xs ys) = deqs xs ys := by
  rw [← deqs_range xs ys, h, Nat.min_self]
  simp
theorem deqs_ne {xs ys : List D} (h : xs.length ≠ ys.length) : deqs xs ys = false := by
  cases e : deqs xs ys with
  | false => rfl
  | true => exact absurd (deqs_len e) h

section
variable {K : PySem.W.Frag} {H0 : Hp} {X : Cx} {pins : List (Addr × Obj)} {σ : L2.St} {H : Hp} {s : Shared}
theorem tup_of (hK : X.K = K) (I : Inv X pins σ H s) {a : Addr} {vs : List V} (t : TupAt [] H a vs) : ∃ its : List Value, Vals vs its ∧ s.heap.IsTuple a its.toArray := by
  obtain ⟨its, rv, ht, _⟩ := I.tuple (by rw [hK]; exact t.sq)
  exact ⟨its, rv, ht⟩
theorem lst_of (I : Inv X pins σ H s) {a : Addr} {vs : List V} (t : H a = some (.lst vs)) : ∃ its : List Value, Vals vs its ∧ s.heap.IsList a its.toArray := by
  obtain ⟨its, rv, ht, _⟩ := I.list (SqL.of t)
  exact ⟨its, rv, ht.isList⟩
/-- one thing is read in one way -/
theorem deq_one (hK : X.K = K) (I : Inv X pins σ H s) : ∀ (n : Nat) {d e : D} {v : V}, dle n d → dle n e → RD K H0 [] H d v → RD K H0 [] H e v → deq d e = true
  | 0, _, _, _, l, _, _, _ => l.elim
  | n + 1, d, e, v, l1, l2, k1, k2 => by
    have all : ∀ {xs ys : List D} {vs : List V}, (∀ x ∈ xs, dle n x) → (∀ x ∈ ys, dle n x) → RDs K H0 [] H xs vs → RDs K H0 [] H ys vs → deqs xs ys = true := by
      intro xs
      induction xs with
      | nil =>
        intro ys vs _ _ r1 r2
        rw [rds_nil.mp r1] at r2
        cases ys with
        | nil => simp [deqs]
        | cons y ys => obtain ⟨_, _, q, _⟩ := rds_cons.mp r2; cases q
      | cons x xs ih =>
        intro ys vs a1 a2 r1 r2
        obtain ⟨w, ws, rfl, q1, q2⟩ := rds_cons.mp r1
        cases ys with
        | nil => have := rds_nil.mp r2; cases this
        | cons y ys =>
          obtain ⟨_, _, z, p1, p2⟩ := rds_cons.mp r2
          cases z
          simp only [deqs, Bool.and_eq_true]
          exact ⟨deq_one hK I n (a1 x List.mem_cons_self) (a2 y List.mem_cons_self) q1 p1, ih (fun x hx => a1 x (List.mem_cons_of_mem _ hx)) (fun x hx => a2 x (List.mem_cons_of_mem _ hx)) q2 p2⟩
    cases d with
    | ref i => exact l1.elim
    | scr i => exact l1.elim
    | non =>
      rw [rd_non] at k1
      subst k1
      cases e with
      | non => rfl
      | ref i => exact l2.elim
      | scr i => exact l2.elim
      | bl b => have := rd_bl.mp k2; cases this
      | int b => have := rd_int.mp k2; cases this
      | str b => have := rd_str.mp k2; cases this
      | tup b => obtain ⟨_, _, z, _⟩ := rd_tup.mp k2; cases z
      | lst w b => obtain ⟨_, _, z, _⟩ := rd_lst.mp k2; cases z
    | bl x =>
      rw [rd_bl] at k1
      subst k1
      cases e with
      | non => have := rd_non.mp k2; cases this
      | ref i => exact l2.elim
      | scr i => exact l2.elim
      | bl b => have := rd_bl.mp k2; cases this; simp [deq]
      | int b => have := rd_int.mp k2; cases this
      | str b => have := rd_str.mp k2; cases this
      | tup b => obtain ⟨_, _, z, _⟩ := rd_tup.mp k2; cases z
      | lst w b => obtain ⟨_, _, z, _⟩ := rd_lst.mp k2; cases z
    | int x =>
      rw [rd_int] at k1
      subst k1
      cases e with
      | non => have := rd_non.mp k2; cases this
      | ref i => exact l2.elim
      | scr i => exact l2.elim
      | bl b => have := rd_bl.mp k2; cases this
      | int b => have := rd_int.mp k2; cases this; simp [deq]
      | str b => have := rd_str.mp k2; cases this
      | tup b => obtain ⟨_, _, z, _⟩ := rd_tup.mp k2; cases z
      | lst w b => obtain ⟨_, _, z, _⟩ := rd_lst.mp k2; cases z
    | str x =>
      rw [rd_str] at k1
      subst k1
      cases e with
      | non => have := rd_non.mp k2; cases this
      | ref i => exact l2.elim
      | scr i => exact l2.elim
      | bl b => have := rd_bl.mp k2; cases this
      | int b => have := rd_int.mp k2; cases this
      | str b => have := rd_str.mp k2; simp at this; subst this; simp [deq]
      | tup b => obtain ⟨_, _, z, _⟩ := rd_tup.mp k2; cases z
      | lst w b => obtain ⟨_, _, z, _⟩ := rd_lst.mp k2; cases z
    | tup x =>
      obtain ⟨a, vs, rfl, t, q⟩ := rd_tup.mp k1
      cases e with
      | non => have := rd_non.mp k2; cases this
      | ref i => exact l2.elim
      | scr i => exact l2.elim
      | bl b => have := rd_bl.mp k2; cases this
      | int b => have := rd_int.mp k2; cases this
      | str b => have := rd_str.mp k2; cases this
      | tup b =>
        obtain ⟨a', ws, z, t', q'⟩ := rd_tup.mp k2
        cases z
        have := I.tuple_inj (by rw [hK]; exact t.sq) (by rw [hK]; exact t'.sq)
        subst this
        exact all l1 l2 q q'
      | lst w b =>
        obtain ⟨a', ws, z, t', _, _, q'⟩ := rd_lst.mp k2
        cases z
        obtain ⟨its, _, o, h1, h2, _⟩ := tup_of hK I t
        obtain ⟨its', _, o', h1', h2', _⟩ := lst_of I t'
        rw [h1] at h1'
        cases h1'
        rw [h2] at h2'
        simp at h2'
    | lst w x =>
      obtain ⟨a, vs, rfl, t, _, _, q⟩ := rd_lst.mp k1
      cases e with
      | non => have := rd_non.mp k2; cases this
      | ref i => exact l2.elim
      | scr i => exact l2.elim
      | bl b => have := rd_bl.mp k2; cases this
      | int b => have := rd_int.mp k2; cases this
      | str b => have := rd_str.mp k2; cases this
      | lst w' b =>
        obtain ⟨a', ws, z, t', _, _, q'⟩ := rd_lst.mp k2
        cases z
        rw [t] at t'
        cases t'
        exact all l1 l2 q q'
      | tup b =>
        obtain ⟨a', ws, z, t', q'⟩ := rd_tup.mp k2
        cases z
        obtain ⟨its, _, o, h1, h2, _⟩ := tup_of hK I t'
        obtain ⟨its', _, o', h1', h2', _⟩ := lst_of I t
        rw [h1] at h1'
        cases h1'
        rw [h2] at h2'
        simp at h2'
theorem beq_toS {a b : Cs} : (toS a == toS b) = (a == b) := by
  rw [Bool.eq_iff_iff]
  simp
open SeqAt in
theorem items_at {A : Around} (F : ∀ {d e : D} {v w : V} {u z : Value}, RD K H0 [] H d v → RD K H0 [] H e w → RelV v u → RelV w z → EqAt A.in1 s u z (deq d e)) :
    ∀ {xs ys : List D} {vs ws : List V} {us zs : List Value}, RDs K H0 [] H xs vs → RDs K H0 [] H ys ws → Vals vs us → Vals ws zs → ∀ j (h1 : j < us.toArray.size) (h2 : j < zs.toArray.size), EqAt A.in1 s us.toArray[j] zs.toArray[j] (atD xs ys j) := by
  intro xs ys vs ws us zs r1 r2 q1 q2 j h1 h2
  have l1 := q1.length
  have l2 := q2.length
  have n1 := r1.length
  have n2 := r2.length
  simp only [List.size_toArray] at h1 h2
  have j1 : j < xs.length := by omega
  have j2 : j < ys.length := by omega
  obtain ⟨v, e1, k1⟩ := r1.get (List.getElem?_eq_getElem j1)
  obtain ⟨w, e2, k2⟩ := r2.get (List.getElem?_eq_getElem j2)
  obtain ⟨u, e3, k3⟩ := q1.get e1
  obtain ⟨z, e4, k4⟩ := q2.get e2
  have := F k1 k2 k3 k4
  have a1 : us.toArray[j] = u := by
    rw [List.getElem?_eq_getElem h1] at e3
    simpa using e3
  have a2 : zs.toArray[j] = z := by
    rw [List.getElem?_eq_getElem h2] at e4
    simpa using e4
  rw [a1, a2]
  simpa [atD, List.getElem?_eq_getElem j1, List.getElem?_eq_getElem j2] using this
end
end Px
/-! P4: comparisons, items, built-ins by values -/
namespace Px
open PySem L2

section
variable {K : PySem.W.Frag} {H0 : Hp} {X : Cx} {pins : List (Addr × Obj)} {σ : L2.St} {H : Hp} {s : Shared}
open SeqAt in
theorem eqAt_d (hK : X.K = K) (I : Inv X pins σ H s) : ∀ (n : Nat) {A : Around} {d e : D} {v w : V} {u z : Value}, dle n d → dle n e → RD K H0 [] H d v → RD K H0 [] H e w → RelV v u → RelV w z → A.units + n < cLine → EqAt A s u z (deq d e)
  | 0, _, _, _, _, _, _, _, l, _, _, _, _, _, _ => l.elim
  | n + 1, A, d, e, v, w, u, z, l1, l2, k1, k2, r1, r2, hu => by
    have hu0 : A.units < cLine := by omega
    have hu1 : A.in1.units + n < cLine := by show A.units + 1 + n < cLine; omega
    have same : ∀ {xs ys : List D} {vs ws : List V} {us zs : List Value}, (∀ x ∈ xs, dle n x) → (∀ x ∈ ys, dle n x) → RDs K H0 [] H xs vs → RDs K H0 [] H ys ws → Vals vs us → Vals ws zs →
        ∀ j (h1 : j < us.toArray.size) (h2 : j < zs.toArray.size), EqAt A.in1 s us.toArray[j] zs.toArray[j] (atD xs ys j) := by
      intro xs ys vs ws us zs a1 a2 q1 q2 p1 p2 j h1 h2
      have c1 := p1.length
      have c2 := p2.length
      have n1 := q1.length
      have n2 := q2.length
      simp only [List.size_toArray] at h1 h2
      have j1 : j < xs.length := by omega
      have j2 : j < ys.length := by omega
      obtain ⟨v, e1, k1⟩ := q1.get (List.getElem?_eq_getElem j1)
      obtain ⟨w, e2, k2⟩ := q2.get (List.getElem?_eq_getElem j2)
      obtain ⟨u, e3, k3⟩ := p1.get e1
      obtain ⟨z, e4, k4⟩ := p2.get e2
      have := eqAt_d hK I n (A := A.in1) (a1 _ (List.getElem_mem j1)) (a2 _ (List.getElem_mem j2)) k1 k2 k3 k4 hu1
      have b1 : us.toArray[j] = u := by
        rw [List.getElem?_eq_getElem h1] at e3
        simpa using e3
      have b2 : zs.toArray[j] = z := by
        rw [List.getElem?_eq_getElem h2] at e4
        simpa using e4
      rw [b1, b2]
      simpa [atD, List.getElem?_eq_getElem j1, List.getElem?_eq_getElem j2] using this
    cases d with
    | ref i => exact l1.elim
    | scr i => exact l1.elim
    | non =>
      rw [rd_non] at k1
      subst k1
      cases r1
      cases e with
      | non => rw [rd_non] at k2; subst k2; cases r2; exact EqAt.same _
      | ref i => exact l2.elim
      | scr i => exact l2.elim
      | bl b => rw [rd_bl] at k2; subst k2; cases r2; exact EqAt.none_bool b
      | int b => rw [rd_int] at k2; subst k2; obtain ⟨t, rfl⟩ := r2; exact EqAt.none_int b t
      | str b => rw [rd_str] at k2; subst k2; obtain ⟨t, rfl⟩ := r2; exact EqAt.none_str _ t
      | tup b => obtain ⟨a, vs, rfl, t, q⟩ := rd_tup.mp k2; cases r2; obtain ⟨its, _, ht⟩ := tup_of hK I t; exact EqAt.none_tuple ht hu0
      | lst w b => obtain ⟨a, vs, rfl, t, _, _, q⟩ := rd_lst.mp k2; cases r2; obtain ⟨its, _, ht⟩ := lst_of I t; exact EqAt.none_list ht hu0
    | bl x =>
      rw [rd_bl] at k1
      subst k1
      cases r1
      cases e with
      | non => rw [rd_non] at k2; subst k2; cases r2; exact EqAt.bool_none x
      | ref i => exact l2.elim
      | scr i => exact l2.elim
      | bl b => rw [rd_bl] at k2; subst k2; cases r2; exact EqAt.bool_bool x b
      | int b => rw [rd_int] at k2; subst k2; obtain ⟨t, rfl⟩ := r2; exact EqAt.bool_int x b t
      | str b => rw [rd_str] at k2; subst k2; obtain ⟨t, rfl⟩ := r2; exact EqAt.bool_str x _ t
      | tup b => obtain ⟨a, vs, rfl, t, q⟩ := rd_tup.mp k2; cases r2; obtain ⟨its, _, ht⟩ := tup_of hK I t; exact EqAt.bool_tuple x ht hu0
      | lst w b => obtain ⟨a, vs, rfl, t, _, _, q⟩ := rd_lst.mp k2; cases r2; obtain ⟨its, _, ht⟩ := lst_of I t; exact EqAt.bool_list x ht hu0
    | int x =>
      rw [rd_int] at k1
      subst k1
      obtain ⟨t', rfl⟩ := r1
      cases e with
      | non => rw [rd_non] at k2; subst k2; cases r2; exact EqAt.int_none x t'
      | ref i => exact l2.elim
      | scr i => exact l2.elim
      | bl b => rw [rd_bl] at k2; subst k2; cases r2; exact EqAt.int_bool x t' b
      | int b => rw [rd_int] at k2; subst k2; obtain ⟨t, rfl⟩ := r2; exact EqAt.int_int x t' b t
      | str b => rw [rd_str] at k2; subst k2; obtain ⟨t, rfl⟩ := r2; exact EqAt.int_str x t' _ t
      | tup b => obtain ⟨a, vs, rfl, t, q⟩ := rd_tup.mp k2; cases r2; obtain ⟨its, _, ht⟩ := tup_of hK I t; exact EqAt.int_tuple x t' ht hu0
      | lst w b => obtain ⟨a, vs, rfl, t, _, _, q⟩ := rd_lst.mp k2; cases r2; obtain ⟨its, _, ht⟩ := lst_of I t; exact EqAt.int_list x t' ht hu0
    | str x =>
      rw [rd_str] at k1
      subst k1
      obtain ⟨t', rfl⟩ := r1
      cases e with
      | non => rw [rd_non] at k2; subst k2; cases r2; exact EqAt.str_none _ t'
      | ref i => exact l2.elim
      | scr i => exact l2.elim
      | bl b => rw [rd_bl] at k2; subst k2; cases r2; exact EqAt.str_bool _ t' b
      | int b => rw [rd_int] at k2; subst k2; obtain ⟨t, rfl⟩ := r2; exact EqAt.str_int _ t' b t
      | str b => rw [rd_str] at k2; subst k2; obtain ⟨t, rfl⟩ := r2; have := EqAt.str_str (A := A) (s := s) (toS x) t' (toS b) t; rw [beq_toS] at this; exact this
      | tup b => obtain ⟨a, vs, rfl, t, q⟩ := rd_tup.mp k2; cases r2; obtain ⟨its, _, ht⟩ := tup_of hK I t; exact EqAt.str_tuple _ t' ht hu0
      | lst w b => obtain ⟨a, vs, rfl, t, _, _, q⟩ := rd_lst.mp k2; cases r2; obtain ⟨its, _, ht⟩ := lst_of I t; exact EqAt.str_list _ t' ht hu0
    | tup x =>
      obtain ⟨a', vs', rfl, t', q'⟩ := rd_tup.mp k1
      cases r1
      obtain ⟨its', rv', ht'⟩ := tup_of hK I t'
      cases e with
      | non => rw [rd_non] at k2; subst k2; cases r2; exact EqAt.tuple_none ht' hu0
      | ref i => exact l2.elim
      | scr i => exact l2.elim
      | bl b => rw [rd_bl] at k2; subst k2; cases r2; exact EqAt.tuple_bool b ht' hu0
      | int b => rw [rd_int] at k2; subst k2; obtain ⟨t, rfl⟩ := r2; exact EqAt.tuple_int b t ht' hu0
      | str b => rw [rd_str] at k2; subst k2; obtain ⟨t, rfl⟩ := r2; exact EqAt.tuple_str _ t ht' hu0
      | lst w b => obtain ⟨a, vs, rfl, t, _, _, q⟩ := rd_lst.mp k2; cases r2; obtain ⟨its, _, ht⟩ := lst_of I t; exact EqAt.tuple_list ht' ht hu0
      | tup b =>
        obtain ⟨a, vs, rfl, t, q⟩ := rd_tup.mp k2
        cases r2
        obtain ⟨its, rv, ht⟩ := tup_of hK I t
        by_cases hne : a' = a
        · subst hne
          have := deq_one hK I (n + 1) l1 l2 k1 k2
          rw [this]
          exact EqAt.same _
        · have := RcAt.tuples ht' ht hu0 (same l1 l2 q' q rv' rv)
          rw [List.size_toArray, List.size_toArray, ← rv'.length, ← rv.length, ← q'.length, ← q.length, deqs_range] at this
          exact EqAt.of_refs hne this
    | lst w' x =>
      obtain ⟨a', vs', rfl, t', _, _, q'⟩ := rd_lst.mp k1
      cases r1
      obtain ⟨its', rv', ht'⟩ := lst_of I t'
      cases e with
      | non => rw [rd_non] at k2; subst k2; cases r2; exact EqAt.list_none ht' hu0
      | ref i => exact l2.elim
      | scr i => exact l2.elim
      | bl b => rw [rd_bl] at k2; subst k2; cases r2; exact EqAt.list_bool b ht' hu0
      | int b => rw [rd_int] at k2; subst k2; obtain ⟨t, rfl⟩ := r2; exact EqAt.list_int b t ht' hu0
      | str b => rw [rd_str] at k2; subst k2; obtain ⟨t, rfl⟩ := r2; exact EqAt.list_str _ t ht' hu0
      | tup b => obtain ⟨a, vs, rfl, t, q⟩ := rd_tup.mp k2; cases r2; obtain ⟨its, _, ht⟩ := tup_of hK I t; exact EqAt.list_tuple ht' ht hu0
      | lst w b =>
        obtain ⟨a, vs, rfl, t, _, _, q⟩ := rd_lst.mp k2
        cases r2
        obtain ⟨its, rv, ht⟩ := lst_of I t
        by_cases hne : a' = a
        · subst hne
          have := deq_one hK I (n + 1) l1 l2 k1 k2
          rw [this]
          exact EqAt.same _
        · by_cases hsz : x.length = b.length
          · have := RcAt.lists ht' ht (by rw [List.size_toArray, List.size_toArray, ← rv'.length, ← rv.length, ← q'.length, ← q.length, hsz]) hu0 (same l1 l2 q' q rv' rv)
            rw [List.size_toArray, ← rv'.length, ← q'.length, deqs_range' hsz] at this
            exact EqAt.of_refs hne this
          · have := RcAt.lists_lengths ht' ht (by rw [List.size_toArray, List.size_toArray, ← rv'.length, ← rv.length, ← q'.length, ← q.length]; simpa using hsz) hu0
            show EqAt A s _ _ (deqs x b)
            rw [deqs_ne hsz]
            exact EqAt.of_refs hne this
open SeqAt in
/-- == and != at the top -/
theorem rc_d (hK : X.K = K) (I : Inv X pins σ H s) (n : Nat) {A : Around} {d e : D} {v w : V} {u z : Value} (l1 : dle (n + 1) d) (l2 : dle (n + 1) e) (k1 : RD K H0 [] H d v) (k2 : RD K H0 [] H e w) (r1 : RelV v u) (r2 : RelV w z) (hu : A.units + (n + 1) < cLine) :
    RcAt A s u z (deq d e) ∧ RcNeAt A s u z (!deq d e) := by
    have hu0 : A.units < cLine := by omega
    have hu1 : A.in1.units + n < cLine := by show A.units + 1 + n < cLine; omega
    have same : ∀ {xs ys : List D} {vs ws : List V} {us zs : List Value}, (∀ x ∈ xs, dle n x) → (∀ x ∈ ys, dle n x) → RDs K H0 [] H xs vs → RDs K H0 [] H ys ws → Vals vs us → Vals ws zs →
        ∀ j (h1 : j < us.toArray.size) (h2 : j < zs.toArray.size), EqAt A.in1 s us.toArray[j] zs.toArray[j] (atD xs ys j) := by
      intro xs ys vs ws us zs a1 a2 q1 q2 p1 p2 j h1 h2
      have c1 := p1.length
      have c2 := p2.length
      have n1 := q1.length
      have n2 := q2.length
      simp only [List.size_toArray] at h1 h2
      have j1 : j < xs.length := by omega
      have j2 : j < ys.length := by omega
      obtain ⟨v, e1, k1⟩ := q1.get (List.getElem?_eq_getElem j1)
      obtain ⟨w, e2, k2⟩ := q2.get (List.getElem?_eq_getElem j2)
      obtain ⟨u, e3, k3⟩ := p1.get e1
      obtain ⟨z, e4, k4⟩ := p2.get e2
      have := eqAt_d hK I n (A := A.in1) (a1 _ (List.getElem_mem j1)) (a2 _ (List.getElem_mem j2)) k1 k2 k3 k4 hu1
      have b1 : us.toArray[j] = u := by
        rw [List.getElem?_eq_getElem h1] at e3
        simpa using e3
      have b2 : zs.toArray[j] = z := by
        rw [List.getElem?_eq_getElem h2] at e4
        simpa using e4
      rw [b1, b2]
      simpa [atD, List.getElem?_eq_getElem j1, List.getElem?_eq_getElem j2] using this
    cases d with
    | ref i => exact l1.elim
    | scr i => exact l1.elim
    | non =>
      rw [rd_non] at k1
      subst k1
      cases r1
      cases e with
      | non => rw [rd_non] at k2; subst k2; cases r2; exact ⟨RcAt.none_none, RcNeAt.none_none⟩
      | ref i => exact l2.elim
      | scr i => exact l2.elim
      | bl b => rw [rd_bl] at k2; subst k2; cases r2; exact ⟨RcAt.none_bool b, RcNeAt.none_bool b⟩
      | int b => rw [rd_int] at k2; subst k2; obtain ⟨t, rfl⟩ := r2; exact ⟨RcAt.none_int b t, RcNeAt.none_int b t⟩
      | str b => rw [rd_str] at k2; subst k2; obtain ⟨t, rfl⟩ := r2; exact ⟨RcAt.none_str _ t, RcNeAt.none_str _ t⟩
      | tup b => obtain ⟨a, vs, rfl, t, q⟩ := rd_tup.mp k2; cases r2; obtain ⟨its, _, ht⟩ := tup_of hK I t; exact ⟨RcAt.none_tuple ht hu0, RcNeAt.none_tuple ht hu0⟩
      | lst w b => obtain ⟨a, vs, rfl, t, _, _, q⟩ := rd_lst.mp k2; cases r2; obtain ⟨its, _, ht⟩ := lst_of I t; exact ⟨RcAt.none_list ht hu0, RcNeAt.none_list ht hu0⟩
    | bl x =>
      rw [rd_bl] at k1
      subst k1
      cases r1
      cases e with
      | non => rw [rd_non] at k2; subst k2; cases r2; exact ⟨RcAt.bool_none x, RcNeAt.bool_none x⟩
      | ref i => exact l2.elim
      | scr i => exact l2.elim
      | bl b => rw [rd_bl] at k2; subst k2; cases r2; exact ⟨RcAt.bool_bool x b, RcNeAt.bool_bool x b⟩
      | int b => rw [rd_int] at k2; subst k2; obtain ⟨t, rfl⟩ := r2; exact ⟨RcAt.bool_int x b t, RcNeAt.bool_int x b t⟩
      | str b => rw [rd_str] at k2; subst k2; obtain ⟨t, rfl⟩ := r2; exact ⟨RcAt.bool_str x _ t, RcNeAt.bool_str x _ t⟩
      | tup b => obtain ⟨a, vs, rfl, t, q⟩ := rd_tup.mp k2; cases r2; obtain ⟨its, _, ht⟩ := tup_of hK I t; exact ⟨RcAt.bool_tuple x ht hu0, RcNeAt.bool_tuple x ht hu0⟩
      | lst w b => obtain ⟨a, vs, rfl, t, _, _, q⟩ := rd_lst.mp k2; cases r2; obtain ⟨its, _, ht⟩ := lst_of I t; exact ⟨RcAt.bool_list x ht hu0, RcNeAt.bool_list x ht hu0⟩
    | int x =>
      rw [rd_int] at k1
      subst k1
      obtain ⟨t', rfl⟩ := r1
      cases e with
      | non => rw [rd_non] at k2; subst k2; cases r2; exact ⟨RcAt.int_none x t', RcNeAt.int_none x t'⟩
      | ref i => exact l2.elim
      | scr i => exact l2.elim
      | bl b => rw [rd_bl] at k2; subst k2; cases r2; exact ⟨RcAt.int_bool x t' b, RcNeAt.int_bool x t' b⟩
      | int b => rw [rd_int] at k2; subst k2; obtain ⟨t, rfl⟩ := r2; exact ⟨RcAt.int_int x t' b t, RcNeAt.int_int x t' b t⟩
      | str b => rw [rd_str] at k2; subst k2; obtain ⟨t, rfl⟩ := r2; exact ⟨RcAt.int_str x t' _ t, RcNeAt.int_str x t' _ t⟩
      | tup b => obtain ⟨a, vs, rfl, t, q⟩ := rd_tup.mp k2; cases r2; obtain ⟨its, _, ht⟩ := tup_of hK I t; exact ⟨RcAt.int_tuple x t' ht hu0, RcNeAt.int_tuple x t' ht hu0⟩
      | lst w b => obtain ⟨a, vs, rfl, t, _, _, q⟩ := rd_lst.mp k2; cases r2; obtain ⟨its, _, ht⟩ := lst_of I t; exact ⟨RcAt.int_list x t' ht hu0, RcNeAt.int_list x t' ht hu0⟩
    | str x =>
      rw [rd_str] at k1
      subst k1
      obtain ⟨t', rfl⟩ := r1
      cases e with
      | non => rw [rd_non] at k2; subst k2; cases r2; exact ⟨RcAt.str_none _ t', RcNeAt.str_none _ t'⟩
      | ref i => exact l2.elim
      | scr i => exact l2.elim
      | bl b => rw [rd_bl] at k2; subst k2; cases r2; exact ⟨RcAt.str_bool _ t' b, RcNeAt.str_bool _ t' b⟩
      | int b => rw [rd_int] at k2; subst k2; obtain ⟨t, rfl⟩ := r2; exact ⟨RcAt.str_int _ t' b t, RcNeAt.str_int _ t' b t⟩
      | str b =>
        rw [rd_str] at k2; subst k2; obtain ⟨t, rfl⟩ := r2
        have h1 := RcAt.str_str (A := A) (s := s) (toS x) t' (toS b) t
        have h2 := RcNeAt.str_str (A := A) (s := s) (toS x) t' (toS b) t
        rw [beq_toS] at h1 h2
        exact ⟨h1, h2⟩
      | tup b => obtain ⟨a, vs, rfl, t, q⟩ := rd_tup.mp k2; cases r2; obtain ⟨its, _, ht⟩ := tup_of hK I t; exact ⟨RcAt.str_tuple _ t' ht hu0, RcNeAt.str_tuple _ t' ht hu0⟩
      | lst w b => obtain ⟨a, vs, rfl, t, _, _, q⟩ := rd_lst.mp k2; cases r2; obtain ⟨its, _, ht⟩ := lst_of I t; exact ⟨RcAt.str_list _ t' ht hu0, RcNeAt.str_list _ t' ht hu0⟩
    | tup x =>
      obtain ⟨a', vs', rfl, t', q'⟩ := rd_tup.mp k1
      cases r1
      obtain ⟨its', rv', ht'⟩ := tup_of hK I t'
      cases e with
      | non => rw [rd_non] at k2; subst k2; cases r2; exact ⟨RcAt.tuple_none ht' hu0, RcNeAt.tuple_none ht' hu0⟩
      | ref i => exact l2.elim
      | scr i => exact l2.elim
      | bl b => rw [rd_bl] at k2; subst k2; cases r2; exact ⟨RcAt.tuple_bool b ht' hu0, RcNeAt.tuple_bool b ht' hu0⟩
      | int b => rw [rd_int] at k2; subst k2; obtain ⟨t, rfl⟩ := r2; exact ⟨RcAt.tuple_int b t ht' hu0, RcNeAt.tuple_int b t ht' hu0⟩
      | str b => rw [rd_str] at k2; subst k2; obtain ⟨t, rfl⟩ := r2; exact ⟨RcAt.tuple_str _ t ht' hu0, RcNeAt.tuple_str _ t ht' hu0⟩
      | lst w b => obtain ⟨a, vs, rfl, t, _, _, q⟩ := rd_lst.mp k2; cases r2; obtain ⟨its, _, ht⟩ := lst_of I t; exact ⟨RcAt.tuple_list ht' ht hu0, RcNeAt.tuple_list ht' ht hu0⟩
      | tup b =>
        obtain ⟨a, vs, rfl, t, q⟩ := rd_tup.mp k2
        cases r2
        obtain ⟨its, rv, ht⟩ := tup_of hK I t
        have h1 := RcAt.tuples ht' ht hu0 (same l1 l2 q' q rv' rv)
        have h2 := RcNeAt.tuples ht' ht hu0 (same l1 l2 q' q rv' rv)
        rw [List.size_toArray, List.size_toArray, ← rv'.length, ← rv.length, ← q'.length, ← q.length, deqs_range] at h1 h2
        exact ⟨h1, h2⟩
    | lst w' x =>
      obtain ⟨a', vs', rfl, t', _, _, q'⟩ := rd_lst.mp k1
      cases r1
      obtain ⟨its', rv', ht'⟩ := lst_of I t'
      cases e with
      | non => rw [rd_non] at k2; subst k2; cases r2; exact ⟨RcAt.list_none ht' hu0, RcNeAt.list_none ht' hu0⟩
      | ref i => exact l2.elim
      | scr i => exact l2.elim
      | bl b => rw [rd_bl] at k2; subst k2; cases r2; exact ⟨RcAt.list_bool b ht' hu0, RcNeAt.list_bool b ht' hu0⟩
      | int b => rw [rd_int] at k2; subst k2; obtain ⟨t, rfl⟩ := r2; exact ⟨RcAt.list_int b t ht' hu0, RcNeAt.list_int b t ht' hu0⟩
      | str b => rw [rd_str] at k2; subst k2; obtain ⟨t, rfl⟩ := r2; exact ⟨RcAt.list_str _ t ht' hu0, RcNeAt.list_str _ t ht' hu0⟩
      | tup b => obtain ⟨a, vs, rfl, t, q⟩ := rd_tup.mp k2; cases r2; obtain ⟨its, _, ht⟩ := tup_of hK I t; exact ⟨RcAt.list_tuple ht' ht hu0, RcNeAt.list_tuple ht' ht hu0⟩
      | lst w b =>
        obtain ⟨a, vs, rfl, t, _, _, q⟩ := rd_lst.mp k2
        cases r2
        obtain ⟨its, rv, ht⟩ := lst_of I t
        by_cases hsz : x.length = b.length
        · have h1 := RcAt.lists ht' ht (by rw [List.size_toArray, List.size_toArray, ← rv'.length, ← rv.length, ← q'.length, ← q.length, hsz]) hu0 (same l1 l2 q' q rv' rv)
          have h2 := RcNeAt.lists ht' ht (by rw [List.size_toArray, List.size_toArray, ← rv'.length, ← rv.length, ← q'.length, ← q.length, hsz]) hu0 (same l1 l2 q' q rv' rv)
          rw [List.size_toArray, ← rv'.length, ← q'.length, deqs_range' hsz] at h1 h2
          exact ⟨h1, h2⟩
        · have h1 := RcAt.lists_lengths ht' ht (by rw [List.size_toArray, List.size_toArray, ← rv'.length, ← rv.length, ← q'.length, ← q.length]; simpa using hsz) hu0
          have h2 := RcNeAt.lists_lengths ht' ht (by rw [List.size_toArray, List.size_toArray, ← rv'.length, ← rv.length, ← q'.length, ← q.length]; simpa using hsz) hu0
          show RcAt A s _ _ (deqs x b) ∧ RcNeAt A s _ _ (!deqs x b)
          rw [deqs_ne hsz]
          exact ⟨h1, h2⟩
end

/-! ### comparisons -/
def cmPy : Cm → CmpOp
  | .eq => .Eq | .ne => .NotEq | .lt => .Lt | .le => .LtE | .gt => .Gt | .ge => .GtE | .inn => .In | .nin => .NotIn | .is => .Is | .isn => .IsNot
/-- a comparison's answer is a truth value -/
def rCm (c : Ct) (k : Cm) : R2 := fun x y H Q => ∃ m h d e b, RH c m H h ∧ RD c.K c.H0 m H d x ∧ RD c.K c.H0 m H e y ∧ cmB k d e h = some b ∧ Q (.bl b) H
section
variable {X : Cx} {c : Ct}
theorem eqV_ok (hK : X.K = c.K) (hu : X.A.units + 65 < cLine) {pins : List (Addr × Obj)} {s : Shared} {σ : L2.St} {H : Hp} {x y : V} {v u : Value} {m : List Addr} {h : Hq} {d e : D} {b : Bool} (I : Inv X pins σ H s) (rx : RelV x v) (ry : RelV y u)
    (r : RH c m H h) (kd : RD c.K c.H0 m H d x) (ke : RD c.K c.H0 m H e y) (q : eqV d e h = some b) : SeqAt.RcAt X.A s v u b ∧ SeqAt.RcNeAt X.A s v u (!b) := by
  unfold eqV at q
  split at q
  · simp only [Option.some.injEq] at q
    subst q
    rw [rd_int] at kd ke
    subst kd ke
    obtain ⟨t, rfl⟩ := rx
    obtain ⟨t', rfl⟩ := ry
    exact ⟨SeqAt.RcAt.int_int _ t _ t', SeqAt.RcNeAt.int_int _ t _ t'⟩
  · simp only [Option.some.injEq] at q
    subst q
    rw [rd_str] at kd ke
    subst kd ke
    obtain ⟨t, rfl⟩ := rx
    obtain ⟨t', rfl⟩ := ry
    rename_i a b
    have h1 := SeqAt.RcAt.str_str (A := X.A) (s := s) (toS a) t (toS b) t'
    have h2 := SeqAt.RcNeAt.str_str (A := X.A) (s := s) (toS a) t (toS b) t'
    rw [beq_toS] at h1 h2
    exact ⟨h1, h2⟩
  · split at q
    · rename_i a b' e1 e2
      simp only [Option.some.injEq] at q
      subst q
      exact rc_d hK I 63 (frz_dle 64 e1) (frz_dle 64 e2) (frz_true r c.H0 64 e1 kd) (frz_true r c.H0 64 e2 ke) rx ry (by omega)
    · cases q
theorem cmB_ok (hK : X.K = c.K) (hu : X.A.units + 65 < cLine) (k : Cm) : OpR X (compareOp (cmPy k)) (rCm c k) := by
  intro pins s σ H x y v u Q I rx ry hq
  obtain ⟨m, h, d, e, b, r, kd, ke, q, hQ⟩ := hq
  cases k with
  | eq => exact (eqV_ok hK hu I rx ry r kd ke q).1 X.prog X.w X.xe _ ⟨.bl b, H, I, rfl, hQ⟩
  | ne =>
    simp only [cmB] at q
    split at q
    · rename_i b' e1
      simp only [Option.some.injEq] at q
      subst q
      exact (eqV_ok hK hu I rx ry r kd ke e1).2 X.prog X.w X.xe _ ⟨.bl _, H, I, rfl, hQ⟩
    · cases q
  | lt =>
    simp only [cmB] at q
    split at q
    · simp only [Option.some.injEq] at q
      subst q
      rw [rd_int] at kd ke
      exact op_lt pins s σ H x y v u Q I rx ry ⟨_, _, kd, ke, hQ⟩
    · cases q
  | le =>
    simp only [cmB] at q
    split at q
    · simp only [Option.some.injEq] at q
      subst q
      rw [rd_int] at kd ke
      exact op_le pins s σ H x y v u Q I rx ry ⟨_, _, kd, ke, hQ⟩
    · cases q
  | gt =>
    simp only [cmB] at q
    split at q
    · simp only [Option.some.injEq] at q
      subst q
      rw [rd_int] at kd ke
      exact op_gt pins s σ H x y v u Q I rx ry ⟨_, _, kd, ke, hQ⟩
    · cases q
  | ge =>
    simp only [cmB] at q
    split at q
    · simp only [Option.some.injEq] at q
      subst q
      rw [rd_int] at kd ke
      exact op_ge pins s σ H x y v u Q I rx ry ⟨_, _, kd, ke, hQ⟩
    · cases q
  | is =>
    simp only [cmB] at q
    split at q
    · simp only [Option.some.injEq] at q
      rw [rd_non] at ke
      refine op_isN pins s σ H x y v u Q I rx ry ⟨ke, ?_⟩
      have : decide (x = .non) = b := by
        subst q
        cases d with
        | non => rw [rd_non] at kd; subst kd; rfl
        | bl _ => rw [rd_bl] at kd; subst kd; rfl
        | int _ => rw [rd_int] at kd; subst kd; rfl
        | str _ => rw [rd_str] at kd; subst kd; rfl
        | tup _ => obtain ⟨_, _, rfl, _⟩ := rd_tup.mp kd; rfl
        | lst _ _ => obtain ⟨_, _, rfl, _⟩ := rd_lst.mp kd; rfl
        | ref _ => obtain ⟨_, rfl, _⟩ := rd_ref.mp kd; rfl
        | scr _ => obtain ⟨_, rfl, _⟩ := rd_scr.mp kd; rfl
      rw [this]
      exact hQ
    · cases q
  | isn =>
    simp only [cmB] at q
    split at q
    · simp only [Option.some.injEq] at q
      rw [rd_non] at ke
      refine op_notN pins s σ H x y v u Q I rx ry ⟨ke, ?_⟩
      have : (!decide (x = .non)) = b := by
        subst q
        cases d with
        | non => rw [rd_non] at kd; subst kd; rfl
        | bl _ => rw [rd_bl] at kd; subst kd; rfl
        | int _ => rw [rd_int] at kd; subst kd; rfl
        | str _ => rw [rd_str] at kd; subst kd; rfl
        | tup _ => obtain ⟨_, _, rfl, _⟩ := rd_tup.mp kd; rfl
        | lst _ _ => obtain ⟨_, _, rfl, _⟩ := rd_lst.mp kd; rfl
        | ref _ => obtain ⟨_, rfl, _⟩ := rd_ref.mp kd; rfl
        | scr _ => obtain ⟨_, rfl, _⟩ := rd_scr.mp kd; rfl
      rw [this]
      exact hQ
    · cases q
  | inn => simp [cmB] at q
  | nin => simp [cmB] at q
end
end Px
/-! P5: items, stores, slices, built-ins, methods, truth, by values -/
namespace Px
open PySem L2 PyProof.Rows

instance reflKy : ReflBEq Ky where
  rfl := by
    intro a
    cases a with
    | inl i => exact (beq_self_eq_true i : (i == i) = true)
    | inr i => exact (beq_self_eq_true i : (i == i) = true)
instance lawfulKy : LawfulBEq Ky where
  eq_of_beq := by
    intro a b h
    cases a with
    | inl i =>
      cases b with
      | inl j => exact congrArg _ (eq_of_beq (show (i == j) = true from h))
      | inr j => exact nomatch (show false = true from h)
    | inr i =>
      cases b with
      | inr j => exact congrArg _ (eq_of_beq (show (i == j) = true from h))
      | inl j => exact nomatch (show false = true from h)

theorem ixn_eq (n : Nat) (i : Int) : ixn n i = ixN n i := rfl
theorem aI_eq {α : Type} (xs : List α) (i : Int) : aI xs i = atI xs i := by
  unfold aI atI
  rw [ixn_eq]
  cases ixN xs.length i <;> rfl
section
variable {K : PySem.W.Frag} {H0 : Hp} {m : List Addr} {H : Hp}
theorem RDs.aI {xs : List D} {vs : List V} {i : Int} {d : D} (r : RDs K H0 m H xs vs) (e : Px.aI xs i = some d) : ∃ v, atI vs i = some v ∧ RD K H0 m H d v := by
  rw [aI_eq] at e
  unfold atI at e ⊢
  rw [← r.length]
  cases q : ixN xs.length i with
  | none => rw [q] at e; cases e
  | some j =>
    rw [q] at e
    exact r.get e
end

/-! ### tables -/
section
variable {κ κ' : Type} [BEq κ] [LawfulBEq κ] [DecidableEq κ'] {f : κ → κ'} {K : PySem.W.Frag} {H0 : Hp} {m : List Addr} {H : Hp}
theorem RKs.nil : RKs f K H0 m H ([] : List (κ × D)) [] := ⟨rfl, rds_nil.mpr rfl⟩
theorem rks_cons {k : κ} {d : D} {kvs : List (κ × D)} {zs : List (κ' × V)} (r : RKs f K H0 m H ((k, d) :: kvs) zs) : ∃ v zs', zs = (f k, v) :: zs' ∧ RD K H0 m H d v ∧ RKs f K H0 m H kvs zs' := by
  obtain ⟨e, q⟩ := r
  cases zs with
  | nil => simp at e
  | cons z zs =>
    obtain ⟨k', v⟩ := z
    simp only [List.map_cons, List.cons.injEq] at e
    obtain ⟨w, t, e2, q1, q2⟩ := rds_cons.mp (by simpa using q)
    simp only [List.cons.injEq] at e2
    obtain ⟨rfl, rfl⟩ := e2
    exact ⟨v, zs, by rw [e.1], q1, e.2, q2⟩
theorem rks_mk {k : κ} {d : D} {v : V} {kvs : List (κ × D)} {zs : List (κ' × V)} (q : RD K H0 m H d v) (r : RKs f K H0 m H kvs zs) : RKs f K H0 m H ((k, d) :: kvs) ((f k, v) :: zs) :=
  ⟨by simp [r.1], rds_cons.mpr ⟨v, _, rfl, q, r.2⟩⟩
theorem rks_nil {zs : List (κ' × V)} (r : RKs f K H0 m H ([] : List (κ × D)) zs) : zs = [] := by
  have := r.1
  simpa using this
theorem look_some (inj : ∀ a b, f a = f b → a = b) : ∀ {kvs : List (κ × D)} {zs : List (κ' × V)} {k : κ} {d : D}, RKs f K H0 m H kvs zs → lookA kvs k = some d → ∃ v, valV zs (f k) = some v ∧ RD K H0 m H d v
  | [], _, _, _, _, e => by simp [lookA] at e
  | (k', d') :: kvs, _, k, d, r, e => by
    obtain ⟨v, zs', rfl, q, r'⟩ := rks_cons r
    simp only [lookA] at e
    split at e
    · rename_i h
      simp only [Option.some.injEq] at e
      subst e
      rw [valV_pos (by rw [eq_of_beq h])]
      exact ⟨v, rfl, q⟩
    · rename_i h
      rw [valV_neg (fun z => h (by rw [inj _ _ z]; exact beq_self_eq_true _))]
      exact look_some inj r' e
theorem look_none (inj : ∀ a b, f a = f b → a = b) : ∀ {kvs : List (κ × D)} {zs : List (κ' × V)} {k : κ}, RKs f K H0 m H kvs zs → lookA kvs k = none → valV zs (f k) = none
  | [], _, _, r, _ => by rw [rks_nil r]; rfl
  | (k', d') :: kvs, _, k, r, e => by
    obtain ⟨v, zs', rfl, q, r'⟩ := rks_cons r
    simp only [lookA] at e
    split at e
    · cases e
    · rename_i h
      rw [valV_neg (fun z => h (by rw [inj _ _ z]; exact beq_self_eq_true _))]
      exact look_none inj r' e
theorem rks_put (inj : ∀ a b, f a = f b → a = b) {kvs : List (κ × D)} {zs : List (κ' × V)} {k : κ} {d : D} {v : V} (r : RKs f K H0 m H kvs zs) (q : RD K H0 m H d v) : RKs f K H0 m H (putA kvs k d) (putK zs (f k) v) := by
  have hany : ∀ {kvs : List (κ × D)} {zs : List (κ' × V)}, RKs f K H0 m H kvs zs → (zs.any fun kv => decide (kv.1 = f k)) = (lookA kvs k).isSome := fun {kvs zs} r => by
    rw [valV_any]
    cases e : lookA kvs k with
    | none => rw [look_none inj r e]; rfl
    | some d => obtain ⟨w, q, _⟩ := look_some inj r e; rw [q]; rfl
  unfold putK putA
  rw [hany r]
  cases e : lookA kvs k with
  | none =>
    simp only [Option.isSome_none, Bool.false_eq_true, if_false]
    clear hany e
    induction kvs generalizing zs with
    | nil => rw [rks_nil r]; exact rks_mk q RKs.nil
    | cons p kvs ih =>
      obtain ⟨k', d'⟩ := p
      obtain ⟨w, zs', rfl, q', r'⟩ := rks_cons r
      exact rks_mk q' (ih r')
  | some d' =>
    simp only [Option.isSome_some, if_true]
    clear hany e
    induction kvs generalizing zs with
    | nil => rw [rks_nil r]; exact RKs.nil
    | cons p kvs ih =>
      obtain ⟨k', d'⟩ := p
      obtain ⟨w, zs', rfl, q', r'⟩ := rks_cons r
      simp only [setA, List.map_cons]
      by_cases h : (k' == k) = true
      · rw [if_pos h, if_pos (by rw [eq_of_beq h])]
        exact rks_mk q (ih r')
      · rw [if_neg h, if_neg (fun z => h (by rw [inj _ _ z]; exact beq_self_eq_true _))]
        exact rks_mk q' (ih r')
end
theorem toKys_inj : ∀ (a b : List Ky), a.map toKy = b.map toKy → a = b
  | [], [], _ => rfl
  | [], _ :: _, h => by simp at h
  | _ :: _, [], h => by simp at h
  | a :: as, b :: bs, h => by
    simp only [List.map_cons, List.cons.injEq] at h
    rw [toKy_inj h.1, toKys_inj as bs h.2]

section
variable {K : PySem.W.Frag} {H0 : Hp} {m : List Addr} {H : Hp}
theorem keyOf_ok {d : D} {k : Ky} {v : V} (e : keyOf d = some k) (r : RD K H0 m H d v) : v = kV (toKy k) := by
  cases d with
  | int i => simp only [keyOf, Option.some.injEq] at e; subst e; exact rd_int.mp r
  | str i => simp only [keyOf, Option.some.injEq] at e; subst e; exact rd_str.mp r
  | _ => simp [keyOf] at e
theorem keysOf_ok : ∀ {xs : List D} {ks : List Ky} {vs : List V}, mapO keyOf xs = some ks → RDs K H0 m H xs vs → vs = (ks.map toKy).map kV
  | [], _, _, e, r => by simp [mapO] at e; subst e; rw [rds_nil.mp r]; rfl
  | x :: xs, ks, _, e, r => by
    obtain ⟨v, t, rfl, h1, h2⟩ := rds_cons.mp r
    simp only [mapO] at e
    split at e
    · cases e
    · rename_i z hz
      split at e
      · cases e
      · rename_i zs hzs
        simp only [Option.some.injEq] at e
        subst e
        rw [keyOf_ok hz h1, keysOf_ok hzs h2]
        rfl
theorem keyT_ok {d : D} {k : List Ky} {v : V} (e : keyT d = some k) (r : RD K H0 m H d v) : ∃ b, v = .ref b ∧ H b = some (.tup ((k.map toKy).map kV)) := by
  cases d with
  | tup xs =>
    obtain ⟨a, vs, rfl, t, q⟩ := rd_tup.mp r
    exact ⟨a, rfl, by rw [t.1, keysOf_ok e q]⟩
  | _ => simp [keyT] at e
end

section
variable {X : Cx} {c : Ct}
/-- items -/
def rGet (c : Ct) : R2 := fun x y H Q => ∃ m h d e w, RH c m H h ∧ RD c.K c.H0 m H d x ∧ RD c.K c.H0 m H e y ∧ getItem d e h = some w ∧ ∀ v, RD c.K c.H0 m H w v → Q v H
theorem dget_of {m : List Addr} {H : Hp} {h : Hq} {r : Nat} {x y : V} {e w : D} (rh : RH c m H h) (kd : RD c.K c.H0 m H (.ref r) x) (ke : RD c.K c.H0 m H e y)
    (q : (∃ kvs k, h[r]? = some (.dT kvs) ∧ keyT e = some k ∧ lookA kvs k = some w) ∨ (∃ kvs k, h[r]? = some (.dK kvs) ∧ keyOf e = some k ∧ lookA kvs k = some w)) :
    ∃ a v, x = .ref a ∧ DGet H a y (some v) ∧ RD c.K c.H0 m H w v := by
  rcases q with ⟨kvs, k, e1, e2, e3⟩ | ⟨kvs, k, e1, e2, e3⟩
  · obtain ⟨a, rfl, _, zs, t, r⟩ := rh.atRef e1 kd
    obtain ⟨b, rfl, hb⟩ := keyT_ok e2 ke
    obtain ⟨v, hv, k⟩ := look_some toKys_inj r e3
    exact ⟨a, v, rfl, by rw [← hv]; exact DGet.t t hb, k⟩
  · obtain ⟨a, rfl, _, zs, t, r⟩ := rh.atRef e1 kd
    have := keyOf_ok e2 ke
    subst this
    obtain ⟨v, hv, k⟩ := look_some (fun _ _ => toKy_inj) r e3
    exact ⟨a, v, rfl, by rw [← hv]; exact DGet.k t, k⟩
theorem ix_ok (hK : X.K = c.K) (hu : X.A.units + 1 < cLine) : IxR X (rGet c) := by
  intro value slice pins s σ H x y v u Q I rx ry hq hs
  obtain ⟨m, h, d, e, w, r, kd, ke, q, hQ⟩ := hq
  have dict : (∃ kvs k n, d = .ref n ∧ h[n]? = some (.dT kvs) ∧ keyT e = some k ∧ lookA kvs k = some w) ∨ (∃ kvs k n, d = .ref n ∧ h[n]? = some (.dK kvs) ∧ keyOf e = some k ∧ lookA kvs k = some w) →
      wpAny (model X.prog X.w) X.A (subscriptTail value slice v u) (EP X pins σ Q) X.xe s := fun z => by
    have : ∃ n, d = .ref n ∧ ((∃ kvs k, h[n]? = some (.dT kvs) ∧ keyT e = some k ∧ lookA kvs k = some w) ∨ (∃ kvs k, h[n]? = some (.dK kvs) ∧ keyOf e = some k ∧ lookA kvs k = some w)) := by
      rcases z with ⟨kvs, k, n, e1, e2, e3, e4⟩ | ⟨kvs, k, n, e1, e2, e3, e4⟩
      · exact ⟨n, e1, .inl ⟨kvs, k, e2, e3, e4⟩⟩
      · exact ⟨n, e1, .inr ⟨kvs, k, e2, e3, e4⟩⟩
    obtain ⟨n, e1, z2⟩ := this
    subst e1
    obtain ⟨a, z3, rfl, g, k⟩ := dget_of r kd ke z2
    obtain rfl : v = Value.ref a := rx
    exact tail_any (dict_typeIs I g) PySem.F.slot_dict_getitem.lookup (d_getItem hu I g ry fun w' s3 I3 rw' => ⟨z3, H, I3, rw', hQ z3 k⟩) hs
  have list : ∀ {xs : List D} {i : Int}, getL h d = some xs → e = .int i → aI xs i = some w → wpAny (model X.prog X.w) X.A (subscriptTail value slice v u) (EP X pins σ Q) X.xe s := fun {xs i} e1 e2 e3 => by
    subst e2
    obtain ⟨a, vs, rfl, t, k⟩ := getL_ok r kd e1
    obtain ⟨z, hz, kz⟩ := k.aI e3
    exact ix_list value slice pins s σ H _ y v u Q I rx ry ⟨a, vs, i, z, rfl, rd_int.mp ke, by rw [hK]; exact SqL.of t, hz, hQ z kz⟩ hs
  unfold getItem at q
  split at q
  · split at q
    · obtain ⟨a, vs, rfl, t, k⟩ := rd_tup.mp kd
      obtain ⟨z, hz, kz⟩ := k.aI q
      exact ix_tup value slice pins s σ H _ y v u Q I rx ry ⟨a, vs, _, z, rfl, rd_int.mp ke, by rw [hK]; exact t.sq, hz, hQ z kz⟩ hs
    · cases q
  · split at q
    · split at q
      · split at q
        · rename_i hz _ ch hch
          simp only [Option.some.injEq] at q
          subst q
          rw [aI_eq] at hch
          exact ix_str value slice pins s σ H _ y v u Q I rx ry ⟨_, _, ch, rd_str.mp kd, rd_int.mp ke, by rw [toS_len, big_line]; exact hz, by simpa using hch, hQ _ (rd_str.mpr rfl)⟩ hs
        · cases q
      · cases q
    · cases q
  · split at q
    · exact list rfl rfl q
    · cases q
  · split at q
    · rename_i _ _ _ _ e1
      split at q
      · exact list (by simp [getL, e1]) rfl q
      · cases q
    · rename_i _ _ _ _ e1
      split at q
      · rename_i e2
        exact dict (.inl ⟨_, _, _, rfl, e1, e2, q⟩)
      · cases q
    · rename_i _ _ _ _ e1
      split at q
      · rename_i e2
        exact dict (.inr ⟨_, _, _, rfl, e1, e2, q⟩)
      · cases q
    · cases q
  · cases q
/-- getItem alone -/
def rGetR (c : Ct) : R2 := fun x y H Q => ∃ m h d e w, RH c m H h ∧ RD c.K c.H0 m H d x ∧ RD c.K c.H0 m H e y ∧ getRef d e h = some w ∧ ∀ v, RD c.K c.H0 m H w v → Q v H
theorem get_ok (hu : X.A.units + 1 < cLine) : PGet X (rGetR c) := by
  intro pins s σ H x y v u Q I rx ry hq
  obtain ⟨m, h, d, e, w, r, kd, ke, q, hQ⟩ := hq
  unfold getRef at q
  split at q
  · rename_i n
    unfold getItem at q
    simp only at q
    split at q
    · rename_i xs e1
      split at q
      · rename_i i
        obtain ⟨a, vs, rfl, t, k⟩ := getL_ok r kd (show getL h (.ref n) = some xs by simp [getL, e1])
        obtain ⟨z, hz, kz⟩ := k.aI q
        have := rd_int.mp ke
        subst this
        obtain rfl : v = Value.ref a := rx
        obtain ⟨t', rfl⟩ := ry
        obtain ⟨its, n', rv, ho, hl⟩ := I.lst t
        have pl : s.heap.IsList a its.toArray := ⟨_, ho, rfl, _, rfl⟩
        obtain ⟨j, h1, h2, h3, h4, h5⟩ := atI_get hz
        obtain ⟨w', ew, rw'⟩ := rv.get h2
        have hl' := rv.length
        have hn := line63
        have fin : EP X pins σ Q w' s := ⟨z, H, I, rw', hQ z kz⟩
        by_cases h0 : 0 ≤ i
        · have hj : i.toNat = j := by
            rw [seqIndex_of h0 h5] at h1
            exact Option.some.inj h1
          exact wpAny_getItem_list pl h0 (by omega) (by rw [hj]; simpa using ew) fin
        · have hj : (i + (its.toArray.size : Int)).toNat = j := by
            rw [seqIndex_neg (by omega) h4] at h1
            rw [List.size_toArray, ← hl']
            exact Option.some.inj h1
          exact wpAny_getItem_list_neg pl (by omega) (by rw [List.size_toArray] <;> omega) (by omega) (by rw [hj]; simpa using ew) fin
      · cases q
    · rename_i kvs e1
      split at q
      · rename_i ky e2
        obtain ⟨a, z3, rfl, g, k⟩ := dget_of r kd ke (.inl ⟨_, _, e1, e2, q⟩)
        obtain rfl : v = Value.ref a := rx
        exact d_getItem hu I g ry fun w' s3 I3 rw' => ⟨z3, H, I3, rw', hQ z3 k⟩
      · cases q
    · rename_i kvs e1
      split at q
      · rename_i ky e2
        obtain ⟨a, z3, rfl, g, k⟩ := dget_of r kd ke (.inr ⟨_, _, e1, e2, q⟩)
        obtain rfl : v = Value.ref a := rx
        exact d_getItem hu I g ry fun w' s3 I3 rw' => ⟨z3, H, I3, rw', hQ z3 k⟩
      · cases q
    · cases q
  · cases q
/-- x[i] = v -/
def rPut (c : Ct) : TSet := fun o i v H Q => ∃ m h d e w h', RH c m H h ∧ RD c.K c.H0 m H d o ∧ RD c.K c.H0 m H e i ∧ RD c.K c.H0 m H w v ∧ Px.setItem d e w h = some h' ∧ ∀ H', Step c.hd m H m H' → RH c m H' h' → Q H'
theorem set_ok (hu : X.A.units + 1 < cLine) : PSet X (rPut c) := by
  intro pins s σ H o i v ov iv u Q I ro ri rv hq
  obtain ⟨m, h, d, e, w, h', r, kd, ke, kw, q, hQ⟩ := hq
  unfold Px.setItem at q
  split at q
  · rename_i n
    split at q
    · rename_i xs e1
      split at q
      · split at q
        · rename_i k _ j hj
          simp only [Option.some.injEq] at q
          subst q
          obtain ⟨a, rfl, g, vs, t, rs⟩ := r.atRef e1 kd
          have hm : a ∈ m := List.mem_of_getElem? g
          have nh := r.nohid g e1 (by simp)
          refine set_list pins s σ H _ i v ov iv u Q I ro ri rv ⟨a, vs, k, j, rfl, rd_int.mp ke, t, by rw [← rs.length]; exact hj, hQ _ (Step.mut hm nh) (r.mut g nh ?_)⟩
          exact ⟨_, upd_same, RDs.step (Step.mut hm nh) _ (rs.set j kw)⟩
        · cases q
      · cases q
    · rename_i kvs e1
      split at q
      · rename_i ky e2
        split at q
        · rename_i hz
          simp only [Option.some.injEq] at q
          subst q
          obtain ⟨a, rfl, g, zs, t, rs⟩ := r.atRef e1 kd
          have hm : a ∈ m := List.mem_of_getElem? g
          have nh := r.nohid g e1 (by simp)
          obtain ⟨b, rfl, hb⟩ := keyT_ok e2 ke
          obtain rfl : ov = Value.ref a := ro
          have hl : zs.length < sizeLine := by
            have := congrArg List.length rs.1
            simp at this
            rw [this, big_line]
            exact hz
          refine d_setItem hu I (DPut.t t hb hl) ri rv fun s' I' => ⟨_, I', hQ _ (Step.mut hm nh) (r.mut g nh ?_)⟩
          have k := rks_put (f := List.map toKy) (k := ky) toKys_inj rs kw
          exact ⟨_, upd_same, k.1, RDs.step (Step.mut hm nh) _ k.2⟩
        · cases q
      · cases q
    · rename_i kvs e1
      split at q
      · rename_i ky e2
        split at q
        · rename_i hz
          simp only [Option.some.injEq] at q
          subst q
          obtain ⟨a, rfl, g, zs, t, rs⟩ := r.atRef e1 kd
          have hm : a ∈ m := List.mem_of_getElem? g
          have nh := r.nohid g e1 (by simp)
          have := keyOf_ok e2 ke
          subst this
          obtain rfl : ov = Value.ref a := ro
          have hl : zs.length < sizeLine := by
            have := congrArg List.length rs.1
            simp at this
            rw [this, big_line]
            exact hz
          refine d_setItem hu I (DPut.k t hl) ri rv fun s' I' => ⟨_, I', hQ _ (Step.mut hm nh) (r.mut g nh ?_)⟩
          have k := rks_put (f := toKy) (k := ky) (fun _ _ => toKy_inj) rs kw
          exact ⟨_, upd_same, k.1, RDs.step (Step.mut hm nh) _ k.2⟩
        · cases q
      · cases q
    · cases q
  · cases q

/-! ### slices -/
theorem sIx_eq (n d : Nat) (o : Option Int) : sIx n d o = HT.sIx n d o := by
  cases o with
  | none => rfl
  | some i => rfl
def rSlc (c : Ct) : V → Option Int → Option Int → Hp → VK → Prop := fun x lo hi H Q => ∃ m h d, RH c m H h ∧ RD c.K c.H0 m H d x ∧ SimD c m H (slc d lo hi h) Q
theorem RDs.cut {K : PySem.W.Frag} {H0 : Hp} {m : List Addr} {H : Hp} {xs : List D} {vs : List V} (r : RDs K H0 m H xs vs) (lo hi : Option Int) : RDs K H0 m H (Px.cut xs lo hi) (cutV vs lo hi) := by
  unfold Px.cut cutV
  rw [sIx_eq, sIx_eq, r.length]
  exact (r.drop _).take _
theorem slc_ok (hK : X.K = c.K) : SlR X (rSlc c) := by
  intro pins s σ H x v vl vu lo hi sl Q I rx hs pl pu hq
  obtain ⟨m, h, d, r, kd, S⟩ := hq
  have list : ∀ {xs : List D}, getL h d = some xs → SimD c m H (new (.lst (Px.cut xs lo hi)) h) Q → ∃ T id, typeLookup (.type T) "__getitem__" = pure (some (.builtin id)) ∧ s.TypeIs v T ∧ wpAny (model X.prog X.w) X.A (PySem.getItem v (.ref sl)) (EP X pins σ Q) X.xe s := fun {xs} e1 S => by
    obtain ⟨a, vs, rfl, t, k⟩ := getL_ok r kd e1
    exact sl_list pins s σ H _ v vl vu lo hi sl Q I rx hs pl pu ⟨a, vs, rfl, SqL.of t, fun p hp => new_lst r hp (k.cut lo hi) S⟩
  cases d with
  | str z =>
    simp only [slc] at S
    split at S
    · rename_i hz
      refine sl_str pins s σ H x v vl vu lo hi sl Q I rx hs pl pu ⟨toS z, rd_str.mp kd, by rw [toS_len, big_line]; exact hz, S.ok_ r (rd_str.mpr ?_)⟩
      unfold cutS Px.cut
      simp [sIx_eq, Str.length]
    · exact S.elim
  | tup xs =>
    simp only [slc] at S
    split at S
    · exact S.elim
    · rename_i hn
      obtain ⟨a, vs, rfl, t, k⟩ := rd_tup.mp kd
      refine sl_tup pins s σ H _ v vl vu lo hi sl Q I rx hs pl pu ⟨a, vs, rfl, by rw [hK]; exact t.sq, fun z => hn ?_, fun p hp => lay_tup r hp (k.cut lo hi) S⟩
      rw [sIx_eq, sIx_eq, k.length, z.1, z.2]
      simp
  | lst w xs =>
    simp only [slc] at S
    split at S
    · rename_i e1
      exact list e1 S
    · exact S.elim
  | ref n =>
    simp only [slc] at S
    split at S
    · rename_i e1
      exact list e1 S
    · exact S.elim
  | _ =>
    simp only [slc, getL] at S
    exact S.elim
end
end Px
/-! P6: built-ins, methods, truth by values -/
namespace Px
open PySem L2 PyProof.Rows

section
variable {K : PySem.W.Frag} {H0 : Hp} {m : List Addr} {H : Hp}
theorem ints_ok : ∀ {xs : List D} {ns : List Int} {vs : List V}, intsOf xs = some ns → RDs K H0 m H xs vs → vs = ns.map V.int
  | [], _, _, e, r => by simp [intsOf, mapO] at e; subst e; rw [rds_nil.mp r]; rfl
  | x :: xs, ns, _, e, r => by
    obtain ⟨v, t, rfl, h1, h2⟩ := rds_cons.mp r
    simp only [intsOf, mapO] at e
    split at e
    · cases e
    · rename_i z hz
      split at e
      · cases e
      · rename_i zs hzs
        simp only [Option.some.injEq] at e
        subst e
        have := ints_ok (show intsOf xs = some zs from hzs) h2
        subst this
        split at hz
        · simp only [Option.some.injEq] at hz
          subst hz
          rw [rd_int.mp h1]
          rfl
        · cases hz
theorem bls_ok : ∀ {xs : List D} {ns : List Bool} {vs : List V}, blsOf xs = some ns → RDs K H0 m H xs vs → vs = ns.map V.bl
  | [], _, _, e, r => by simp [blsOf, mapO] at e; subst e; rw [rds_nil.mp r]; rfl
  | x :: xs, ns, _, e, r => by
    obtain ⟨v, t, rfl, h1, h2⟩ := rds_cons.mp r
    simp only [blsOf, mapO] at e
    split at e
    · cases e
    · rename_i z hz
      split at e
      · cases e
      · rename_i zs hzs
        simp only [Option.some.injEq] at e
        subst e
        have := bls_ok (show blsOf xs = some zs from hzs) h2
        subst this
        split at hz
        · simp only [Option.some.injEq] at hz
          subst hz
          rw [rd_bl.mp h1]
          rfl
        · cases hz
theorem rds_one {x : D} {vs : List V} (r : RDs K H0 m H [x] vs) : ∃ v, vs = [v] ∧ RD K H0 m H x v := by
  obtain ⟨v, t, rfl, h1, h2⟩ := rds_cons.mp r
  rw [rds_nil.mp h2]
  exact ⟨v, rfl, h1⟩
theorem rds_two {x y : D} {vs : List V} (r : RDs K H0 m H [x, y] vs) : ∃ v w, vs = [v, w] ∧ RD K H0 m H x v ∧ RD K H0 m H y w := by
  obtain ⟨v, t, rfl, h1, h2⟩ := rds_cons.mp r
  obtain ⟨w, rfl, h3⟩ := rds_one h2
  exact ⟨v, w, rfl, h1, h3⟩
end

/-- the name of a built-in, what it is -/
def bltName : Bl → Str
  | .len => "len" | .abs => "abs" | .int => "int" | .list => "list" | .sum => "sum" | .all => "all" | .any => "any" | .isi _ => "isinstance"
def rBlt (c : Ct) (b : Bl) : List V → Hp → VK → Prop := fun vs H Q => ∃ m h ds, RH c m H h ∧ RDs c.K c.H0 m H ds vs ∧ SimD c m H (bltV b ds h) Q
section
variable {X : Cx} {c : Ct}
theorem blt_len (hK : X.K = c.K) : CallR X (.builtin "len") (rBlt c .len) := by
  intro pins s σ H vs us Q I r hq
  obtain ⟨m, h, ds, rh, rd, S⟩ := hq
  match ds, S with
  | [], S => exact S.elim
  | _ :: _ :: _, S => exact S.elim
  | [x], S =>
    obtain ⟨v, rfl, k⟩ := rds_one rd
    have seq : ∀ {xs : List D}, getS h x = some xs → SimD c m H (.ok (.int xs.length) h) Q → wpAny (model X.prog X.w) X.A (call (.builtin "len") us) (EP X pins σ Q) X.xe s := fun {xs} e S => by
      obtain ⟨a, ys, rfl, t, q⟩ := getS_ok rh k e
      exact call_len_seq pins s σ H _ us Q I r ⟨a, ys, rfl, by rw [hK]; exact t, S.ok_ rh (by rw [rd_int, q.length])⟩
    cases x with
    | str z =>
      simp only [bltV, bLen, bList, bSum, bAll, bAny, bIsi] at S
      split at S
      · rename_i hz
        exact call_len_str pins s σ H _ us Q I r ⟨toS z, by rw [rd_str.mp k], by rw [toS_len, big_line]; exact hz, S.ok_ rh (by rw [rd_int, toS_len])⟩
      · exact S.elim
    | tup xs => exact seq (xs := xs) rfl (by simpa only [bltV, bLen, bList, getS] using S)
    | lst w xs => exact seq (xs := xs) rfl (by simpa only [bltV, bLen, bList, getS, getL] using S)
    | ref n =>
      simp only [bltV, bLen, bList, bSum, bAll, bAny, bIsi] at S
      split at S
      · rename_i e
        exact seq e S
      · exact S.elim
    | _ => exact S.elim
theorem blt_abs : CallR X (.builtin "abs") (rBlt c .abs) := by
  intro pins s σ H vs us Q I r hq
  obtain ⟨m, h, ds, rh, rd, S⟩ := hq
  simp only [bltV, bAbs] at S
  split at S
  · obtain ⟨v, rfl, k⟩ := rds_one rd
    exact call_abs pins s σ H _ us Q I r ⟨_, by rw [rd_int.mp k], S.ok_ rh (rd_int.mpr rfl)⟩
  · exact S.elim
theorem blt_int : CallR X (.type "int") (rBlt c .int) := by
  intro pins s σ H vs us Q I r hq
  obtain ⟨m, h, ds, rh, rd, S⟩ := hq
  simp only [bltV, bInt] at S
  split at S
  · obtain ⟨v, rfl, k⟩ := rds_one rd
    exact call_int1 pins s σ H _ us Q I r (.inl ⟨_, by rw [rd_int.mp k], S.ok_ rh (rd_int.mpr rfl)⟩)
  · obtain ⟨v, rfl, k⟩ := rds_one rd
    exact call_int1 pins s σ H _ us Q I r (.inr ⟨_, by rw [rd_bl.mp k], S.ok_ rh (rd_int.mpr rfl)⟩)
  · exact S.elim
theorem blt_list (hK : X.K = c.K) : CallR X (.type "list") (rBlt c .list) := by
  intro pins s σ H vs us Q I r hq
  obtain ⟨m, h, ds, rh, rd, S⟩ := hq
  match ds, S with
  | [], S => exact S.elim
  | _ :: _ :: _, S => exact S.elim
  | [x], S =>
    obtain ⟨v, rfl, k⟩ := rds_one rd
    have seq : ∀ {xs : List D}, getS h x = some xs → SimD c m H (new (.lst xs) h) Q → wpAny (model X.prog X.w) X.A (call (.type "list") us) (EP X pins σ Q) X.xe s := fun {xs} e S => by
      obtain ⟨a, ys, rfl, t, q⟩ := getS_ok rh k e
      exact call_list_of pins s σ H _ us Q I r ⟨a, ys, rfl, by rw [hK]; exact t, fun p hp => new_lst rh hp q S⟩
    cases x with
    | tup xs => exact seq (xs := xs) rfl (by simpa only [bltV, bLen, bList, getS] using S)
    | lst w xs => exact seq (xs := xs) rfl (by simpa only [bltV, bLen, bList, getS, getL] using S)
    | ref n =>
      simp only [bltV, bLen, bList, bSum, bAll, bAny, bIsi] at S
      split at S
      · rename_i e
        exact seq e S
      · exact S.elim
    | scr ns =>
      obtain ⟨a, rfl, t⟩ := rd_scr.mp k
      exact call_list_of pins s σ H _ us Q I r ⟨a, _, rfl, .inl (by rw [hK]; exact t.sq), fun p hp => new_lst rh hp (rds_map (fun i => rd_int.mpr rfl) ns) S⟩
    | _ => exact S.elim
theorem blt_sum (hK : X.K = c.K) (hc : X.calm = true) : CallR X (.builtin "sum") (rBlt c .sum) := by
  intro pins s σ H vs us Q I r hq
  obtain ⟨m, h, ds, rh, rd, S⟩ := hq
  match ds, S with
  | [], S => exact S.elim
  | _ :: _ :: _, S => exact S.elim
  | [x], S =>
    obtain ⟨v, rfl, k⟩ := rds_one rd
    simp only [bltV, bLen, bList, bSum, bAll, bAny, bIsi] at S
    split at S
    · rename_i e
      split at S
      · rename_i ns e2
        obtain ⟨a, ys, rfl, t, q⟩ := getL_ok rh k e
        have := ints_ok e2 q
        subst this
        exact cr_sum hc pins s σ H _ us Q I r ⟨a, ns, rfl, SqL.of t, S.ok_ rh (rd_int.mpr rfl)⟩
      · exact S.elim
    · exact S.elim
theorem blt_all (hK : X.K = c.K) (hc : X.calm = true) : CallR X (.builtin "all") (rBlt c .all) := by
  intro pins s σ H vs us Q I r hq
  obtain ⟨m, h, ds, rh, rd, S⟩ := hq
  match ds, S with
  | [], S => exact S.elim
  | _ :: _ :: _, S => exact S.elim
  | [x], S =>
    obtain ⟨v, rfl, k⟩ := rds_one rd
    simp only [bltV, bLen, bList, bSum, bAll, bAny, bIsi] at S
    split at S
    · rename_i e
      split at S
      · rename_i ns e2
        obtain ⟨a, ys, rfl, t, q⟩ := getL_ok rh k e
        have := bls_ok e2 q
        subst this
        exact cr_all hc pins s σ H _ us Q I r ⟨a, ns, rfl, SqL.of t, S.ok_ rh (rd_bl.mpr rfl)⟩
      · exact S.elim
    · exact S.elim
theorem blt_any (hK : X.K = c.K) (hc : X.calm = true) : CallR X (.builtin "any") (rBlt c .any) := by
  intro pins s σ H vs us Q I r hq
  obtain ⟨m, h, ds, rh, rd, S⟩ := hq
  match ds, S with
  | [], S => exact S.elim
  | _ :: _ :: _, S => exact S.elim
  | [x], S =>
    obtain ⟨v, rfl, k⟩ := rds_one rd
    simp only [bltV, bLen, bList, bSum, bAll, bAny, bIsi] at S
    split at S
    · rename_i e
      split at S
      · rename_i ns e2
        obtain ⟨a, ys, rfl, t, q⟩ := getL_ok rh k e
        have := bls_ok e2 q
        subst this
        exact cr_any hc pins s σ H _ us Q I r ⟨a, ns, rfl, SqL.of t, S.ok_ rh (rd_bl.mpr rfl)⟩
      · exact S.elim
    · exact S.elim

/-! ### isinstance -/
def isName : Nat → String
  | 0 => "list" | 1 => "tuple" | 2 => "str" | 3 => "int" | _ => "bool"
/-- the type of data -/
def tyD : D → String
  | .non => "NoneType" | .bl _ => "bool" | .int _ => "int" | .str _ => "str" | .tup _ => "tuple" | _ => "list"
theorem isT_kit {n : Nat} {d : D} {b : Bool} (e : isT n d = some b) : kitB (tyD d) (isName n) = some b := by
  match n, e with
  | 0, e => cases d <;> simp [isT] at e <;> subst e <;> (dsimp only [tyD, isName]; decide +kernel)
  | 1, e => cases d <;> simp [isT] at e <;> subst e <;> (dsimp only [tyD, isName]; decide +kernel)
  | 2, e => cases d <;> simp [isT] at e <;> subst e <;> (dsimp only [tyD, isName]; decide +kernel)
  | 3, e => cases d <;> simp [isT] at e <;> subst e <;> (dsimp only [tyD, isName]; decide +kernel)
  | 4, e => cases d <;> simp [isT] at e <;> subst e <;> (dsimp only [tyD, isName]; decide +kernel)
  | n + 5, e => simp [isT] at e
def rIsiD (c : Ct) (n : Nat) : List V → Hp → VK → Prop := fun vs H Q => ∃ m h d x, RH c m H h ∧ vs = [x, .ty (isName n)] ∧ RD c.K c.H0 m H d x ∧ SimD c m H (bltV (.isi n) [d] h) Q
theorem blt_isi (hK : X.K = c.K) (n : Nat) : CallR X (.builtin "isinstance") (rIsiD c n) := by
  intro pins s σ H vs us Q I r hq
  obtain ⟨m, h, d, x, rh, rfl, k, S⟩ := hq
  have fin : ∀ {b : Bool} {t : Value}, TyOf c.K H x (.type (tyD d)) → isT n d = some b → SimD c m H (.ok (.bl b) h) Q → wpAny (model X.prog X.w) X.A (call (.builtin "isinstance") us) (EP X pins σ Q) X.xe s := fun {b t} ty e S =>
    call_isi pins s σ H _ us Q I r ⟨x, _, _, _, b, rfl, .ty _, .base (by rw [hK]; exact ty), kit_ty (isT_kit e), S.ok_ rh (rd_bl.mpr rfl)⟩
  cases d with
  | scr ns => exact S.elim
  | ref i =>
    simp only [bltV, bLen, bList, bSum, bAll, bAny, bIsi] at S
    split at S
    · rename_i e1
      split at S
      · rename_i e
        obtain ⟨a, rfl, _, ys, t, _⟩ := rh.atRef e1 k
        exact fin (t := .none) (.lst t) e S
      · exact S.elim
    · exact S.elim
  | non =>
    simp only [bltV, bLen, bList, bSum, bAll, bAny, bIsi] at S
    split at S
    · rename_i e
      rw [rd_non] at k; subst k
      exact fin (t := .none) .non e S
    · exact S.elim
  | bl y =>
    simp only [bltV, bLen, bList, bSum, bAll, bAny, bIsi] at S
    split at S
    · rename_i e
      rw [rd_bl] at k; subst k
      exact fin (t := .none) (.bl _) e S
    · exact S.elim
  | int y =>
    simp only [bltV, bLen, bList, bSum, bAll, bAny, bIsi] at S
    split at S
    · rename_i e
      rw [rd_int] at k; subst k
      exact fin (t := .none) (.int _) e S
    · exact S.elim
  | str y =>
    simp only [bltV, bLen, bList, bSum, bAll, bAny, bIsi] at S
    split at S
    · rename_i e
      rw [rd_str] at k; subst k
      exact fin (t := .none) (.str _) e S
    · exact S.elim
  | tup y =>
    simp only [bltV, bLen, bList, bSum, bAll, bAny, bIsi] at S
    split at S
    · rename_i e
      obtain ⟨a, ys, rfl, t, _⟩ := rd_tup.mp k
      exact fin (t := .none) (.tup t.1) e S
    · exact S.elim
  | lst w y =>
    simp only [bltV, bLen, bList, bSum, bAll, bAny, bIsi] at S
    split at S
    · rename_i e
      obtain ⟨a, ys, rfl, t, _⟩ := rd_lst.mp k
      exact fin (t := .none) (.lst t) e S
    · exact S.elim

/-! ### methods -/
def rBm (c : Ct) (b : Bm) : V → List V → Hp → VK → Prop := fun x vs H Q => ∃ m h d ds, RH c m H h ∧ RD c.K c.H0 m H d x ∧ RDs c.K c.H0 m H ds vs ∧ SimD c m H (bmV b d ds h) Q
theorem bm_append : MtR X "list.append" (rBm c .append) := by
  intro pins s σ H x vs v us Q I rx r hq
  obtain ⟨m, h, d, ds, rh, k, rd, S⟩ := hq
  simp only [bmV, bmAppend] at S
  split at S
  · split at S
    · rename_i xs e1
      split at S
      · rename_i hz
        obtain ⟨w, rfl, kw⟩ := rds_one rd
        obtain ⟨a, rfl, g, ys, t, q⟩ := rh.atRef e1 k
        have hm : a ∈ m := List.mem_of_getElem? g
        have nh := rh.nohid g e1 (by simp)
        refine mt_append pins s σ H _ _ v us Q I rx r ⟨a, ys, w, rfl, rfl, t, by rw [← q.length, big_line]; exact hz, ?_⟩
        refine S m _ .non (Step.mut hm nh) (rh.mut g nh ⟨_, upd_same, RDs.step (Step.mut hm nh) _ (q.append (rds_cons.mpr ⟨w, [], rfl, kw, rds_nil.mpr rfl⟩))⟩) (rd_non.mpr rfl)
      · exact S.elim
    · exact S.elim
  · exact S.elim
theorem bm_extend : MtR X "list.extend" (rBm c .extend) := by
  intro pins s σ H x vs v us Q I rx r hq
  obtain ⟨m, h, d, ds, rh, k, rd, S⟩ := hq
  simp only [bmV, bmExtend] at S
  split at S
  · split at S
    · rename_i xs e1
      split at S
      · rename_i zs e2
        split at S
        · rename_i hz
          obtain ⟨w, rfl, kw⟩ := rds_one rd
          obtain ⟨a, rfl, g, ys, t, q⟩ := rh.atRef e1 k
          obtain ⟨b, ws, rfl, t2, q2⟩ := getL_ok rh kw e2
          have hm : a ∈ m := List.mem_of_getElem? g
          have nh := rh.nohid g e1 (by simp)
          refine mt_extend pins s σ H _ _ v us Q I rx r ⟨a, b, ys, ws, rfl, rfl, t, t2, by rw [← q.length, ← q2.length, big_line]; exact hz, ?_⟩
          refine S m _ .non (Step.mut hm nh) (rh.mut g nh ⟨_, upd_same, RDs.step (Step.mut hm nh) _ (q.append q2)⟩) (rd_non.mpr rfl)
        · exact S.elim
      · exact S.elim
    · exact S.elim
  · exact S.elim
theorem look_getD {κ κ' : Type} [BEq κ] [LawfulBEq κ] [DecidableEq κ'] {f : κ → κ'} {K : PySem.W.Frag} {H0 : Hp} {m : List Addr} {H : Hp} (inj : ∀ a b, f a = f b → a = b) {kvs : List (κ × D)} {zs : List (κ' × V)} {k : κ} {d : D} {z : V} (r : RKs f K H0 m H kvs zs) (q : RD K H0 m H d z) :
    RD K H0 m H ((lookA kvs k).getD d) ((valV zs (f k)).getD z) := by
  cases e : lookA kvs k with
  | none => rw [look_none inj r e]; exact q
  | some w => obtain ⟨v, hv, kv⟩ := look_some inj r e; rw [hv]; exact kv
theorem bm_get (hu : X.A.units + 1 < cLine) : MtR X "dict.get" (rBm c .get) := by
  intro pins s σ H x vs v us Q I rx r hq
  obtain ⟨m, h, d, ds, rh, k, rd, S⟩ := hq
  simp only [bmV, bmGet] at S
  split at S
  · skip
    obtain ⟨w1, w2, rfl, k1, k2⟩ := rds_two rd
    obtain ⟨u1, u2, rfl, r1, r2⟩ := Vals.two r
    split at S
    · rename_i kvs e1
      split at S
      · rename_i ky e2
        obtain ⟨a, rfl, g, zs, t, q⟩ := rh.atRef e1 k
        obtain ⟨b, rfl, hb⟩ := keyT_ok e2 k1
        obtain rfl : v = Value.ref a := rx
        exact d_get2 hu I (DGet.t t hb) r1 r2 fun w' s3 I3 rw' => ⟨_, H, I3, rw', S.ok_ rh (look_getD toKys_inj q k2)⟩
      · exact S.elim
    · rename_i kvs e1
      split at S
      · rename_i ky e2
        obtain ⟨a, rfl, g, zs, t, q⟩ := rh.atRef e1 k
        have := keyOf_ok e2 k1
        subst this
        obtain rfl : v = Value.ref a := rx
        exact d_get2 hu I (DGet.k t) r1 r2 fun w' s3 I3 rw' => ⟨_, H, I3, rw', S.ok_ rh (look_getD (fun _ _ => toKy_inj) q k2)⟩
      · exact S.elim
    · exact S.elim
  · exact S.elim

/-! ### truth -/
def rTru (c : Ct) : V → Hp → (Bool → Hp → Prop) → Prop := fun x H Q => ∃ m h d b, RH c m H h ∧ RD c.K c.H0 m H d x ∧ tru d h = some b ∧ Q b H
theorem isE {K : PySem.W.Frag} {H0 : Hp} {m : List Addr} {H : Hp} {xs : List D} {vs : List V} (q : RDs K H0 m H xs vs) : (!xs.isEmpty) = !vs.isEmpty := by
  have := q.length
  cases xs <;> cases vs <;> simp_all
theorem tru_d (hK : X.K = c.K) {x : V} {H : Hp} {Q : Bool → Hp → Prop} (hq : rTru c x H Q) : ∃ k, TruV X.K x H k ∧ Q k H := by
  obtain ⟨m, h, d, b, rh, k, e, hQ⟩ := hq
  refine ⟨b, ?_, hQ⟩
  cases d with
  | non => rw [rd_non] at k; subst k; simp only [tru, Option.some.injEq] at e; exact e.symm
  | bl i => rw [rd_bl] at k; subst k; simp only [tru, Option.some.injEq] at e; exact e.symm
  | int i => rw [rd_int] at k; subst k; simp only [tru, Option.some.injEq] at e; exact e.symm
  | str z =>
    rw [rd_str] at k
    subst k
    simp only [tru] at e
    split at e
    · rename_i hz
      simp only [Option.some.injEq] at e
      subst e
      refine ⟨by rw [toS_len, big_line]; exact hz, ?_⟩
      rw [toS_len]
      cases z <;> simp
      omega
    · cases e
  | tup xs =>
    obtain ⟨a, vs, rfl, t, q⟩ := rd_tup.mp k
    simp only [tru, Option.some.injEq] at e
    subst e
    exact .inr (.inl ⟨vs, t.sq, isE q⟩)
  | lst w xs =>
    obtain ⟨a, vs, rfl, t, _, _, q⟩ := rd_lst.mp k
    simp only [tru, Option.some.injEq] at e
    subst e
    exact .inl ⟨vs, SqL.of t, isE q⟩
  | scr ns => simp [tru] at e
  | ref n =>
    simp only [tru] at e
    split at e
    · rename_i e1
      simp only [Option.some.injEq] at e
      subst e
      obtain ⟨a, rfl, g, vs, t, q⟩ := rh.atRef e1 k
      exact .inl ⟨vs, SqL.of t, isE q⟩
    · rename_i kvs e1
      simp only [Option.some.injEq] at e
      subst e
      obtain ⟨a, rfl, g, zs, t, q⟩ := rh.atRef e1 k
      refine .inr (.inr ⟨zs, t, ?_⟩)
      have := congrArg List.length q.1
      simp at this
      cases kvs <;> cases zs <;> simp_all
    · cases e
end
end Px
/-! P7: expressions, tests, arguments, what is walked, targets -/
namespace Px
open PySem L2 PyProof.Rows

section
variable {X : Cx} {c : Ct} {pos : Pos} {a b e : Expr} {A B C : Ex} {t : TE}
theorem _root_.L2.PE.toR {A : Ex} (h : PE X e t) (k : ∀ σ H Q, rE c A σ H Q → t σ H Q) : PE X e (rE c A) := ⟨fun pins s σ H Q I q => h.run pins s σ H Q I (k σ H Q q)⟩
theorem _root_.L2.PT.toR {A : Tx} {t : TT} (h : PT X e t) (k : ∀ σ H Q, rT c A σ H Q → t σ H Q) : PT X e (rT c A) := ⟨fun pins s σ H Q I q => h.run pins s σ H Q I (k σ H Q q)⟩
theorem _root_.L2.PW.toR {A : Tx} {t : TT} (h : PW X e t) (k : ∀ σ H Q, rT c A σ H Q → t σ H Q) : PW X e (rT c A) := ⟨fun w pins s σ H Q I q => h.run w pins s σ H Q I (k σ H Q q)⟩
theorem _root_.L2.PA.toR {es : List Expr} {A : Ax} {t : TA} (h : PA X es t) (k : ∀ σ H Q, rA c A σ H Q → t σ H Q) : PA X es (rA c A) := ⟨fun p pins s σ H Q I q => h.run p pins s σ H Q I (k σ H Q q)⟩

theorem re_v {i : Nat} {x : Str} (hN : X.N[i]? = some x) (hv : Vis X.env.scope x) (h1 : (x == ("__debug__" : Str)) = false) (h2 : (x == ("__classdict__" : Str)) = false) : PE X (.Name x pos) (rE c (xV i)) :=
  (pe_var hN hv h1 h2).toR fun σ H Q ⟨m, h, σd, R, S⟩ => by
    unfold xV at S
    split at S
    · rename_i d hd
      obtain ⟨v, q, k⟩ := R.sl i d hd
      exact ⟨v, q, S.ok_ R.rh k⟩
    · exact S.elim
theorem re_c {d : D} {v : V} (h : PE X e (tC v)) (k : ∀ m H, RD c.K c.H0 m H d v) : PE X e (rE c (xC d)) :=
  h.toR fun σ H Q ⟨m, h, σd, R, S⟩ => S.ok_ R.rh (k m H)
theorem re_op (hK : X.K = c.K) (o : Op) (ha : PE X a (rE c A)) (hb : PE X b (rE c B)) : PE X (.BinOp a (opPy o) b pos) (rE c (xOp o A B)) :=
  (pe_op (opB_ok hK o) ha hb).toR fun σ H Q ⟨m, h, σd, R, S⟩ => ⟨m, h, σd, R, Sim.bind S fun d h1 m1 H1 v st rh rd S1 =>
    ⟨m1, h1, σd, R.step st rh, Sim.bind S1 fun e h2 m2 H2 w st2 rh2 rd2 S2 => ⟨m2, h2, d, e, rh2, rd.step st2, rd2, S2⟩⟩⟩
theorem re_neg (ha : PE X a (rE c A)) : PE X (.UnaryOp .USub a pos) (rE c (xNeg A)) :=
  (pe_un un_neg ha).toR fun σ H Q ⟨m, h, σd, R, S⟩ => ⟨m, h, σd, R, Sim.bind S fun d h1 m1 H1 v st rh rd S1 => by
    split at S1
    · exact ⟨_, rd_int.mp rd, S1.ok_ rh (rd_int.mpr rfl)⟩
    · exact S1.elim⟩
theorem ofO_ok {α β : Type} {R : List Addr → Hp → α → β → Prop} {m : List Addr} {H : Hp} {h : Hq} {o : Option α} {Q : β → Hp → Prop} (S : Sim R c m H (ofO o h) Q) : ∃ a, o = some a ∧ Sim R c m H (.ok a h) Q := by
  unfold ofO at S
  split at S
  · exact ⟨_, rfl, S⟩
  · exact S.elim
theorem re_cmp (hK : X.K = c.K) (hu : X.A.units + 65 < cLine) (k : Cm) (ha : PE X a (rE c A)) (hb : PE X b (rE c B)) (hm : behindInMarks (cmPy k) b = false) : PE X (.Compare a [cmPy k] [b] pos) (rE c (xT (tCm k A B))) :=
  (pe_cmpR (cmB_ok hK hu k) ha hb hm).toR fun σ H Q ⟨m, h, σd, R, S⟩ => by
    have S' : SimB c m H (tCm k A B σd h) fun b H => Q (.bl b) H := Sim.bind S fun b' h1 m1 H1 b'' st rh e S1 => by subst e; exact S1.ok_ rh (rd_bl.mpr rfl)
    refine ⟨m, h, σd, R, Sim.bind S' fun d h1 m1 H1 v st rh rd S1 => ⟨m1, h1, σd, R.step st rh, Sim.bind S1 fun e h2 m2 H2 w st2 rh2 rd2 S2 => ?_⟩⟩
    obtain ⟨k', e1, S3⟩ := ofO_ok S2
    exact ⟨m2, h2, d, e, k', rh2, rd.step st2, rd2, e1, S3.ok_ rh2 rfl⟩
theorem rt_cmp (hK : X.K = c.K) (hu : X.A.units + 65 < cLine) (k : Cm) (ha : PE X a (rE c A)) (hb : PE X b (rE c B)) (hm : behindInMarks (cmPy k) b = false) : PT X (.Compare a [cmPy k] [b] pos) (rT c (tCm k A B)) :=
  (pt_cmpR (cmB_ok hK hu k) ha hb hm).toR fun σ H Q ⟨m, h, σd, R, S'⟩ => by
    refine ⟨m, h, σd, R, Sim.bind S' fun d h1 m1 H1 v st rh rd S1 => ⟨m1, h1, σd, R.step st rh, Sim.bind S1 fun e h2 m2 H2 w st2 rh2 rd2 S2 => ?_⟩⟩
    obtain ⟨k', e1, S3⟩ := ofO_ok S2
    exact ⟨m2, h2, d, e, k', rh2, rd.step st2, rd2, e1, k', rfl, S3.ok_ rh2 rfl⟩
theorem rt_cmp2 (hK : X.K = c.K) (hu : X.A.units + 65 < cLine) (k l : Cm) (ha : PE X a (rE c A)) (hb : PE X b (rE c B)) (hc : PE X e (rE c C)) (hm : lastMarks [cmPy k, cmPy l] [b, e] = false) : PT X (.Compare a [cmPy k, cmPy l] [b, e] pos) (rT c (tCm2 k l A B C)) :=
  (pt_chain (cmB_ok hK hu k) (cmB_ok hK hu l) ha hb hc hm).toR fun σ H Q ⟨m, h, σd, R, S'⟩ => by
    refine ⟨m, h, σd, R, Sim.bind S' fun d h1 m1 H1 v st rh rd S1 => ⟨m1, h1, σd, R.step st rh, Sim.bind S1 fun e h2 m2 H2 w st2 rh2 rd2 S2 => ?_⟩⟩
    have S3 : SimB c m2 H2 (ofO (cmB k d e h2) h2) fun k H => if k = true then rE c C σ H fun w' H4 => rCm c l w w' H4 fun x H' => ∃ k, x = .bl k ∧ Q k H' else Q false H := Sim.bind S2 fun k' h3 m3 H3 k'' st3 rh3 e3 S3 => by
      subst e3
      cases k' with
      | false => exact S3.ok_ rh3 rfl
      | true =>
        rw [if_pos rfl] at S3 ⊢
        refine ⟨m3, h3, σd, ((R.step st rh).step st2 rh2).step st3 rh3, Sim.bind S3 fun z h4 m4 H4 w4 st4 rh4 rd4 S4 => ?_⟩
        obtain ⟨k5, e5, S5⟩ := ofO_ok S4
        exact ⟨m4, h4, e, z, k5, rh4, (rd2.step st3).step st4, rd4, e5, k5, rfl, S5.ok_ rh4 rfl⟩
    obtain ⟨k', e1, S4⟩ := ofO_ok S3
    refine ⟨m2, h2, d, e, k', rh2, rd.step st2, rd2, e1, k', rfl, ?_⟩
    have := S4.ok_ rh2 rfl
    cases k' with
    | true => simpa using this
    | false => simpa using this
theorem re_cmp2 (hK : X.K = c.K) (hu : X.A.units + 65 < cLine) (k l : Cm) (ha : PE X a (rE c A)) (hb : PE X b (rE c B)) (hc : PE X e (rE c C)) (hm : lastMarks [cmPy k, cmPy l] [b, e] = false) : PE X (.Compare a [cmPy k, cmPy l] [b, e] pos) (rE c (xT (tCm2 k l A B C))) :=
  (pe_chain (cmB_ok hK hu k) (cmB_ok hK hu l) ha hb hc hm).toR fun σ H Q ⟨m, h, σd, R, S0⟩ => by
    have S' : SimB c m H (tCm2 k l A B C σd h) fun b H => Q (.bl b) H := Sim.bind S0 fun b' h1 m1 H1 b'' st rh e S1 => by subst e; exact S1.ok_ rh (rd_bl.mpr rfl)
    refine ⟨m, h, σd, R, Sim.bind S' fun d h1 m1 H1 v st rh rd S1 => ⟨m1, h1, σd, R.step st rh, Sim.bind S1 fun e h2 m2 H2 w st2 rh2 rd2 S2 => ?_⟩⟩
    have S3 : SimB c m2 H2 (ofO (cmB k d e h2) h2) fun k H => if k = true then rE c C σ H fun w' H4 => rCm c l w w' H4 Q else Q (.bl false) H := Sim.bind S2 fun k' h3 m3 H3 k'' st3 rh3 e3 S3 => by
      subst e3
      cases k' with
      | false => exact S3.ok_ rh3 rfl
      | true =>
        rw [if_pos rfl] at S3 ⊢
        refine ⟨m3, h3, σd, ((R.step st rh).step st2 rh2).step st3 rh3, Sim.bind S3 fun z h4 m4 H4 w4 st4 rh4 rd4 S4 => ?_⟩
        obtain ⟨k5, e5, S5⟩ := ofO_ok S4
        exact ⟨m4, h4, e, z, k5, rh4, (rd2.step st3).step st4, rd4, e5, S5.ok_ rh4 rfl⟩
    obtain ⟨k', e1, S4⟩ := ofO_ok S3
    refine ⟨m2, h2, d, e, k', rh2, rd.step st2, rd2, e1, k', rfl, ?_⟩
    have := S4.ok_ rh2 rfl
    cases k' with
    | true => simpa using this
    | false => simpa using this

/-! tests -/
theorem rt_tru (hK : X.K = c.K) (ha : PE X a (rE c A)) (he : ∀ whole, isTrue a X.env whole = (do let v ← whole; standAt a.pos; holding [v] (truthy v))) : PT X a (rT c (tTr A)) :=
  (pt_truth ha he).toR fun σ H Q ⟨m, h, σd, R, S⟩ => ⟨m, h, σd, R, Sim.bind S fun d h1 m1 H1 v st rh rd S1 => by
    obtain ⟨k, e1, S2⟩ := ofO_ok S1
    exact tru_d hK ⟨m1, h1, d, k, rh, rd, e1, S2.ok_ rh rfl⟩⟩
theorem rt_val (ha : PE X a (rE c A)) (he : ∀ whole, isTrue a X.env whole = (do let v ← whole; standAt a.pos; holding [v] (truthy v))) : PT X a (rT c (tX A)) :=
  (pt_val ha he).toR fun σ H Q ⟨m, h, σd, R, S⟩ => ⟨m, h, σd, R, Sim.bind S fun d h1 m1 H1 v st rh rd S1 => by
    split at S1
    · exact ⟨_, rd_bl.mp rd, S1.ok_ rh rfl⟩
    · exact S1.elim⟩
variable {T U : Tx} {rest : List Expr}
theorem rt_not (ha : PT X a (rT c T)) : PT X (.UnaryOp .Not a pos) (rT c (tNot T)) :=
  (pt_not ha).toR fun σ H Q ⟨m, h, σd, R, S⟩ => ⟨m, h, σd, R, Sim.bind S fun d h1 m1 H1 v st rh rd S1 => by subst rd; exact S1.ok_ rh rfl⟩
theorem rw_one {op : BoolOp} (ha : PT X a (rT c T)) : PW X (.BoolOp op [a] pos) (rT c T) := by
  cases op with
  | And => exact pw_and1 ha
  | Or => exact pw_or1 ha
theorem rw_and (ha : PT X a (rT c T)) (hb : PW X (.BoolOp .And (b :: rest) pos) (rT c U)) : PW X (.BoolOp .And (a :: b :: rest) pos) (rT c (tAnd T U)) :=
  (pw_and ha hb).toR fun σ H Q ⟨m, h, σd, R, S⟩ => ⟨m, h, σd, R, Sim.bind S fun d h1 m1 H1 v st rh rd S1 => by
    subst rd
    cases d with
    | true => rw [if_pos rfl] at S1 ⊢; exact ⟨m1, h1, σd, R.step st rh, S1⟩
    | false => exact S1.ok_ rh rfl⟩
theorem rw_or (ha : PT X a (rT c T)) (hb : PW X (.BoolOp .Or (b :: rest) pos) (rT c U)) : PW X (.BoolOp .Or (a :: b :: rest) pos) (rT c (tOr T U)) :=
  (pw_or ha hb).toR fun σ H Q ⟨m, h, σd, R, S⟩ => ⟨m, h, σd, R, Sim.bind S fun d h1 m1 H1 v st rh rd S1 => by
    subst rd
    cases d with
    | false => rw [if_neg Bool.false_ne_true] at S1 ⊢; exact ⟨m1, h1, σd, R.step st rh, S1⟩
    | true => exact S1.ok_ rh rfl⟩
theorem re_one {op : BoolOp} (ha : PE X a (rE c A)) : PE X (.BoolOp op [a] pos) (rE c A) := pe_one ha
theorem re_and (ha : PE X a (rE c A)) (hb : PE X (.BoolOp .And (b :: rest) pos) (rE c B)) : PE X (.BoolOp .And (a :: b :: rest) pos) (rE c (xAnd A B)) :=
  (pe_and ha hb).toR fun σ H Q ⟨m, h, σd, R, S⟩ => ⟨m, h, σd, R, Sim.bind S fun d h1 m1 H1 v st rh rd S1 => by
    split at S1
    · exact ⟨true, rd_bl.mp rd, by rw [if_pos rfl]; exact ⟨m1, h1, σd, R.step st rh, S1⟩⟩
    · exact ⟨false, rd_bl.mp rd, by rw [if_neg Bool.false_ne_true]; exact S1.ok_ rh (rd_bl.mpr rfl)⟩
    · exact S1.elim⟩
theorem re_or (ha : PE X a (rE c A)) (hb : PE X (.BoolOp .Or (b :: rest) pos) (rE c B)) : PE X (.BoolOp .Or (a :: b :: rest) pos) (rE c (xOr A B)) :=
  (pe_or ha hb).toR fun σ H Q ⟨m, h, σd, R, S⟩ => ⟨m, h, σd, R, Sim.bind S fun d h1 m1 H1 v st rh rd S1 => by
    split at S1
    · exact ⟨true, rd_bl.mp rd, by rw [if_pos rfl]; exact S1.ok_ rh (rd_bl.mpr rfl)⟩
    · exact ⟨false, rd_bl.mp rd, by rw [if_neg Bool.false_ne_true]; exact ⟨m1, h1, σd, R.step st rh, S1⟩⟩
    · exact S1.elim⟩
theorem re_not (ha : PE X a (rE c A)) : PE X (.UnaryOp .Not a pos) (rE c (xNot A)) :=
  (pe_not ha).toR fun σ H Q ⟨m, h, σd, R, S⟩ => ⟨m, h, σd, R, Sim.bind S fun d h1 m1 H1 v st rh rd S1 => by
    split at S1
    · exact ⟨_, rd_bl.mp rd, S1.ok_ rh (rd_bl.mpr rfl)⟩
    · exact S1.elim⟩
theorem re_if (ht : PT X e (rT c T)) (ha : PE X a (rE c A)) (hb : PE X b (rE c B)) : PE X (.IfExp e a b pos) (rE c (xIf T A B)) :=
  (pe_ifExp ht ha hb).toR fun σ H Q ⟨m, h, σd, R, S⟩ => ⟨m, h, σd, R, Sim.bind S fun d h1 m1 H1 v st rh rd S1 => by
    subst rd
    cases d with
    | true => rw [if_pos rfl] at S1 ⊢; exact ⟨m1, h1, σd, R.step st rh, S1⟩
    | false => rw [if_neg Bool.false_ne_true] at S1 ⊢; exact ⟨m1, h1, σd, R.step st rh, S1⟩⟩

/-! arguments, displays -/
variable {es : List Expr} {L : Ax}
theorem ra_nil : PA X [] (rA c aNil) := pa_nil.toR fun σ H Q ⟨m, h, σd, R, S⟩ => S.ok_ R.rh (rds_nil.mpr rfl)
theorem ra_cons (ha : PE X a (rE c A)) (hr : PA X es (rA c L)) (hs : starEach (a :: es) X.env = (false, eval a X.env) :: starEach es X.env) : PA X (a :: es) (rA c (aCons A L)) :=
  (pa_cons ha hr hs).toR fun σ H Q ⟨m, h, σd, R, S⟩ => ⟨m, h, σd, R, Sim.bind S fun d h1 m1 H1 v st rh rd S1 => ⟨m1, h1, σd, R.step st rh, Sim.bind S1 fun ds h2 m2 H2 vs st2 rh2 rd2 S2 =>
    S2.ok_ rh2 (rds_cons.mpr ⟨v, vs, rfl, rd.step st2, rd2⟩)⟩⟩
theorem re_tup {k : Nat} (h : PA X es (rA c L)) : PE X (.Tuple es k pos) (rE c (xTup L)) :=
  (pe_tup h).toR fun σ H Q ⟨m, h, σd, R, S⟩ => ⟨m, h, σd, R, Sim.bind S fun ds h1 m1 H1 vs st rh rd S1 => by
    split at S1
    · rename_i hz
      exact ⟨by rw [← rd.length, big_line]; exact hz, fun p hp => lay_tup rh hp rd S1⟩
    · exact S1.elim⟩
theorem re_lst (h : PA X es (rA c L)) : PE X (.List es pos) (rE c (xLst L)) :=
  (pe_lst h).toR fun σ H Q ⟨m, h, σd, R, S⟩ => ⟨m, h, σd, R, Sim.bind S fun ds h1 m1 H1 vs st rh rd S1 => by
    split at S1
    · rename_i hz
      exact ⟨by rw [← rd.length, big_line]; exact hz, fun p hp => new_lst rh hp rd S1⟩
    · exact S1.elim⟩
theorem re_dnew (t : Bool) : PE X (.Dict [] [] pos) (rE c (xDN t)) := by
  cases t with
  | true => exact pe_dnewT.toR fun σ H Q ⟨m, h, σd, R, S⟩ p hp => new_ok (o := .dT []) R.rh hp ⟨[], upd_same, RKs.nil⟩ S
  | false => exact pe_dnewK.toR fun σ H Q ⟨m, h, σd, R, S⟩ p hp => new_ok (o := .dK []) R.rh hp ⟨[], upd_same, RKs.nil⟩ S
theorem re_ix (hK : X.K = c.K) (hu : X.A.units + 1 < cLine) (ha : PE X a (rE c A)) (hb : PE X b (rE c B)) (hs : PlainIx b) : PE X (.Subscript a b pos) (rE c (xIx A B)) :=
  (pe_ix (ix_ok hK hu) ha hb hs).toR fun σ H Q ⟨m, h, σd, R, S⟩ => ⟨m, h, σd, R, Sim.bind S fun d h1 m1 H1 v st rh rd S1 =>
    ⟨m1, h1, σd, R.step st rh, Sim.bind S1 fun e h2 m2 H2 w st2 rh2 rd2 S2 => by
      obtain ⟨z, e1, S3⟩ := ofO_ok S2
      exact ⟨m2, h2, d, e, z, rh2, rd.step st2, rd2, e1, fun v kv => S3.ok_ rh2 kv⟩⟩⟩
def rO (c : Ct) (x : Sl → Hq → Res (Option Int)) : TO := fun σ H Q => ∃ m h σd, Rel c m h σd σ H ∧ SimO c m H (x σd h) Q
theorem _root_.L2.PO.toR {e : Option Expr} {A : Sl → Hq → Res (Option Int)} {t : TO} (h : PO X e t) (k : ∀ σ H Q, rO c A σ H Q → t σ H Q) : PO X e (rO c A) := ⟨fun pins s σ H Q I q => h.run pins s σ H Q I (k σ H Q q)⟩
theorem ro_none : PO X none (rO c oNone) := po_none.toR fun σ H Q ⟨m, h, σd, R, S⟩ => S.ok_ R.rh rfl
theorem ro_some (ha : PE X a (rE c A)) : PO X (some a) (rO c (oSome A)) := (po_some ha).toR fun σ H Q ⟨m, h, σd, R, S⟩ => ⟨m, h, σd, R, Sim.bind S fun d h1 m1 H1 v st rh rd S1 => by
    split at S1
    · exact ⟨_, rd_int.mp rd, S1.ok_ rh rfl⟩
    · exact S1.elim⟩
theorem re_sl {lo hi : Option Expr} {l u : Sl → Hq → Res (Option Int)} {p2 : Pos} (hK : X.K = c.K) (ha : PE X a (rE c A)) (hl : PO X lo (rO c l)) (hh : PO X hi (rO c u)) : PE X (.Subscript a (.Slice lo hi none p2) pos) (rE c (xSl A l u)) :=
  (pe_slice (slc_ok hK) ha hl hh).toR fun σ H Q ⟨m, h, σd, R, S⟩ => ⟨m, h, σd, R, Sim.bind S fun d h1 m1 H1 v st rh rd S1 =>
    ⟨m1, h1, σd, R.step st rh, Sim.bind S1 fun o h2 m2 H2 o' st2 rh2 e2 S2 => ⟨m2, h2, σd, (R.step st rh).step st2 rh2, Sim.bind S2 fun o3 h3 m3 H3 o3' st3 rh3 e3 S3 => by
      subst e2 e3
      exact ⟨m3, h3, d, rh3, (rd.step st2).step st3, S3⟩⟩⟩⟩

/-! built-ins -/
theorem re_blt {b : Bl} {x : Str} {p : Pos} {f : Value} (hcall : CallR X f (rBlt c b)) (hf : (∃ id, f = .builtin id) ∨ ∃ T, f = .type T) (hg : Gl X x) (hm : X.mg x = none) (hv : bootBuiltins x = some f) (ha : PA X (a :: es) (rA c L)) (hn : x ≠ "__name__") (hd : (x == ("__debug__" : Str)) = false)
    (he : starEach (a :: es) X.env = (false, eval a X.env) :: starEach es X.env) (hpl : (backTo pos (starEach es X.env)).any (·.1) = false) : PE X (.Call (.Name x p) (a :: es) [] pos) (rE c (xBlt b L)) := by
  have k : ∀ σ H Q, rE c (xBlt b L) σ H Q → tCB (rBlt c b) (rA c L) σ H Q := fun σ H Q ⟨m, h, σd, R, S⟩ => ⟨m, h, σd, R, Sim.bind S fun ds h1 m1 H1 vs st rh rd S1 => ⟨m1, h1, ds, rh, rd, S1⟩⟩
  rcases hf with ⟨id, rfl⟩ | ⟨T, rfl⟩
  · exact (pe_callB hcall hg hm hv ha hn hd he hpl).toR k
  · exact (pe_callTy hcall hg hm hv ha hn hd he hpl).toR k
theorem re_isi {n : Nat} {p p2 : Pos} {x y : Str} (hK : X.K = c.K) (hx : x = "isinstance") (hy : y = isName n) (hg : Gl X x) (hm : X.mg x = none) (hg2 : Gl X y) (hm2 : X.mg y = none) (ha : PE X a (rE c A))
    (he : starEach (a :: [.Name y p2]) X.env = (false, eval a X.env) :: starEach [.Name y p2] X.env) : PE X (.Call (.Name x p) [a, .Name y p2] [] pos) (rE c (xBlt (.isi n) (aCons A aNil))) := by
  subst hx hy
  have hb : PE X (.Name (isName n) p2) (tC (.ty (isName n))) := by
    match n with
    | 0 => exact pe_bltn hg2 hm2 (by decide +kernel) rfl (by decide) (by decide)
    | 1 => exact pe_bltn hg2 hm2 (by decide +kernel) rfl (by decide) (by decide)
    | 2 => exact pe_bltn hg2 hm2 (by decide +kernel) rfl (by decide) (by decide)
    | 3 => exact pe_bltn hg2 hm2 (by decide +kernel) rfl (by decide) (by decide)
    | n + 4 => exact pe_bltn hg2 hm2 (by show bootBuiltins "bool" = some (.type "bool"); decide +kernel) rfl (by show (("bool" : Str)) ≠ "__name__"; decide) (by show (("bool" : Str) == "__debug__") = false; decide)
  refine (pe_callB (blt_isi hK n) hg hm (by decide +kernel) (pa_cons ha (pa_cons hb pa_nil) he) (by decide) (by decide) he (by rfl)).toR fun σ H Q ⟨m, h, σd, R, S⟩ => ?_
  have S' : SimA c m H (aCons A aNil σd h) fun vs H' => ∃ m h d x, RH c m H' h ∧ vs = [x] ∧ RD c.K c.H0 m H' d x ∧ SimD c m H' (bltV (.isi n) [d] h) Q := Sim.bind S fun ds h1 m1 H1 vs st rh rd S1 => by
    match ds, S1 with
    | [], S1 => exact S1.elim
    | _ :: _ :: _, S1 => exact S1.elim
    | [d], S1 =>
      obtain ⟨v, rfl, k⟩ := rds_one rd
      exact ⟨m1, h1, d, v, rh, rfl, k, S1⟩
  refine ⟨m, h, σd, R, Sim.bind S' fun d h1 m1 H1 v st rh rd S1 => ?_⟩
  obtain ⟨m', h', d', x', q1, q2, q3, q4⟩ := Sim.ok_ (R := fun m H d v => RDs c.K c.H0 m H d v) (b := [v]) S1 rh (rds_cons.mpr ⟨v, [], rfl, rd, rds_nil.mpr rfl⟩)
  simp only [List.cons.injEq, and_true] at q2
  subst q2
  exact ⟨m', h', d', _, q1, rfl, q3, q4⟩
end
end Px
/-! P8: targets, what is walked, statements -/
namespace Px
open PySem L2 PyProof.Rows

/-- the names' values -/
structure RelS (c : Ct) (m : List Addr) (H : Hp) (σd : Sl) (σ : L2.St) : Prop where
  st : Step [] c.m0 c.E0 m H
  ln : σd.length = σ.length
  sl : ∀ (i : Nat) d, σd[i]? = some (some d) → ∃ v, σ[i]? = some (some v) ∧ RD c.K c.H0 m H d v
theorem Rel.s {c : Ct} {m : List Addr} {h : Hq} {σd : Sl} {σ : L2.St} {H : Hp} (R : Rel c m h σd σ H) : RelS c m H σd σ := ⟨R.st, R.ln, R.sl⟩
theorem RelS.rel {c : Ct} {m : List Addr} {h : Hq} {σd : Sl} {σ : L2.St} {H : Hp} (R : RelS c m H σd σ) (k : RH c m H h) : Rel c m h σd σ H := ⟨k, R.st, R.ln, R.sl⟩

/-- how a target may change the slots -/
structure TgOk (P : L2.St → L2.St → Prop) : Prop where
  refl : ∀ σ, P σ σ
  trans : ∀ σ τ υ, P σ τ → P τ υ → P σ υ
abbrev anyP : L2.St → L2.St → Prop := fun _ _ => True
theorem anyP_ok : TgOk anyP := ⟨fun _ => trivial, fun _ _ _ _ _ => trivial⟩
def rG (c : Ct) (P : L2.St → L2.St → Prop) (g : Gx) : TG := fun v σ H Q => ∃ m h σd d, Rel c m h σd σ H ∧ RD c.K c.H0 m H d v ∧ Sim (fun m H σd' σ' => RelS c m H σd' σ' ∧ P σ σ') c m H (g d σd h) Q
def rGs (c : Ct) (P : L2.St → L2.St → Prop) (g : List D → Sl → Hq → Res Sl) : TGs := fun vs σ H Q => ∃ m h σd ds, Rel c m h σd σ H ∧ RDs c.K c.H0 m H ds vs ∧ Sim (fun m H σd' σ' => RelS c m H σd' σ' ∧ P σ σ') c m H (g ds σd h) Q
section
variable {X : Cx} {c : Ct} {pos : Pos} {tg : Expr} {P : L2.St → L2.St → Prop}
theorem _root_.L2.PG.toR {e : Expr} {g : Gx} {t : TG} (h : PG X e t) (k : ∀ v σ H Q, rG c P g v σ H Q → t v σ H Q) : PG X e (rG c P g) := ⟨fun pins s σ H v u Q I r q => h.run pins s σ H v u Q I r (k v σ H Q q)⟩
theorem _root_.L2.PGs.toR {es : List Expr} {g : List D → Sl → Hq → Res Sl} {t : TGs} (h : PGs X es t) (k : ∀ v σ H Q, rGs c P g v σ H Q → t v σ H Q) : PGs X es (rGs c P g) := ⟨fun pins s σ H v u Q I r q => h.run pins s σ H v u Q I r (k v σ H Q q)⟩
theorem rg_name {i : Nat} {x : Str} (hN : X.N.Nodup) (hi : X.N[i]? = some x) (hx : Loc X.env.scope x) (hf : X.fn x = true ∨ X.env.scope.names.lookup x = some .local) (hP : ∀ σ v, P σ (σ.set i (some v))) : PG X (.Name x pos) (rG c P (gN i)) :=
  (pg_name hN hi hx hf).toR fun v σ H Q ⟨m, h, σd, d, R, k, S⟩ => S.ok_ R.rh ⟨(R.set i k).s, hP σ v⟩
theorem rgs_nil (hP : TgOk P) : PGs X [] (rGs c P gsNil) := pgs_nil.toR fun vs σ H Q ⟨m, h, σd, ds, R, k, S⟩ => by
  cases ds with
  | nil => exact ⟨rds_nil.mp k, S.ok_ R.rh ⟨R.s, hP.refl σ⟩⟩
  | cons _ _ => exact S.elim
/-- the wish seen from a slot state on the way -/
theorem Sim.later {m : List Addr} {H : Hp} {σ τ : L2.St} {r : Res Sl} {Q : L2.St → Hp → Prop} (hP : TgOk P) (p : P σ τ) (S : Sim (fun m H σd' σ' => RelS c m H σd' σ' ∧ P σ σ') c m H r Q) : Sim (fun m H σd' σ' => RelS c m H σd' σ' ∧ P τ σ') c m H r Q := by
  cases r with
  | ok a h' => exact fun m' H' b st rh q => S m' H' b st rh ⟨q.1, hP.trans _ _ _ p q.2⟩
  | exc x σe h' => exact S
  | no => exact S
theorem rgs_cons {e : Expr} {es : List Expr} {g : Gx} {r : List D → Sl → Hq → Res Sl} (hP : TgOk P) (h1 : PG X e (rG c P g)) (h2 : PGs X es (rGs c P r)) (hs : (assignEach (e :: es) X.env).map (·.2) = assign e X.env :: (assignEach es X.env).map (·.2)) : PGs X (e :: es) (rGs c P (gsCons g r)) :=
  (pgs_cons h1 h2 hs).toR fun vs σ H Q ⟨m, h, σd, ds, R, k, S⟩ => by
    cases ds with
    | nil => exact S.elim
    | cons d ds =>
      obtain ⟨v, t, rfl, k1, k2⟩ := rds_cons.mp k
      exact ⟨v, t, rfl, m, h, σd, d, R, k1, Sim.bind S fun σ1 h1 m1 H1 σ1' st rh rs S1 => ⟨m1, h1, σ1, ds, rs.1.rel rh, RDs.step st ds k2, S1.later hP rs.2⟩⟩
theorem rg_tup {es : List Expr} {k n : Nat} {r : List D → Sl → Hq → Res Sl} (hK : X.K = c.K) (hc : X.calm = true) (h : PGs X es (rGs c P r)) (hn : (assignEach es X.env).length = n) (hst : (assignEach es X.env).findIdx? (·.1) = none) : PG X (.Tuple es k pos) (rG c P (gTup n r)) :=
  (pg_tup hc h hn hst).toR fun v σ H Q ⟨m, h, σd, d, R, k, S⟩ => by
    unfold gTup at S
    cases d with
    | tup xs =>
      simp only at S
      split at S
      · rename_i hz
        obtain ⟨a, vs, rfl, t, q⟩ := rd_tup.mp k
        exact ⟨a, vs, rfl, t.sq, by rw [← q.length]; exact eq_of_beq hz, m, h, σd, xs, R, q, S⟩
      · exact S.elim
    | _ => exact S.elim
theorem rg_sub {o i : Expr} {O I : Ex} (hP : TgOk P) (hu : X.A.units + 1 < cLine) (ho : PE X o (rE c O)) (hi : PE X i (rE c I))
    (ha : ∀ v, assign (.Subscript o i pos) X.env v = (do
      let ov ← holding [v] (eval o X.env)
      let iv ← holding [v, ov] (eval i X.env)
      standAt pos
      holding [v, ov, iv] (PySem.setItem ov iv v)
      release [v, ov, iv] [])) : PG X (.Subscript o i pos) (rG c P (gSub O I)) :=
  (pg_sub ho hi (set_ok hu) ha).toR fun v σ H Q ⟨m, h, σd, d, R, k, S⟩ => ⟨m, h, σd, R, Sim.bind S fun x h1 m1 H1 x' st rh rd S1 => ⟨m1, h1, σd, R.step st rh, Sim.bind S1 fun y h2 m2 H2 y' st2 rh2 rd2 S2 => by
    split at S2
    · rename_i h3 e3
      refine ⟨m2, h2, x, y, d, h3, rh2, rd.step st2, rd2, (k.step st).step st2, e3, fun H3 st3 rh3 => ?_⟩
      exact S2 m2 H3 σ st3 rh3 ⟨(((R.step st rh).step st2 rh2).step st3 rh3).s, hP.refl σ⟩
    · exact S2.elim⟩⟩

/-! ### what is walked -/
structure WalkD (c : Ct) (m : List Addr) (H : Hp) (J : L2.It) (ds : List D) : Prop where
  go : ∀ (i : Nat) m' H' h', Step c.hd m H m' H' → RH c m' H' h' → i < ds.length → J.go i H'
  stop : ∀ (i : Nat) m' H' h', Step c.hd m H m' H' → RH c m' H' h' → ds.length ≤ i → J.stop i H'
  yld : ∀ (i : Nat) d m' H' h' x H'', Step c.hd m H m' H' → RH c m' H' h' → ds[i]? = some d → J.yld i H' x H'' → (∀ hd, Step hd m' H' m' H'') ∧ RH c m' H'' h' ∧ RD c.K c.H0 m' H'' d x
def RIt (c : Ct) (m : List Addr) (H : Hp) (it : It) (J : L2.It) : Prop := match it with
  | .seq ds => WalkD c m H J ds
  | .live r => ∃ a, m[r]? = some a ∧ J = Itl c.K a
def rI (c : Ct) (w : Ix) : TI := fun σ H R => ∃ m h σd, Rel c m h σd σ H ∧ Sim (RIt c) c m H (w σd h) R
theorem _root_.L2.PI.toR {iter : Expr} {w : Ix} {t : TI} (h : PI X tg iter t) (k : ∀ σ H R, rI c w σ H R → t σ H R) : PI X tg iter (rI c w) := ⟨fun pins s σ H R I q => h.run pins s σ H R I (k σ H R q)⟩
theorem _root_.L2.PI.orR {iter : Expr} {t u : TI} (h : PI X tg iter t) (h' : PI X tg iter u) : PI X tg iter (fun σ H R => t σ H R ∨ u σ H R) := ⟨fun pins s σ H R I q => by
  rcases q with q | q
  · exact h.run pins s σ H R I q
  · exact h'.run pins s σ H R I q⟩
theorem walk_tup {m : List Addr} {H : Hp} {a : Addr} {vs : List V} {xs : List D} (t : TupAt m H a vs) (q : RDs c.K c.H0 m H xs vs) : WalkD c m H (Itt c.K a) xs where
  go := fun i m' H' h' st rh hi => ⟨vs, vs[i]'(by rw [← q.length]; exact hi), (t.step st).sq, List.getElem?_eq_getElem _⟩
  stop := fun i m' H' h' st rh hi => ⟨vs, (t.step st).sq, by rw [← q.length]; exact hi⟩
  yld := fun i d m' H' h' x H'' st rh hd hy => by
    obtain ⟨e, hy⟩ := hy
    subst e
    obtain ⟨v, hv, k⟩ := (q.step st).get hd
    have := hy vs (t.step st).sq
    rw [hv] at this
    cases this
    exact ⟨fun _ => .refl, rh, k⟩
theorem walk_lst {m : List Addr} {H : Hp} {a : Addr} {vs : List V} {xs : List D} (t : H a = some (.lst vs)) (n : a ∉ m) (q : RDs c.K c.H0 m H xs vs) : WalkD c m H (Itl c.K a) xs where
  go := fun i m' H' h' st rh hi => ⟨vs, vs[i]'(by rw [← q.length]; exact hi), SqL.of (st.keep a _ t n), List.getElem?_eq_getElem _⟩
  stop := fun i m' H' h' st rh hi => ⟨vs, SqL.of (st.keep a _ t n), by rw [← q.length]; exact hi⟩
  yld := fun i d m' H' h' x H'' st rh hd hy => by
    obtain ⟨e, hy⟩ := hy
    subst e
    obtain ⟨v, hv, k⟩ := (q.step st).get hd
    have := hy vs (SqL.of (st.keep a _ t n))
    rw [hv] at this
    cases this
    exact ⟨fun _ => .refl, rh, k⟩
theorem walk_str {m : List Addr} {H : Hp} {z : Cs} : WalkD c m H (Its (toS z)) (z.map fun c => .str [c]) where
  go := fun i m' H' h' st rh hi => by
    show i < z.toArray.size
    simpa using hi
  stop := fun i m' H' h' st rh hi => by
    show z.toArray.size ≤ i
    simpa using hi
  yld := fun i d m' H' h' x H'' st rh hd hy => by
    obtain ⟨e, ch, hc, rfl⟩ := hy
    subst e
    have hc' : z[i]? = some ch := by simpa using hc
    rw [List.getElem?_map, hc'] at hd
    simp only [Option.map_some, Option.some.injEq] at hd
    subst hd
    exact ⟨fun _ => .refl, rh, rd_str.mpr rfl⟩
theorem upto_len (lo st : Int) : ∀ n, (upto lo st n).length = n
  | 0 => rfl
  | n + 1 => by simp [upto, upto_len (lo + st) st n]
theorem upto_get : ∀ (n i : Nat) (lo st : Int), i < n → (upto lo st n)[i]? = some (.int (lo + i * st))
  | 0, _, _, _, h => absurd h (Nat.not_lt_zero _)
  | n + 1, 0, lo, st, _ => by simp [upto]
  | n + 1, i + 1, lo, st, h => by
    simp only [upto, List.getElem?_cons_succ]
    rw [upto_get n i (lo + st) st (by omega)]
    congr 2
    push_cast
    rw [Int.add_mul]
    omega
theorem walk_rng {m : List Addr} {H : Hp} {lo st : Int} {n : Nat} : WalkD c m H (Itc lo st n) (upto lo st n) where
  go := fun i m' H' h' _ rh hi => by rw [upto_len] at hi; exact hi
  stop := fun i m' H' h' _ rh hi => by rw [upto_len] at hi; exact hi
  yld := fun i d m' H' h' x H'' _ rh hd hy => by
    obtain ⟨e, rfl⟩ := hy
    subst e
    have hi : i < n := by have := (List.getElem?_eq_some_iff.mp hd).1; rw [upto_len] at this; exact this
    rw [upto_get n i lo st hi] at hd
    cases hd
    exact ⟨fun _ => .refl, rh, rd_int.mpr rfl⟩
theorem walk_rng1 {m : List Addr} {H : Hp} {lo : Int} {n : Nat} : WalkD c m H (Itr lo n) (upto lo 1 n) where
  go := fun i m' H' h' _ rh hi => by rw [upto_len] at hi; exact hi
  stop := fun i m' H' h' _ rh hi => by rw [upto_len] at hi; exact hi
  yld := fun i d m' H' h' x H'' _ rh hd hy => by
    obtain ⟨e, rfl⟩ := hy
    subst e
    have hi : i < n := by have := (List.getElem?_eq_some_iff.mp hd).1; rw [upto_len] at this; exact this
    rw [upto_get n i lo 1 hi] at hd
    cases hd
    exact ⟨fun _ => .refl, rh, rd_int.mpr (by rw [Int.mul_one])⟩
theorem rgOk_ok {i : Int} (h : rgOk i = true) : -(2 ^ 62) ≤ i ∧ i < 2 ^ 62 := by
  simp only [rgOk, Bool.and_eq_true, decide_eq_true_eq] at h
  omega
variable {a b e : Expr} {A B : Ex}
theorem ri_seq (hK : X.K = c.K) (ha : PE X a (rE c A)) : PI X tg a (rI c (iSeq A)) := by
  refine (((pi_list ha).orR (pi_tup ha)).orR (pi_str ha)).toR fun σ H R ⟨m, h, σd, RL, S⟩ => ?_
  rw [hK]
  unfold iSeq at S
  cases e : A σd h with
  | no => rw [e] at S; exact S.elim
  | exc x σe h' => rw [e] at S; exact .inl (.inl ⟨m, h, σd, RL, by rw [e]; exact S⟩)
  | ok d h1 =>
    rw [e] at S
    simp only [Res.bind] at S
    cases d with
    | str z => exact .inr ⟨m, h, σd, RL, by rw [e]; exact fun m1 H1 v st rh rd => ⟨toS z, rd_str.mp rd, S m1 H1 _ st rh walk_str⟩⟩
    | tup xs => exact .inl (.inr ⟨m, h, σd, RL, by
        rw [e]
        intro m1 H1 v st rh rd
        obtain ⟨a, vs, rfl, t, q⟩ := rd_tup.mp rd
        exact ⟨a, rfl, ⟨vs, t.sq⟩, S m1 H1 _ st rh (walk_tup t q)⟩⟩)
    | lst w xs => exact .inl (.inl ⟨m, h, σd, RL, by
        rw [e]
        intro m1 H1 v st rh rd
        obtain ⟨a, vs, rfl, t, n, _, q⟩ := rd_lst.mp rd
        exact ⟨a, rfl, ⟨vs, SqL.of t⟩, S m1 H1 _ st rh (walk_lst t n q)⟩⟩)
    | ref r => exact .inl (.inl ⟨m, h, σd, RL, by
        rw [e]
        intro m1 H1 v st rh rd
        dsimp only at S
        split at S
        · rename_i ys e1
          obtain ⟨a, rfl, g, vs, t, q⟩ := rh.atRef e1 rd
          exact ⟨a, rfl, ⟨vs, SqL.of t⟩, S m1 H1 _ st rh ⟨a, g, rfl⟩⟩
        · exact S.elim⟩)
    | _ => exact S.elim
theorem ri_rg1 {p : Pos} (hg : Gl X "range") (hm : X.mg "range" = none) (ha : PE X a (rE c A)) (hs : starEach [a] X.env = [(false, eval a X.env)]) : PI X tg (.Call (.Name "range" p) [a] [] pos) (rI c (iRg1 A)) :=
  (pi_range1 hg hm (pa_cons ha pa_nil (by rw [hs] <;> rfl)) hs).toR fun σ H R ⟨m, h, σd, RL, S⟩ => ⟨m, h, σd, RL, Sim.bind S fun d h1 m1 H1 v st rh rd S1 => by
    split at S1
    · split at S1
      · rename_i hz
        have := rd_int.mp rd
        subst this
        exact ⟨_, rfl, (rgOk_ok hz).1, (rgOk_ok hz).2, S1 m1 H1 _ .refl rh walk_rng1⟩
      · exact S1.elim
    · exact S1.elim⟩
theorem ri_rg2 {p : Pos} (hg : Gl X "range") (hm : X.mg "range" = none) (ha : PE X a (rE c A)) (hb : PE X b (rE c B)) (hs : starEach [a, b] X.env = [(false, eval a X.env), (false, eval b X.env)]) (hs2 : starEach [b] X.env = [(false, eval b X.env)]) : PI X tg (.Call (.Name "range" p) [a, b] [] pos) (rI c (iRg2 A B)) :=
  (pi_range2 hg hm (pa_cons ha (pa_cons hb pa_nil (by rw [hs2] <;> rfl)) (by rw [hs, hs2])) hs hs2).toR fun σ H R ⟨m, h, σd, RL, S⟩ => ⟨m, h, σd, RL, Sim.bind S fun d h1 m1 H1 v st rh rd S1 =>
    ⟨m1, h1, σd, RL.step st rh, Sim.bind S1 fun d2 h2 m2 H2 v2 st2 rh2 rd2 S2 => by
    split at S2
    · split at S2
      · rename_i hz
        have e1 := rd_int.mp rd
        have e2 := rd_int.mp rd2
        subst e1 e2
        simp only [Bool.and_eq_true] at hz
        exact ⟨_, _, rfl, ⟨(rgOk_ok hz.1).1, (rgOk_ok hz.1).2, (rgOk_ok hz.2).1, (rgOk_ok hz.2).2⟩, S2 m2 H2 _ .refl rh2 walk_rng1⟩
      · exact S2.elim
    · exact S2.elim⟩⟩
theorem ri_rgD {p p2 p3 : Pos} {k : Nat} (hg : Gl X "range") (hm : X.mg "range" = none) (ha : PE X a (rE c A)) (hb : PE X b (rE c B)) (hs : starEach [a, b, .UnaryOp .USub (.Constant (.int 1) k p2) p3] X.env = (false, eval a X.env) :: starEach [b, .UnaryOp .USub (.Constant (.int 1) k p2) p3] X.env)
    (hs2 : starEach [b, .UnaryOp .USub (.Constant (.int 1) k p2) p3] X.env = (false, eval b X.env) :: starEach [.UnaryOp .USub (.Constant (.int 1) k p2) p3] X.env) : PI X tg (.Call (.Name "range" p) [a, b, .UnaryOp .USub (.Constant (.int 1) k p2) p3] [] pos) (rI c (iRgD A B)) :=
  (pi_range3 hg hm (pa_cons ha (pa_cons hb (pa_cons (pe_un un_neg pe_int) pa_nil) hs2) hs) hs (by rw [hs2]; rfl)).toR fun σ H R ⟨m, h, σd, RL, S⟩ => ⟨m, h, σd, RL, Sim.bind S fun d h1 m1 H1 v st rh rd S1 =>
    ⟨m1, h1, σd, RL.step st rh, Sim.bind S1 fun d2 h2 m2 H2 v2 st2 rh2 rd2 S2 => by
    split at S2
    · split at S2
      · rename_i i j hz
        have e1 := rd_int.mp rd
        have e2 := rd_int.mp rd2
        subst e1 e2
        simp only [Bool.and_eq_true] at hz
        exact ⟨1, rfl, i, j, -1, _, rfl, RgC.neg (rgOk_ok hz.1).1 (rgOk_ok hz.1).2 (rgOk_ok hz.2).1 (rgOk_ok hz.2).2, S2 m2 H2 _ .refl rh2 walk_rng⟩
      · exact S2.elim
    · exact S2.elim⟩⟩
end
end Px
/-! P9: statements, loops, comprehensions -/
namespace Px
open PySem L2 PyProof.Rows

def FlOk (c : Ct) (m : List Addr) (H : Hp) (f : Fl) (D : Ends) : Prop := match f with
  | .nx σd => ∀ σ', RelS c m H σd σ' → D.nx σ' H
  | .bk σd => ∀ σ', RelS c m H σd σ' → D.bk σ' H
  | .ct σd => ∀ σ', RelS c m H σd σ' → D.ct σ' H
  | .rt d => ∀ v, RD c.K c.H0 m H d v → D.rt v H
def SimF (c : Ct) (m : List Addr) (H : Hp) (r : Res Fl) (D : Ends) : Prop := match r with
  | .ok f h' => ∀ m' H', Step c.hd m H m' H' → RH c m' H' h' → FlOk c m' H' f D
  | .exc x σe h' => ∀ m' H' cls da σ', Step c.hd m H m' H' → Rel c m' h' σe σ' H' → RX c m' H' x cls da → c.W cls da σ' H'
  | .no => False
def rS (c : Ct) (x : Sx) : TS := fun D σ H => ∃ m h σd, Rel c m h σd σ H ∧ SimF c m H (x σd h) D

section
variable {α β : Type} {R : List Addr → Hp → α → β → Prop} {c : Ct} {m m1 : List Addr} {H H1 : Hp} {h1 : Hq} {D : Ends}
theorem SimF.shift {r : Res Fl} (S : SimF c m H r D) (s : Step c.hd m H m1 H1) (k : RH c m1 H1 h1) : SimF c m1 H1 r D := by
  cases r with
  | ok a h' => exact fun m' H' t g => S m' H' (s.trans k t) g
  | exc x σe h' => exact fun m' H' cls da σ' t g q => S m' H' cls da σ' (s.trans k t) g q
  | no => exact S
theorem SimF.bind {r : Res α} {f : α → Hq → Res Fl} {P : β → Hp → Prop} (S : SimF c m H (r.bind f) D)
    (k : ∀ a h1 m1 H1 b, Step c.hd m H m1 H1 → RH c m1 H1 h1 → R m1 H1 a b → SimF c m1 H1 (f a h1) D → P b H1) : Sim R c m H r P := by
  cases r with
  | ok a h' => exact fun m' H' b t g q => k a h' m' H' b t g q (SimF.shift S t g)
  | exc x σe h' => exact S
  | no => exact S
theorem SimF.nx {σd : Sl} {h : Hq} {σ : L2.St} (S : SimF c m H (.ok (.nx σd) h) D) (k : RH c m H h) (r : RelS c m H σd σ) : D.nx σ H := S m H .refl k σ r
theorem SimF.rt {d : Px.D} {h : Hq} {v : V} (S : SimF c m H (.ok (.rt d) h) D) (k : RH c m H h) (r : RD c.K c.H0 m H d v) : D.rt v H := S m H .refl k v r
end

section
variable {X : Cx} {c : Ct} {pos : Pos} {a b e tg : Expr} {A B C : Ex} {T : Tx} {s u : Sx} {st : Stmt} {sts : List Stmt}
theorem _root_.L2.PS.toR {t : TS} (h : PS X st t) (k : ∀ D σ H, rS c s D σ H → t D σ H) : PS X st (rS c s) := ⟨fun pins s σ H D I q => h.run pins s σ H D I (k D σ H q)⟩
theorem _root_.L2.PSs.toR {t : TS} (h : PSs X sts t) (k : ∀ D σ H, rS c s D σ H → t D σ H) : PSs X sts (rS c s) := ⟨fun pins s σ H D I q => h.run pins s σ H D I (k D σ H q)⟩
theorem rss_nil : PSs X [] (rS c sNil) := pss_nil.toR fun D σ H ⟨m, h, σd, R, S⟩ => S.nx R.rh R.s
theorem rss_cons (h1 : PS X st (rS c s)) (h2 : PSs X sts (rS c u)) : PSs X (st :: sts) (rS c (sCons s u)) :=
  (pss_cons h1 h2).toR fun D σ H ⟨m, h, σd, R, S⟩ => ⟨m, h, σd, R, by
    unfold sCons at S
    cases e : s σd h with
    | no => rw [e] at S; exact S.elim
    | exc x σe h' => rw [e] at S; exact S
    | ok f h' =>
      rw [e] at S
      cases f with
      | nx σ1 => exact fun m1 H1 st1 rh1 σ' rs => ⟨m1, h', σ1, rs.rel rh1, SimF.shift S st1 rh1⟩
      | bk σ1 => exact S
      | ct σ1 => exact S
      | rt d => exact S⟩
theorem rs_pass : PS X (.Pass pos) (rS c sNil) := ps_pass.toR fun D σ H ⟨m, h, σd, R, S⟩ => S.nx R.rh R.s
theorem rs_bk : PS X (.Break pos) (rS c sBk) := ps_break.toR fun D σ H ⟨m, h, σd, R, S⟩ => S m H .refl R.rh σ R.s
theorem rs_ct : PS X (.Continue pos) (rS c sCt) := ps_continue.toR fun D σ H ⟨m, h, σd, R, S⟩ => S m H .refl R.rh σ R.s
theorem rs_exp (ha : PE X a (rE c A)) (hs : swapsWith a none pos.line X.env = pure false) : PS X (.Expr a pos) (rS c (sExp A)) :=
  (ps_expr ha hs).toR fun D σ H ⟨m, h, σd, R, S⟩ => ⟨m, h, σd, R, SimF.bind S fun d h1 m1 H1 v st rh rd S1 => S1.nx rh (R.step st rh).s⟩
theorem rs_ret (ha : PE X a (rE c A)) : PS X (.Return (some a) pos) (rS c (sRet A)) :=
  (ps_ret ha).toR fun D σ H ⟨m, h, σd, R, S⟩ => ⟨m, h, σd, R, SimF.bind S fun d h1 m1 H1 v st rh rd S1 => S1.rt rh rd⟩
theorem rs_retN : PS X (.Return none pos) (rS c sRetN) := ps_retN.toR fun D σ H ⟨m, h, σd, R, S⟩ => S.rt R.rh (rd_non.mpr rfl)
theorem rs_if {x y : List Stmt} (ht : PT X e (rT c T)) (ha : PSs X x (rS c s)) (hb : PSs X y (rS c u)) : PS X (.If e x y pos) (rS c (sIf T s u)) :=
  (ps_if ht ha hb).toR fun D σ H ⟨m, h, σd, R, S⟩ => ⟨m, h, σd, R, SimF.bind S fun d h1 m1 H1 v st rh rd S1 => by
    subst rd
    cases d with
    | true => rw [if_pos rfl] at S1 ⊢; exact ⟨m1, h1, σd, R.step st rh, S1⟩
    | false => rw [if_neg Bool.false_ne_true] at S1 ⊢; exact ⟨m1, h1, σd, R.step st rh, S1⟩⟩
/-- the target's part of an assignment -/
theorem asg_tail {g : Gx} {D : Ends} {σ : L2.St} {m1 : List Addr} {H1 : Hp} {h1 : Hq} {σd : Sl} {d : Px.D} {v : V} (R : Rel c m1 h1 σd σ H1) (rd : RD c.K c.H0 m1 H1 d v) (S1 : SimF c m1 H1 ((g d σd h1).bind fun σ h => .ok (.nx σ) h) D) : rG c anyP g v σ H1 D.nx :=
  ⟨m1, h1, σd, d, R, rd, SimF.bind S1 fun σ1 h2 m2 H2 σ' st2 rh2 rs S2 => S2.nx rh2 rs.1⟩
theorem rs_asg {g : Gx} (ha : PE X a (rE c A)) (hg : PG X tg (rG c anyP g)) (hs : swapsWithSole [tg] a pos.line X.env = pure false) (hw : swappedStores [tg] a X.env = pure none) (h1 : (assignEach [tg] X.env).map (·.2) = [assign tg X.env]) :
    PS X (.Assign [tg] a pos) (rS c (sAsg g A)) :=
  (ps_asg ha hg hs hw h1).toR fun D σ H ⟨m, h, σd, R, S⟩ => ⟨m, h, σd, R, SimF.bind S fun d h1 m1 H1 v st rh rd S1 => asg_tail (R.step st rh) rd S1⟩
theorem rs_set {i : Nat} {x : Str} {pos' : Pos} (hN : X.N.Nodup) (hi : X.N[i]? = some x) (hx : Loc X.env.scope x) (ha : PE X a (rE c A)) (hs : swapsWith a (some (.Name x pos')) pos.line X.env = pure false) (hf : X.fn x = true ∨ X.env.scope.names.lookup x = some .local) :
    PS X (.Assign [.Name x pos'] a pos) (rS c (sAsg (gN i) A)) :=
  (ps_set hN hi hx ha hs hf).toR fun D σ H ⟨m, h, σd, R, S⟩ => ⟨m, h, σd, R, SimF.bind S fun d h1 m1 H1 v st rh rd S1 => S1.nx rh ((R.step st rh).set i rd).s⟩
/-- two names, two values -/
def sPar (i j : Nat) (A B : Ex) : Sx := fun σ h => (A σ h).bind fun x h => (B σ h).bind fun y h => .ok (.nx ((σ.set i (some x)).set j (some y))) h
theorem rs_par {i j : Nat} {x y : Str} {px py pt : Pos} {kt k2 : Nat} {pt2 : Pos} (hc : X.calm = true) (hN : X.N.Nodup) (hi : X.N[i]? = some x) (hj : X.N[j]? = some y) (hij : i ≠ j)
    (hx : X.env.scope.names.lookup x = some .local) (hy : X.env.scope.names.lookup y = some .local) (ha : PE X a (rE c A)) (hb : PE X b (rE c B)) (h1 : starEach [a, b] X.env = (false, eval a X.env) :: starEach [b] X.env) (h2 : starEach [b] X.env = (false, eval b X.env) :: starEach [] X.env)
    (hw : swappedStores [.Tuple [.Name x px, .Name y py] kt pt] (.Tuple [a, b] k2 pt2) X.env = pure (some [x, y]))
    (hs : swapsWithSole [.Tuple [.Name x px, .Name y py] kt pt] (.Tuple [a, b] k2 pt2) pos.line X.env = pure false) :
    PS X (.Assign [.Tuple [.Name x px, .Name y py] kt pt] (.Tuple [a, b] k2 pt2) pos) (rS c (sPar i j A B)) :=
  (ps_par hc hN hi hj hij hx hy (pa_cons ha (pa_cons hb pa_nil h2) h1) hw hs).toR fun D σ H ⟨m, h, σd, R, S⟩ => ⟨m, h, σd, R, SimF.bind S fun d h1 m1 H1 v st rh rd S1 =>
    ⟨m1, h1, σd, R.step st rh, SimF.bind S1 fun d2 h2 m2 H2 v2 st2 rh2 rd2 S2 => ⟨v, v2, rfl, S2.nx rh2 ((((R.step st rh).step st2 rh2).set i (rd.step st2)).set j rd2).s⟩⟩⟩
theorem rs_aug {i : Nat} {x : Str} {pos' : Pos} (o : Op) (hN : X.N.Nodup) (hi : X.N[i]? = some x) (hx : Loc X.env.scope x) (ha : PE X a (rE c A)) (hf : X.fn x = true ∨ X.env.scope.names.lookup x = some .local) :
    PS X (.AugAssign (.Name x pos') (opPy o) a pos) (rS c (sAug i o A)) := by
  have ho : PIp X (opPy o) (rBin c (opI o)) := opI_ok o
  refine (ps_aug hN hi hx ha ho hf).toR fun D σ H ⟨m, h, σd, R, S⟩ => ?_
  unfold sAug at S
  split at S
  · rename_i d hd
    obtain ⟨v, q, k⟩ := R.sl i d hd
    refine ⟨v, q, m, h, σd, R, SimF.bind S fun e h1 m1 H1 w st rh rd S1 => ⟨m1, h1, d, e, rh, k.step st, rd, SimF.bind S1 fun z h2 m2 H2 z' st2 rh2 rd2 S2 => ?_⟩⟩
    exact S2.nx rh2 (((R.step st rh).step st2 rh2).set i rd2).s
  · exact S.elim
theorem rs_augS {o i : Expr} {O I : Ex} {tpos : Pos} (op : Op) (hu : X.A.units + 1 < cLine) (ho : PE X o (rE c O)) (hi : PE X i (rE c I)) (he : PE X a (rE c A))
    (ha : ∀ ov iv new, augStore i ov iv new = (do holding [new, ov, iv] (PySem.setItem ov iv new); release [new, ov, iv] []; pure .next)) :
    PS X (.AugAssign (.Subscript o i tpos) (opPy op) a pos) (rS c (sAugS op O I A)) := by
  have hop : PIp X (opPy op) (rBin c (opI op)) := opI_ok op
  refine (ps_augS ho hi (get_ok (c := c) hu) he hop (set_ok (c := c) hu) ha).toR fun D σ H ⟨m, h, σd, R, S⟩ => ?_
  refine ⟨m, h, σd, R, SimF.bind S fun x h1 m1 H1 x' st rh rd S1 => ⟨m1, h1, σd, R.step st rh, SimF.bind S1 fun y h2 m2 H2 y' st2 rh2 rd2 S2 => ?_⟩⟩
  cases e3 : getRef x y h2 with
  | none => rw [e3] at S2; exact S2.elim
  | some z =>
    rw [e3] at S2
    refine ⟨m2, h2, x, y, z, rh2, rd.step st2, rd2, e3, fun z' kz => ?_⟩
    have R2 := (R.step st rh).step st2 rh2
    refine ⟨m2, h2, σd, R2, SimF.bind (show SimF c m2 H2 ((A σd h2).bind _) D from S2) fun w h3 m3 H3 w' st3 rh3 rd3 S3 => ⟨m3, h3, z, w, rh3, kz.step st3, rd3, SimF.bind S3 fun n h4 m4 H4 n' st4 rh4 rd4 S4 => ?_⟩⟩
    split at S4
    · rename_i h5 e5
      refine ⟨m4, h4, x, y, n, h5, rh4, ((rd.step st2).step st3).step st4, (rd2.step st3).step st4, rd4, e5, fun H5 st5 rh5 => ?_⟩
      exact (SimF.shift S4 st5 rh5).nx rh5 (((R2.step st3 rh3).step st4 rh4).step st5 rh5).s
    · exact S4.elim

/-! ### for -/
theorem turn_body {g : Gx} {D : Ends} {m1 : List Addr} {H1 : Hp} {h1 : Hq} {σd : Sl} {σ : L2.St} {d : Px.D} {x : V} {k : Sl → Hq → Res Fl} {N : L2.St → Hp → Prop} (R : Rel c m1 h1 σd σ H1) (rd : RD c.K c.H0 m1 H1 d x)
    (S : SimF c m1 H1 (match g d σd h1 with
      | .ok σ1 h1 => (match s σ1 h1 with
        | .ok f h2 => (match f with
          | .nx σ2 => k σ2 h2
          | .ct σ2 => k σ2 h2
          | .bk σ2 => .ok (.nx σ2) h2
          | .rt d => .ok (.rt d) h2)
        | .exc x s h => .exc x s h
        | .no => .no)
      | .exc x s h => .exc x s h
      | .no => .no) D)
    (hN : ∀ m2 H2 h2 σ2 σ', Step c.hd m1 H1 m2 H2 → Rel c m2 h2 σ2 σ' H2 → SimF c m2 H2 (k σ2 h2) D → N σ' H2) :
    rG c anyP g x σ H1 fun σ2 H2 => rS c s { D with nx := N, ct := N, bk := D.nx } σ2 H2 := by
  refine ⟨m1, h1, σd, d, R, rd, ?_⟩
  cases e : g d σd h1 with
  | no => rw [e] at S; exact S.elim
  | exc x σe h' => rw [e] at S; exact S
  | ok σ1 h2 =>
    rw [e] at S
    intro m2 H2 σ2 st2 rh2 rs2
    refine ⟨m2, h2, σ1, rs2.1.rel rh2, ?_⟩
    have S := SimF.shift S st2 rh2
    dsimp only at S
    cases e2 : s σ1 h2 with
    | no => rw [e2] at S; exact S.elim
    | exc x σe h' => rw [e2] at S; exact S
    | ok f h3 =>
      rw [e2] at S
      cases f with
      | nx σ3 => exact fun m3 H3 st3 rh3 σ' rs => hN m3 H3 h3 σ3 σ' (st2.trans rh2 st3) (rs.rel rh3) (SimF.shift S st3 rh3)
      | ct σ3 => exact fun m3 H3 st3 rh3 σ' rs => hN m3 H3 h3 σ3 σ' (st2.trans rh2 st3) (rs.rel rh3) (SimF.shift S st3 rh3)
      | bk σ3 => exact S
      | rt d => exact S
theorem rs_for {w : Ix} {g : Gx} {iter : Expr} {body : List Stmt} (hK : X.K = c.K) (hp : PassesOwn (model X.prog X.w) X.A X.env X.xe) (hc : X.calm = true) (hi : PI X tg iter (rI c w)) (hg : PG X tg (rG c anyP g)) (hb : PSs X body (rS c s))
    (hs : ∀ x, foldedSetIterable iter X.env x = pure x) : PS X (.For tg iter body [] pos) (rS c (sFor w g s)) := by
  refine (ps_for hp hc hi hg hb hs).toR fun D σ H ⟨m, h, σd, R, S⟩ => ⟨m, h, σd, R, SimF.bind S fun it h1 m1 H1 J st rh hJ S1 => ?_⟩
  have R1 := R.step st rh
  cases it with
  | seq xs =>
    have hJ : WalkD c m1 H1 J xs := hJ
    refine ⟨fun i n σ' H' => ∃ m' h' σd', n = xs.length - i ∧ i ≤ xs.length ∧ Step c.hd m1 H1 m' H' ∧ Rel c m' h' σd' σ' H' ∧ SimF c m' H' (forSeq g s (xs.drop i) σd' h') D,
      ⟨xs.length, m1, h1, σd, by simp, Nat.zero_le _, .refl, R1, by simpa using S1⟩, ?_⟩
    rintro i n σ' H' ⟨m', h', σd', rfl, hi, st', R', S'⟩
    by_cases hlt : i < xs.length
    · refine .inr ⟨hJ.go i m' H' h' st' R'.rh hlt, fun σ' H' => ∃ m' h' σd', Step c.hd m1 H1 m' H' ∧ Rel c m' h' σd' σ' H' ∧ SimF c m' H' (forSeq g s (xs.drop (i + 1)) σd' h') D,
        fun σ2 H2 ⟨m2, h2, σd2, q1, q2, q3⟩ => ⟨xs.length - (i + 1), by omega, m2, h2, σd2, rfl, hlt, q1, q2, q3⟩, fun x H'' hy => ?_⟩
      obtain ⟨st2, rh2, rd2⟩ := hJ.yld i _ m' H' h' x H'' st' R'.rh (List.getElem?_eq_getElem hlt) hy
      have st2 := st2 c.hd
      rw [List.drop_eq_getElem_cons hlt] at S'
      have S2 := SimF.shift S' st2 rh2
      unfold forSeq at S2
      exact turn_body (R'.step st2 rh2) rd2 S2 fun m3 H3 h3 σ3 σ'' st3 R3 S3 => ⟨m3, h3, σ3, (st'.trans R'.rh st2).trans rh2 st3, R3, S3⟩
    · have : i = xs.length := by omega
      subst this
      rw [List.drop_length] at S'
      exact .inl ⟨hJ.stop _ m' H' h' st' R'.rh (Nat.le_refl _), SimF.nx (show SimF c m' H' (.ok (.nx σd') h') D from S') R'.rh R'.s⟩
  | live r =>
    obtain ⟨a, ha, rfl⟩ := hJ
    refine ⟨fun i n σ' H' => ∃ m' h' σd', Step c.hd m1 H1 m' H' ∧ Rel c m' h' σd' σ' H' ∧ SimF c m' H' (forLive g s r n i σd' h') D,
      ⟨lenAt h1 r, m1, h1, σd, .refl, R1, S1⟩, ?_⟩
    rintro i n σ' H' ⟨m', h', σd', st', R', S'⟩
    have look : ∀ {xs : List Px.D}, h'[r]? = some (.lst xs) → ∃ vs, H' a = some (.lst vs) ∧ RDs c.K c.H0 m' H' xs vs := fun {xs} e => by
      obtain ⟨vs, t, q⟩ := R'.rh.obj r _ a e (st'.get ha)
      exact ⟨vs, t, q⟩
    cases n with
    | zero =>
      unfold forLive at S'
      split at S'
      · rename_i xs e1
        obtain ⟨vs, t, q⟩ := look e1
        split at S'
        · rename_i hz
          exact .inl ⟨⟨vs, SqL.of t, by rw [← q.length]; exact hz⟩, SimF.nx S' R'.rh R'.s⟩
        · exact S'.elim
      · exact S'.elim
    | succ n =>
      unfold forLive at S'
      split at S'
      · rename_i xs e1
        obtain ⟨vs, t, q⟩ := look e1
        split at S'
        · rename_i e2
          exact .inl ⟨⟨vs, SqL.of t, by rw [← q.length]; exact List.getElem?_eq_none_iff.mp e2⟩, SimF.nx S' R'.rh R'.s⟩
        · rename_i d e2
          obtain ⟨x, hx, kx⟩ := q.get e2
          refine .inr ⟨⟨vs, x, SqL.of t, hx⟩, fun σ' H' => ∃ m' h' σd', Step c.hd m1 H1 m' H' ∧ Rel c m' h' σd' σ' H' ∧ SimF c m' H' (forLive g s r n (i + 1) σd' h') D,
            fun σ2 H2 q => ⟨n, Nat.lt_succ_self n, q⟩, fun y H'' hy => ?_⟩
          obtain ⟨e, hy⟩ := hy
          subst e
          have := hy vs (SqL.of t)
          rw [hx] at this
          cases this
          exact turn_body R' kx S' fun m3 H3 h3 σ3 σ'' st3 R3 S3 => ⟨m3, h3, σ3, st'.trans R'.rh st3, R3, S3⟩
      · exact S'.elim
/-! ### while -/
theorem rs_wh {body : List Stmt} (G : Gm) (hp : PassesOwn (model X.prog X.w) X.A X.env X.xe) (ht : PT X e (rT c T)) (hb : PSs X body (rS c s)) : PS X (.While e body [] pos) (rS c (sWh G T s)) := by
  refine (ps_while hp ht hb).toR fun D σ H ⟨m, h, σd, R, S⟩ => ?_
  refine ⟨fun n σ' H' => ∃ m' h' σd', Step c.hd m H m' H' ∧ Rel c m' h' σd' σ' H' ∧ SimF c m' H' (whil T s n σd' h') D, ⟨G.fuel, m, h, σd, .refl, R, S⟩, ?_⟩
  rintro n σ' H' ⟨m', h', σd', st', R', S'⟩
  refine ⟨m', h', σd', R', ?_⟩
  cases n with
  | zero => exact S'.elim
  | succ n =>
    unfold whil at S'
    cases e1 : T σd' h' with
    | no => rw [e1] at S'; exact S'.elim
    | exc x σe h2 => rw [e1] at S'; exact S'
    | ok b h2 =>
      rw [e1] at S'
      intro m2 H2 b' st2 rh2 eb
      subst eb
      have S' := SimF.shift S' st2 rh2
      have R2 := R'.step st2 rh2
      cases b with
      | false => exact SimF.nx S' rh2 R2.s
      | true =>
        rw [if_pos rfl]
        dsimp only at S'
        refine ⟨fun σ' H' => ∃ m' h' σd', Step c.hd m H m' H' ∧ Rel c m' h' σd' σ' H' ∧ SimF c m' H' (whil T s n σd' h') D, fun σ2 H2 q => ⟨n, Nat.lt_succ_self n, q⟩, m2, h2, σd', R2, ?_⟩
        cases e2 : s σd' h2 with
        | no => rw [e2] at S'; exact S'.elim
        | exc x σe h3 => rw [e2] at S'; exact S'
        | ok f h3 =>
          rw [e2] at S'
          have tr : Step c.hd m H m2 H2 := st'.trans R'.rh st2
          cases f with
          | nx σ3 => exact fun m3 H3 st3 rh3 σ'' rs => ⟨m3, h3, σ3, tr.trans rh2 st3, rs.rel rh3, SimF.shift S' st3 rh3⟩
          | ct σ3 => exact fun m3 H3 st3 rh3 σ'' rs => ⟨m3, h3, σ3, tr.trans rh2 st3, rs.rel rh3, SimF.shift S' st3 rh3⟩
          | bk σ3 => exact S'
          | rt d => exact S'
end
end Px
/-! P10: list comprehensions -/
namespace Px
open PySem L2 PyProof.Rows

/-- within a comprehension's block: the new list at D is being made, nothing may be raised -/
def Ct.blk (c : Ct) (D : Addr) : Ct := { c with W := fun _ _ _ _ => False, hd := D :: c.hd }
section
variable {c : Ct} {D : Addr} {m : List Addr} {H : Hp} {h : Hq}
theorem ro_blk {o : O} {a : Addr} : RO (c.blk D) m H o a ↔ RO c m H o a := by cases o <;> exact Iff.rfl
theorem RH.ofBlk (r : RH (c.blk D) m H h) : RH c m H h := ⟨r.len, r.nd, fun i o a e1 e2 => ro_blk.mp (r.obj i o a e1 e2), fun a ha => r.hid a (List.mem_cons_of_mem _ ha), r.dom⟩
theorem RH.toBlk (r : RH c m H h) {i : Nat} (e1 : m[i]? = some D) (e2 : h[i]? = some .hid) : RH (c.blk D) m H h := ⟨r.len, r.nd, fun i o a e1 e2 => ro_blk.mpr (r.obj i o a e1 e2), fun a ha => by
  rcases List.mem_cons.mp ha with rfl | ha
  · exact ⟨i, e1, e2⟩
  · exact r.hid a ha, r.dom⟩
theorem RH.atBlk (r : RH (c.blk D) m H h) : ∃ i : Nat, m[i]? = some D ∧ h[i]? = some .hid := r.hid D List.mem_cons_self
theorem rels_blk {σd : Sl} {σ : L2.St} : RelS (c.blk D) m H σd σ ↔ RelS c m H σd σ := ⟨fun r => ⟨r.st, r.ln, r.sl⟩, fun r => ⟨r.st, r.ln, r.sl⟩⟩
/-- the list that is being made grows -/
theorem RH.grow (r : RH (c.blk D) m H h) (xs : List V) : RH (c.blk D) m (upd H D (.lst xs)) h := by
  obtain ⟨i, e1, e2⟩ := r.atBlk
  have hm : D ∈ m := List.mem_of_getElem? e1
  refine ⟨r.len, r.nd, fun j o a q1 q2 => ?_, r.hid, dom_upd r.dom⟩
  by_cases hj : i = j
  · subst hj
    rw [e1] at q2
    rw [e2] at q1
    cases q1
    cases q2
    exact ⟨xs, upd_same⟩
  · have ha : a ≠ D := by rintro rfl; exact hj (nodup_ixA r.nd e1 q2)
    exact (r.obj j o a q1 q2).step r (Step.mut (hd := []) hm (by simp)) (upd_ne ha)
/-- .. is done -/
theorem RH.fill (r : RH (c.blk D) m H h) (nd : D ∉ c.hd) {i : Nat} (e : m[i]? = some D) {o : O} (k : RO c m H o D) : RH c m H (h.set i o) := by
  refine ⟨by simp [r.len], r.nd, fun j o' a e1 e2 => ?_, fun a ha => ?_, r.dom⟩
  · by_cases hj : i = j
    · subst hj
      rw [e] at e2
      cases e2
      rw [List.getElem?_set_self (by have := (List.getElem?_eq_some_iff.mp e).1; rw [r.len]; exact this)] at e1
      cases e1
      exact k
    · rw [List.getElem?_set_ne hj] at e1
      exact ro_blk.mp (r.obj j o' a e1 e2)
  · obtain ⟨j, e1, e2⟩ := r.hid a (List.mem_cons_of_mem _ ha)
    refine ⟨j, e1, ?_⟩
    rw [List.getElem?_set_ne ?_]
    · exact e2
    · rintro rfl
      rw [e] at e1
      cases e1
      exact nd ha
end

/-! slots -/
theorem wipe_get (σ : L2.St) (j : Nat) : ∀ vs : List Nat, (L2.wipe σ vs)[j]? = if j ∈ vs then (if j < σ.length then some none else none) else σ[j]?
  | [] => by simp [L2.wipe]
  | v :: vs => by
    unfold L2.wipe
    by_cases hj : v = j
    · subst hj
      simp only [List.mem_cons, true_or, if_true]
      by_cases hl : v < σ.length
      · rw [List.getElem?_set_self (by rw [wipe_length]; exact hl), if_pos hl]
      · rw [if_neg hl, List.getElem?_eq_none (by rw [List.length_set, wipe_length]; omega)]
    · rw [List.getElem?_set_ne hj, wipe_get σ j vs]
      have : (j ∈ v :: vs) ↔ j ∈ vs := by simp [Ne.symm hj]
      simp only [this]
theorem wipe_ext {σ τ : L2.St} {vs : List Nat} (hl : σ.length = τ.length) (h : ∀ j, j ∉ vs → σ[j]? = τ[j]?) : L2.wipe σ vs = L2.wipe τ vs := by
  apply List.ext_getElem?
  intro j
  rw [wipe_get, wipe_get, hl]
  split
  · rfl
  · rename_i hj; exact h j hj
theorem wipe_wipe (σ : L2.St) (vs : List Nat) : L2.wipe (L2.wipe σ vs) vs = L2.wipe σ vs :=
  wipe_ext (wipe_length σ vs) fun j hj => by rw [wipe_get, if_neg hj]
def wipeP (vs : List Nat) : L2.St → L2.St → Prop := fun σ τ => L2.wipe τ vs = L2.wipe σ vs
theorem wipeP_ok (vs : List Nat) : TgOk (wipeP vs) := ⟨fun _ => rfl, fun _ _ _ h1 h2 => h2.trans h1⟩
theorem wipeP_set {vs : List Nat} {i : Nat} (h : i ∈ vs) (σ : L2.St) (v : V) : wipeP vs σ (σ.set i (some v)) :=
  wipe_ext (by simp) fun j hj => List.getElem?_set_ne (by rintro rfl; exact hj h)

theorem lcSeq_len {g : Gx} {t : Tx} {e : Ex} {σ : Sl} : ∀ {xs acc : List D} {h : Hq} {ys : List D} {h' : Hq}, lcSeq g t e σ xs acc h = .ok ys h' → acc.length ≤ ys.length
  | [], acc, h, ys, h', q => by
    simp only [lcSeq, Res.ok.injEq] at q
    rw [← q.1]
    simp
  | x :: xs, acc, h, ys, h', q => by
    unfold lcSeq at q
    split at q
    · split at q
      · exact lcSeq_len q
      · split at q
        · have := lcSeq_len q
          simp at this
          omega
        · cases q
      · cases q
    · cases q
theorem lcLive_len {g : Gx} {t : Tx} {e : Ex} {σ : Sl} {r : Nat} : ∀ {n i : Nat} {acc : List D} {h : Hq} {ys : List D} {h' : Hq}, lcLive g t e σ r n i acc h = .ok ys h' → acc.length ≤ ys.length
  | 0, i, acc, h, ys, h', q => by
    unfold lcLive at q
    split at q
    · split at q
      · simp only [Res.ok.injEq] at q
        rw [← q.1]
        simp
      · cases q
    · cases q
  | n + 1, i, acc, h, ys, h', q => by
    unfold lcLive at q
    split at q
    · split at q
      · simp only [Res.ok.injEq] at q
        rw [← q.1]
        simp
      · split at q
        · split at q
          · exact lcLive_len q
          · split at q
            · have := lcLive_len q
              simp at this
              omega
            · cases q
          · cases q
        · cases q
    · cases q

/-- the end of a comprehension -/
def lcEnd (r : Nat) : Res (List D) → Res D
  | .ok ys h' => if ys.length ≤ big then .ok (.ref r) (h'.set r (.lst ys)) else .no
  | _ => .no
/-- the readings of a block's parts: whatever list is being made -/
def bG (c : Ct) (P : L2.St → L2.St → Prop) (g : Gx) : TG := fun v σ H Q => ∃ D, rG (c.blk D) P g v σ H Q
def bT (c : Ct) (t : Tx) : TT := fun σ H Q => ∃ D, rT (c.blk D) t σ H Q
def bE (c : Ct) (e : Ex) : TE := fun σ H Q => ∃ D, rE (c.blk D) e σ H Q
theorem bg_of {X : Cx} {c : Ct} {tg : Expr} {P : L2.St → L2.St → Prop} {g : Gx} (h : ∀ D, PG X tg (rG (c.blk D) P g)) : PG X tg (bG c P g) := ⟨fun pins s σ H v u Q I r ⟨D, q⟩ => (h D).run pins s σ H v u Q I r q⟩
theorem bt_of {X : Cx} {c : Ct} {ifs : List Expr} {t : Tx} (h : ∀ D, PTs X ifs (rT (c.blk D) t)) : PTs X ifs (bT c t) := ⟨fun pins s σ H Q I ⟨D, q⟩ => (h D).run pins s σ H Q I q⟩
theorem be_of {X : Cx} {c : Ct} {e : Expr} {x : Ex} (h : ∀ D, PE X e (rE (c.blk D) x)) : PE X e (bE c x) := ⟨fun pins s σ H Q I ⟨D, q⟩ => (h D).run pins s σ H Q I q⟩
/-- between the turns -/
structure LcSt (c : Ct) (D : Addr) (m1 : List Addr) (H1 : Hp) (Q : VK) (r : Nat) (m : List Addr) (H : Hp) (h : Hq) (acc : List Px.D) (R : Res (List Px.D)) : Prop where
  st : Step c.hd m1 H1 m H
  rh : RH (c.blk D) m H h
  at_ : ∃ vs, H D = some (.lst vs) ∧ RDs c.K c.H0 m H acc.reverse vs
  fin : SimD c m H (lcEnd r R) Q
section
variable {c : Ct} {D : Addr} {g : Gx} {t : Tx} {e : Ex} {vs : List Nat} {σd : Sl} {σ : L2.St} {m1 m : List Addr} {H1 H : Hp} {h : Hq} {Q : VK} {r : Nat} {acc : List Px.D}
theorem LcSt.stop (nd : D ∉ c.hd) (hr : m[r]? = some D) (L : LcSt c D m1 H1 Q r m H h acc (.ok acc.reverse h)) : Q (.ref D) H := by
  obtain ⟨ws, e1, q⟩ := L.at_
  have S := L.fin
  simp only [lcEnd] at S
  split at S
  · exact S.ok_ (L.rh.fill nd hr (o := .lst acc.reverse) ⟨ws, e1, q⟩) (rd_ref.mpr ⟨D, rfl, hr⟩)
  · exact S.elim
theorem lc_turn {d : Px.D} {x : V} {k : List Px.D → Hq → Res (List Px.D)} {Nx : Hp → Prop} (nd : D ∉ c.hd) (hr : m[r]? = some D) (hlen : ∀ {acc h ys h'}, k acc h = .ok ys h' → acc.length ≤ ys.length)
    (R : RelS c m H (Px.wipe σd vs) (L2.wipe σ vs)) (rd : RD c.K c.H0 m H d x)
    (L : LcSt c D m1 H1 Q r m H h acc (match g d (Px.wipe σd vs) h with
      | .ok σ1 h1 => (match t σ1 h1 with
        | .ok false h2 => k acc h2
        | .ok true h2 => (match e σ1 h2 with
          | .ok y h3 => k (y :: acc) h3
          | _ => .no)
        | _ => .no)
      | _ => .no))
    (hN : ∀ m H h acc, LcSt c D m1 H1 Q r m H h acc (k acc h) → Nx H) :
    bG c (wipeP vs) g x (L2.wipe σ vs) H fun σ2 H2 => L2.wipe σ2 vs = L2.wipe σ vs ∧ bT c t σ2 H2 fun b H3 => if b = true then bE c e σ2 H3 fun y H4 => ∃ acc, H4 D = some (.lst acc) ∧ acc.length < sizeLine ∧ Nx (upd H4 D (.lst (acc ++ [y]))) else Nx H3 := by
  obtain ⟨ws, e1, q⟩ := L.at_
  have S := L.fin
  refine ⟨D, m, h, Px.wipe σd vs, d, (rels_blk.mpr R).rel L.rh, rd, ?_⟩
  have hD : D ∈ (c.blk D).hd := List.mem_cons_self
  have wk : ∀ {m H m' H'}, Step (c.blk D).hd m H m' H' → Step c.hd m H m' H' := fun s => s.weak fun a ha => List.mem_cons_of_mem _ ha
  cases eg : g d (Px.wipe σd vs) h with
  | no => rw [eg] at S; exact S.elim
  | exc x σe h' => rw [eg] at S; exact S.elim
  | ok σ1 h2 =>
    rw [eg] at S
    dsimp only at S
    intro m2 H2 σ2 st2 rh2 rs2
    refine ⟨rs2.2.trans (wipe_wipe σ vs), D, m2, h2, σ1, rs2.1.rel rh2, ?_⟩
    have S := Sim.shift S (wk st2) rh2.ofBlk
    have f2 : H2 D = some (.lst ws) := st2.hid D _ e1 hD
    have q2 := RDs.step st2 _ q
    have tr2 : Step c.hd m1 H1 m2 H2 := L.st.trans L.rh.ofBlk (wk st2)
    cases et : t σ1 h2 with
    | no => rw [et] at S; exact S.elim
    | exc x σe h' => rw [et] at S; exact S.elim
    | ok b h3 =>
      rw [et] at S
      intro m3 H3 b' st3 rh3 eb
      subst eb
      have S := Sim.shift S (wk st3) rh3.ofBlk
      have f3 : H3 D = some (.lst ws) := st3.hid D _ f2 hD
      have q3 := RDs.step st3 _ q2
      have tr3 : Step c.hd m1 H1 m3 H3 := tr2.trans rh2.ofBlk (wk st3)
      cases b with
      | false =>
        rw [if_neg Bool.false_ne_true]
        exact hN m3 H3 h3 acc ⟨tr3, rh3, ⟨ws, f3, q3⟩, S⟩
      | true =>
        rw [if_pos rfl]
        dsimp only at S
        refine ⟨D, m3, h3, σ1, (rs2.1.rel rh2).step st3 rh3, ?_⟩
        cases ee : e σ1 h3 with
        | no => rw [ee] at S; exact S.elim
        | exc x σe h' => rw [ee] at S; exact S.elim
        | ok y h4 =>
          rw [ee] at S
          dsimp only at S
          intro m4 H4 w st4 rh4 rd4
          have S := Sim.shift S (wk st4) rh4.ofBlk
          have f4 : H4 D = some (.lst ws) := st4.hid D _ f3 hD
          have q4 := RDs.step st4 _ q3
          have tr4 : Step c.hd m1 H1 m4 H4 := tr3.trans rh3.ofBlk (wk st4)
          have hz : ws.length < sizeLine := by
            rw [← q4.length, List.length_reverse, big_line]
            cases ek : k (y :: acc) h4 with
            | no => rw [ek] at S; exact S.elim
            | exc x σe h' => rw [ek] at S; exact S.elim
            | ok ys h5 =>
              rw [ek] at S
              have hl := hlen ek
              simp only [lcEnd] at S
              split at S
              · rename_i hb
                simp at hl
                omega
              · exact S.elim
          refine ⟨ws, f4, hz, ?_⟩
          obtain ⟨i, i1, i2⟩ := rh4.atBlk
          have hm : D ∈ m4 := List.mem_of_getElem? i1
          have mu : Step c.hd m4 H4 m4 (upd H4 D (.lst (ws ++ [w]))) := Step.mut hm nd
          refine hN m4 _ h4 (y :: acc) ⟨tr4.trans rh4.ofBlk mu, rh4.grow _, ⟨_, upd_same, ?_⟩, Sim.shift S mu (rh4.grow _).ofBlk⟩
          rw [List.reverse_cons]
          exact RDs.step mu _ (q4.append (rds_cons.mpr ⟨w, [], rfl, rd4, rds_nil.mpr rfl⟩))
end

section
variable {X : Cx} {c : Ct} {g : Gx} {t : Tx} {e : Ex} {w : Ix} {elt tg iter : Expr} {ifs : List Expr} {scope : Scope} {own : List (Str × Nat)} {pos : Pos}
theorem lc_read (hK : X.K = c.K) (vs : List Nat) {σ : L2.St} {H : Hp} {Q : VK} (hq : rE c (xLc vs w g t e) σ H Q) : tLc (rI c w) (bG c (wipeP vs) g) (bT c t) (bE c e) vs σ H Q := by
  obtain ⟨m, h, σd, R, S⟩ := hq
  refine ⟨m, h, σd, R, Sim.bind S fun it h1 m1 H1 J st rh hJ S1 => fun D hD => ?_⟩
  have R1 := R.step st rh
  have nd : D ∉ c.hd := fun z => by
    obtain ⟨i, e1, _⟩ := rh.hid D z
    exact rh.live (List.mem_of_getElem? e1) hD
  have st1 : Step c.hd m1 H1 (m1 ++ [D]) (upd H1 D (.lst [])) := Step.new hD
  have rh1 : RH c (m1 ++ [D]) (upd H1 D (.lst [])) (h1 ++ [.hid]) := rh.new hD ⟨[], upd_same⟩
  have a1 : (m1 ++ [D])[h1.length]? = some D := by rw [rh.len]; simp
  have rhB : RH (c.blk D) (m1 ++ [D]) (upd H1 D (.lst [])) (h1 ++ [.hid]) := rh1.toBlk a1 (by simp)
  have RW := ((R1.step st1 rh1).wipe vs).s
  have S2 := Sim.shift S1 st1 rh1
  have later : ∀ {m' H' h'}, Step c.hd (m1 ++ [D]) (upd H1 D (.lst [])) m' H' → RH c m' H' h' → RelS c m' H' (Px.wipe σd vs) (L2.wipe σ vs) := fun s k => ((RW.rel rh1).step s k).s
  cases it with
  | seq xs =>
    have hJ : WalkD c m1 H1 J xs := hJ
    have S2 : SimD c (m1 ++ [D]) (upd H1 D (.lst [])) (lcEnd h1.length (lcSeq g t e (Px.wipe σd vs) xs [] (h1 ++ [.hid]))) Q := by
      unfold lcEnd
      exact S2
    refine ⟨fun i n H' => ∃ m' h' acc, n = xs.length - i ∧ i ≤ xs.length ∧ LcSt c D (m1 ++ [D]) (upd H1 D (.lst [])) Q h1.length m' H' h' acc (lcSeq g t e (Px.wipe σd vs) (xs.drop i) acc h'),
      ⟨xs.length, _, _, [], by simp, Nat.zero_le _, .refl, rhB, ⟨[], upd_same, rds_nil.mpr rfl⟩, by simpa using S2⟩, ?_⟩
    rintro i n H' ⟨m', h', acc, rfl, hi, L⟩
    have hr : m'[h1.length]? = some D := L.st.get a1
    have stJ : Step c.hd m1 H1 m' H' := st1.trans rh1 L.st
    by_cases hlt : i < xs.length
    · refine .inr ⟨hJ.go i m' H' h' stJ L.rh.ofBlk hlt, fun H' => ∃ m' h' acc, LcSt c D (m1 ++ [D]) (upd H1 D (.lst [])) Q h1.length m' H' h' acc (lcSeq g t e (Px.wipe σd vs) (xs.drop (i + 1)) acc h'),
        fun H2 ⟨m2, h2, acc2, q⟩ => ⟨xs.length - (i + 1), by omega, m2, h2, acc2, rfl, hlt, q⟩, fun x H'' hy => ?_⟩
      obtain ⟨sy, rh2, rd2⟩ := hJ.yld i _ m' H' h' x H'' stJ L.rh.ofBlk (List.getElem?_eq_getElem hlt) hy
      obtain ⟨ix, i1, i2⟩ := L.rh.atBlk
      obtain ⟨ws, f1, q1⟩ := L.at_
      have L2 : LcSt c D (m1 ++ [D]) (upd H1 D (.lst [])) Q h1.length m' H'' h' acc (lcSeq g t e (Px.wipe σd vs) (xs.drop i) acc h') :=
        ⟨L.st.trans L.rh.ofBlk (sy c.hd), rh2.toBlk i1 i2, ⟨ws, (sy (c.blk D).hd).hid D _ f1 List.mem_cons_self, RDs.step (sy c.hd) _ q1⟩, Sim.shift L.fin (sy c.hd) rh2⟩
      rw [List.drop_eq_getElem_cons hlt] at L2
      unfold lcSeq at L2
      exact lc_turn nd hr lcSeq_len (later L2.st rh2) rd2 L2 fun m H h acc q => ⟨m, h, acc, q⟩
    · have : i = xs.length := by omega
      subst this
      rw [List.drop_length] at L
      exact .inl ⟨hJ.stop _ m' H' h' stJ L.rh.ofBlk (Nat.le_refl _), LcSt.stop nd hr L⟩
  | live r =>
    obtain ⟨a, ha, rfl⟩ := hJ
    have S2 : SimD c (m1 ++ [D]) (upd H1 D (.lst [])) (lcEnd h1.length (lcLive g t e (Px.wipe σd vs) r (lenAt h1 r) 0 [] (h1 ++ [.hid]))) Q := by
      unfold lcEnd
      exact S2
    have ha' : (m1 ++ [D])[r]? = some a := st1.get ha
    refine ⟨fun i n H' => ∃ m' h' acc, LcSt c D (m1 ++ [D]) (upd H1 D (.lst [])) Q h1.length m' H' h' acc (lcLive g t e (Px.wipe σd vs) r n i acc h'),
      ⟨lenAt h1 r, _, _, [], .refl, rhB, ⟨[], upd_same, rds_nil.mpr rfl⟩, S2⟩, ?_⟩
    rintro i n H' ⟨m', h', acc, L⟩
    have hr : m'[h1.length]? = some D := L.st.get a1
    have look : ∀ {xs : List Px.D}, h'[r]? = some (.lst xs) → ∃ vs, H' a = some (.lst vs) ∧ RDs c.K c.H0 m' H' xs vs := fun {xs} e => by
      obtain ⟨vs, t, q⟩ := L.rh.ofBlk.obj r _ a e (L.st.get ha')
      exact ⟨vs, t, q⟩
    cases n with
    | zero =>
      have LL := L
      unfold lcLive at LL
      split at LL
      · rename_i xs e1
        obtain ⟨vs, t, q⟩ := look e1
        split at LL
        · rename_i hz
          exact .inl ⟨⟨vs, SqL.of t, by rw [← q.length]; exact hz⟩, LcSt.stop nd hr LL⟩
        · exact (show False from LL.fin).elim
      · exact (show False from LL.fin).elim
    | succ n =>
      have LL := L
      unfold lcLive at LL
      split at LL
      · rename_i xs e1
        obtain ⟨vs', t', q⟩ := look e1
        split at LL
        · rename_i e2
          exact .inl ⟨⟨vs', SqL.of t', by rw [← q.length]; exact List.getElem?_eq_none_iff.mp e2⟩, LcSt.stop nd hr LL⟩
        · rename_i d e2
          obtain ⟨x, hx, kx⟩ := q.get e2
          refine .inr ⟨⟨vs', x, SqL.of t', hx⟩, fun H' => ∃ m' h' acc, LcSt c D (m1 ++ [D]) (upd H1 D (.lst [])) Q h1.length m' H' h' acc (lcLive g t e (Px.wipe σd vs) r n (i + 1) acc h'),
            fun H2 q => ⟨n, Nat.lt_succ_self n, q⟩, fun y H'' hy => ?_⟩
          obtain ⟨e, hy⟩ := hy
          subst e
          have := hy vs' (SqL.of t')
          rw [hx] at this
          cases this
          exact lc_turn nd hr lcLive_len (later LL.st LL.rh.ofBlk) kx LL fun m H h acc q => ⟨m, h, acc, q⟩
      · exact (show False from LL.fin).elim
/-- as a value -/
theorem re_lc (hK : X.K = c.K) (hc : X.calm = true) (hN : X.N.Nodup) (hi : PI X tg iter (rI c w)) (ok : BlkOk X.N X.env.scope scope own)
    (hg : ∀ (D : Addr) (s : Shared) (H : Hp) (C : Addr) (cl : List (Str × Addr)) (fp : List Addr), PG (X.blk s H scope (compEnvC scope cl C X.env) fp) tg (rG (c.blk D) (wipeP (own.map (·.2))) g))
    (ht : ∀ (D : Addr) (s : Shared) (H : Hp) (C : Addr) (cl : List (Str × Addr)) (fp : List Addr), PTs (X.blk s H scope (compEnvC scope cl C X.env) fp) ifs (rT (c.blk D) t))
    (he : ∀ (D : Addr) (s : Shared) (H : Hp) (C : Addr) (cl : List (Str × Addr)) (fp : List Addr), PE (X.blk s H scope (compEnvC scope cl C X.env) fp) elt (rE (c.blk D) e)) (hs : ∀ x, foldedSetIterable iter X.env x = pure x) :
    PE X (.ListComp elt [⟨tg, iter, ifs, 0⟩] scope pos) (rE c (xLc (own.map (·.2)) w g t e)) :=
  (pe_lc hc hN hi ok (fun s H C cl fp => bg_of fun D => hg D s H C cl fp) (fun s H C cl fp => bt_of fun D => ht D s H C cl fp) (fun s H C cl fp => be_of fun D => he D s H C cl fp) hs).toR fun σ H Q hq => lc_read hK _ hq
theorem rs_setLc {i : Nat} {y : Str} {py spos : Pos} (hK : X.K = c.K) (hc : X.calm = true) (hN : X.N.Nodup) (hy : X.N[i]? = some y) (hyl : X.env.scope.names.lookup y = some .local)
    (hsw : swapsWith (.ListComp elt [⟨tg, iter, ifs, 0⟩] scope pos) (some (.Name y py)) spos.line X.env = pure true) (hi : PI X tg iter (rI c w)) (ok : BlkOk X.N X.env.scope scope own)
    (hg : ∀ (D : Addr) (s : Shared) (H : Hp) (C : Addr) (cl : List (Str × Addr)) (fp : List Addr), PG (X.blk s H scope (compEnvC scope cl C X.env) fp) tg (rG (c.blk D) (wipeP (own.map (·.2))) g))
    (ht : ∀ (D : Addr) (s : Shared) (H : Hp) (C : Addr) (cl : List (Str × Addr)) (fp : List Addr), PTs (X.blk s H scope (compEnvC scope cl C X.env) fp) ifs (rT (c.blk D) t))
    (he : ∀ (D : Addr) (s : Shared) (H : Hp) (C : Addr) (cl : List (Str × Addr)) (fp : List Addr), PE (X.blk s H scope (compEnvC scope cl C X.env) fp) elt (rE (c.blk D) e)) (hs : ∀ x, foldedSetIterable iter X.env x = pure x) :
    PS X (.Assign [.Name y py] (.ListComp elt [⟨tg, iter, ifs, 0⟩] scope pos) spos) (rS c (sAsg (gN i) (xLc (own.map (·.2)) w g t e))) :=
  (ps_setLc hc hN hy hyl hsw hi ok (fun s H C cl fp => bg_of fun D => hg D s H C cl fp) (fun s H C cl fp => bt_of fun D => ht D s H C cl fp) (fun s H C cl fp => be_of fun D => he D s H C cl fp) hs).toR fun D σ H ⟨m, h, σd, R, S⟩ =>
    lc_read hK _ ⟨m, h, σd, R, SimF.bind S fun d h1 m1 H1 v st rh rd S1 => S1.nx rh ((R.step st rh).set i rd).s⟩
end
end Px
/-! P11: calls -/
namespace Px
open PySem L2 PyProof.Rows

/-- in a def's body: K, the classes; what stood when readings were handed in; the entry; the wish -/
def cOf (K : PySem.W.Frag) (cl : Nat → Option Addr) (own : Hp) (hd : List Addr) (E0 : Hp) (m0 : List Addr) (E : XK) : Ct := ⟨K, own, E0, m0, fun cls da _ H => E cls da H, cl, hd⟩
def SimX (c : Ct) (m : List Addr) (H : Hp) (r : Res D) (Q : VK) (E : XK) : Prop := match r with
  | .ok d h' => ∀ m' H' v, Step c.hd m H m' H' → RH c m' H' h' → RD c.K c.H0 m' H' d v → Q v H'
  | .exc x _ h' => ∀ m' H' cls da, Step c.hd m H m' H' → RH c m' H' h' → RX c m' H' x cls da → E cls da H'
  | .no => False
/-- what a def that is run as r promises: n arguments -/
def spF (K : PySem.W.Frag) (cl : Nat → Option Addr) (n : Nat) (r : List D → Hq → Res D) : Sp := fun vs H Q E => vs.length = n ∧ ∃ own hd m h ds, RH (cOf K cl own hd H m E) m H h ∧ RDs K own m H ds vs ∧ SimX (cOf K cl own hd H m E) m H (r ds h) Q E

/-! another context with the same things -/
theorem RO.re {c c' : Ct} (k : c'.K = c.K) (o : c'.H0 = c.H0) (l : c'.cl = c.cl) {m : List Addr} {H : Hp} {x : O} {a : Addr} (h : RO c m H x a) : RO c' m H x a := by
  cases x with
  | lst xs => obtain ⟨vs, e, q⟩ := h; exact ⟨vs, e, by rw [k, o]; exact q⟩
  | dK xs => obtain ⟨vs, e, q⟩ := h; exact ⟨vs, e, by rw [k, o]; exact q⟩
  | dT xs => obtain ⟨vs, e, q⟩ := h; exact ⟨vs, e, by rw [k, o]; exact q⟩
  | ins n fs => obtain ⟨C, dx, zs, e1, e2, e3, q⟩ := h; exact ⟨C, dx, zs, by rw [l]; exact e1, e2, e3, by rw [k, o]; exact q⟩
  | hid => exact h
theorem RH.re {c c' : Ct} (k : c'.K = c.K) (o : c'.H0 = c.H0) (l : c'.cl = c.cl) (hd : ∀ a ∈ c'.hd, a ∈ c.hd) {m : List Addr} {H : Hp} {h : Hq} (r : RH c m H h) : RH c' m H h :=
  ⟨r.len, r.nd, fun i x a e1 e2 => (r.obj i x a e1 e2).re k o l, fun a ha => r.hid a (hd a ha), by rw [o]; exact r.dom⟩
theorem RX.re {c c' : Ct} (k : c'.K = c.K) (o : c'.H0 = c.H0) (l : c'.cl = c.cl) {m : List Addr} {H : Hp} {x : Xn} {cls : Value} {da : Option Addr} (h : RX c m H x cls da) : RX c' m H x cls da := by
  obtain ⟨C, e1, e2, q⟩ := h
  refine ⟨C, by rw [l]; exact e1, e2, ?_⟩
  cases e : x.fs with
  | nil => trivial
  | cons f fs =>
    rw [e] at q
    obtain ⟨a, zs, q1, q2, q3, q4, q5⟩ := q
    exact ⟨a, zs, q1, q2, q3, by rw [o]; exact q4, by rw [k, o]; exact q5⟩

section
variable {X : Cx} {c : Ct} {pos : Pos} {a : Expr} {es : List Expr} {L : Ax} {G : Gm}
/-- the facts of a def that is called -/
structure Callee (X : Cx) (c : Ct) (r : List D → Hq → Res D) (x : Str) (n : Nat) : Prop where
  ex : ∃ (f : Addr) (fd : FuncData) (ps : List Str) (k : Nat), FnOk X.prog X.w X.K X.mg X.base (L2.CX X.prog X.w) k f fd ps (spF X.K c.cl n r) ∧ Room k X.A ∧ X.mg x = some (.ref f) ∧ PySem.W.keepIn X.K (.ref f) = true ∧ Binds X.K fd ps []
/-- a call on the whole heap: the hidden lists are untouched, as nothing refers to them -/
theorem call_read (hK : X.K = c.K) {r : List D → Hq → Res D} {n : Nat} {σ : L2.St} {H : Hp} {Q : VK} {m : List Addr} {h : Hq} {σd : Sl} {ds : List D} {vs : List V} (hn : vs.length = n) (R : Rel c m h σd σ H) (rd : RDs c.K c.H0 m H ds vs)
    (S : SimD c m H (match r ds h with
      | .ok d h => .ok d h
      | .exc x _ h => .exc x σd h
      | .no => .no) Q) : spF X.K c.cl n r vs H Q (WE c.W σ) := by
  refine ⟨hn, c.H0, c.hd, m, h, ds, ?_, by rw [hK]; exact rd, ?_⟩
  · exact RH.re (c := c) (c' := cOf X.K c.cl c.H0 c.hd H m (WE c.W σ)) hK rfl rfl (fun a ha => ha) R.rh
  · cases e : r ds h with
    | no => rw [e] at S; exact S
    | ok d h' =>
      rw [e] at S
      intro m' H' v st rh k
      exact S m' H' v st (RH.re (c := cOf X.K c.cl c.H0 c.hd H m (WE c.W σ)) (c' := c) hK.symm rfl rfl (fun a ha => ha) rh) (by rw [← hK]; exact k)
    | exc x s h' =>
      rw [e] at S
      intro m' H' cls da st rh k
      have rh' : RH c m' H' h' := RH.re (c := cOf X.K c.cl c.H0 c.hd H m (WE c.W σ)) (c' := c) hK.symm rfl rfl (fun a ha => ha) rh
      exact S m' H' cls da σ st (R.step st rh') (RX.re (c := cOf X.K c.cl c.H0 c.hd H m (WE c.W σ)) (c' := c) hK.symm rfl rfl k)

/-! a call that is handed readings -/
theorem not_in_m {m : List Addr} {H : Hp} {h : Hq} (r : RH c m H h) {p : Addr} {o : HO} (e : H p = some o) (n : ∀ x, o ≠ .lst x) (n2 : ∀ x, o ≠ .dK x) (n3 : ∀ x, o ≠ .dT x) (n4 : ∀ x y z, o ≠ .ins x y z) : p ∉ m := fun q => by
  obtain ⟨i, hi, e2⟩ := List.getElem_of_mem q
  have hi' : i < h.length := by rw [r.len]; exact hi
  have ro := r.obj i h[i] p (List.getElem?_eq_getElem hi') (by rw [List.getElem?_eq_getElem hi, e2])
  cases eo : h[i] with
  | lst xs => rw [eo] at ro; obtain ⟨vs, q, _⟩ := ro; rw [e] at q; exact n _ (Option.some.inj q)
  | dK xs => rw [eo] at ro; obtain ⟨vs, q, _⟩ := ro; rw [e] at q; exact n2 _ (Option.some.inj q)
  | dT xs => rw [eo] at ro; obtain ⟨vs, q, _⟩ := ro; rw [e] at q; exact n3 _ (Option.some.inj q)
  | ins _ _ => rw [eo] at ro; obtain ⟨_, _, _, _, q, _⟩ := ro; rw [e] at q; exact n4 _ _ _ (Option.some.inj q)
  | hid => rw [eo] at ro; obtain ⟨vs, q⟩ := ro; rw [e] at q; exact n _ (Option.some.inj q)
/-- an answer is read to the ground by the caller: c0 the callee's context, (m, H) the caller's, (m', H') behind the call -/
theorem frz_false {c0 : Ct} {m m' : List Addr} {H H' : Hp} {h h' : Hq} (k0 : c0.K = c.K) (o0 : c0.H0 = H) (st : Step [] [] H m' H') (r' : RH c0 m' H' h') (r : RH c m H h) (r2 : RH c m H' h) :
    ∀ (n : Nat) {d e : D} {v : V}, frz h' false n d = some e → RD c0.K c0.H0 m' H' d v → RD c.K c.H0 m H' e v
  | 0, _, _, _, q, _ => by simp [frz] at q
  | n + 1, d, e, v, q, k => by
    have ih : ∀ {xs ys : List D} {vs : List V}, mapO (frz h' false n) xs = some ys → RDs c0.K c0.H0 m' H' xs vs → RDs c.K c.H0 m H' ys vs := fun q k => rds_mapO (fun d e v q k => frz_false k0 o0 st r' r r2 n q k) q k
    have nm : ∀ {a : Addr}, H a = none → a ∉ m := fun e z => r.live z e
    have nw : ∀ {a : Addr}, a ∈ m' → H a = none := fun {a} z => by
      obtain ⟨l, rfl, hl⟩ := st.more
      exact hl a (by simpa using z)
    unfold frz at q
    cases d with
    | tup xs =>
      simp only at q
      split at q
      · rename_i ys hy
        simp only [Option.some.injEq] at q
        subst q
        obtain ⟨a, vs, rfl, t, z⟩ := rd_tup.mp k
        exact rd_tup.mpr ⟨a, vs, rfl, ⟨t.1, not_in_m r2 t.1 (by simp) (by simp) (by simp) (by simp)⟩, ih hy z⟩
      · cases q
    | lst b xs =>
      simp only at q
      split at q
      · cases q
      · rename_i hb
        split at q
        · rename_i ys hy
          simp only [Option.some.injEq] at q
          subst q
          obtain ⟨a, vs, rfl, t, _, ow, z⟩ := rd_lst.mp k
          have hb' : b = false := by cases b <;> simp_all
          have e1 : H a = none := by rw [← o0]; exact ow hb'
          exact rd_lst.mpr ⟨a, vs, rfl, t, nm e1, fun _ => r.dom a e1, ih hy z⟩
        · cases q
    | ref i =>
      simp only at q
      split at q
      · rename_i xs hx
        split at q
        · rename_i ys hy
          simp only [Option.some.injEq] at q
          subst q
          obtain ⟨a, rfl, g, vs, t, z⟩ := r'.atRef hx k
          have e1 := nw (List.mem_of_getElem? g)
          exact rd_lst.mpr ⟨a, vs, rfl, t, nm e1, fun _ => r.dom a e1, ih hy z⟩
        · cases q
      · cases q
    | scr ns => simp at q
    | non => simp at q; subst q; exact rd_non.mpr (rd_non.mp k)
    | bl b => simp at q; subst q; exact rd_bl.mpr (rd_bl.mp k)
    | int b => simp at q; subst q; exact rd_int.mpr (rd_int.mp k)
    | str b => simp at q; subst q; exact rd_str.mpr (rd_str.mp k)
theorem frzFs_ok {c0 : Ct} {m m' : List Addr} {H H' : Hp} {h h' : Hq} (k0 : c0.K = c.K) (o0 : c0.H0 = H) (st : Step [] [] H m' H') (r' : RH c0 m' H' h') (r : RH c m H h) (r2 : RH c m H' h) :
    ∀ {fs gs : List (Cs × D)} {zs : List (Str × V)}, frzFs h' fs = some gs → RFs c0.K c0.H0 m' H' fs zs → RFs c.K c.H0 m H' gs zs
  | [], _, _, q, k => by simp [frzFs] at q; subst q; exact ⟨k.1, by have := k.2; simpa [rds_nil] using this⟩
  | (x, d) :: fs, gs, zs, q, k => by
    simp only [frzFs] at q
    split at q
    · cases q
    · rename_i e he
      split at q
      · cases q
      · rename_i s hs
        simp only [Option.some.injEq] at q
        subst q
        obtain ⟨k1, k2⟩ := k
        cases zs with
        | nil => simp at k1
        | cons z zs =>
          simp only [List.map_cons, List.cons.injEq] at k1 k2
          obtain ⟨w, t, e2, q1, q2⟩ := rds_cons.mp k2
          simp only [List.cons.injEq] at e2
          obtain ⟨rfl, rfl⟩ := e2
          have ih := frzFs_ok k0 o0 st r' r r2 hs ⟨k1.2, q2⟩
          exact ⟨by simp only [List.map_cons, k1.1, ih.1], rds_cons.mpr ⟨_, _, rfl, frz_false k0 o0 st r' r r2 deep he q1, ih.2⟩⟩
/-- all that stood stands -/
theorem Step.of0 {m m' : List Addr} {H H' : Hp} (hd : List Addr) (st : Step [] [] H m' H') : Step hd m H m H' := ⟨⟨[], by simp, by simp⟩, fun a o e _ => st.keep a o e (by simp), fun a o e _ => st.keep a o e (by simp)⟩
theorem RH.keepAll {m : List Addr} {H H' : Hp} {h : Hq} (r : RH c m H h) (s : ∀ a o, H a = some o → H' a = some o) : RH c m H' h := by
  refine ⟨r.len, r.nd, fun i o a e1 e2 => ?_, r.hid, fun a e => r.dom a ?_⟩
  · refine (r.obj i o a e1 e2).step r (hd := []) ⟨⟨[], by simp, by simp⟩, fun a o e _ => s a o e, fun a o e _ => s a o e⟩ ?_
    cases e : H a with
    | none => exact absurd e (r.live (List.mem_of_getElem? e2))
    | some o => rw [s a o e]
  · cases q : H a with
    | none => rfl
    | some o => rw [s a o q] at e; cases e
theorem pure_read (hK : X.K = c.K) {f : Nat} {n : Nat} {σ : L2.St} {H : Hp} {Q : VK} {m : List Addr} {h : Hq} {σd : Sl} {ds : List D} {vs : List V} (hn : vs.length = n) (R : Rel c m h σd σ H) (rd : RDs c.K c.H0 m H ds vs)
    (S : SimD c m H (pureCall G f ds σd h) Q) : spF X.K c.cl n (G.call f) vs H Q (WE c.W σ) := by
  unfold pureCall at S
  split at S
  · exact S.elim
  · rename_i ys hy
    refine ⟨hn, H, [], [], [], ys, ⟨rfl, List.nodup_nil, fun i o a e _ => by simp at e, fun a ha => (by exact absurd ha (by simp [cOf])), fun _ e => e⟩, ?_, ?_⟩
    · rw [hK]
      exact rds_mapO (fun d e v q k => frz_true R.rh H deep q k) hy rd
    · cases e : G.call f ys [] with
      | no => rw [e] at S; exact S
      | ok d h' =>
        rw [e] at S
        dsimp only at S
        split at S
        · rename_i z hz
          intro m' H' v st rh k
          have st : Step [] [] H m' H' := st
          have r2 : RH c m H' h := R.rh.keepAll fun a o e => st.keep a o e (by simp)
          exact S m H' v (st.of0 c.hd) r2 (frz_false (c0 := cOf X.K c.cl H [] H [] (WE c.W σ)) hK rfl st rh R.rh r2 deep hz k)
        · exact S.elim
      | exc x s h' =>
        rw [e] at S
        dsimp only at S
        split at S
        · rename_i gs hgs
          intro m' H' cls da st rh k
          have st : Step [] [] H m' H' := st
          have r2 : RH c m H' h := R.rh.keepAll fun a o e => st.keep a o e (by simp)
          refine S m H' cls da σ (st.of0 c.hd) (R.step (st.of0 []) r2) ?_
          obtain ⟨C, e1, e2, q⟩ := k
          refine ⟨C, e1, e2, ?_⟩
          cases ef : x.fs with
          | nil => rw [ef] at hgs; simp [frzFs] at hgs; subst hgs; trivial
          | cons p fs =>
            rw [ef] at q hgs
            obtain ⟨ad, zs, q1, q2, q3, q4, q5⟩ := q
            have := frzFs_ok (c0 := cOf X.K c.cl H [] H [] (WE c.W σ)) hK rfl st rh R.rh r2 hgs q5
            cases gs with
            | nil => trivial
            | cons g gs => exact ⟨ad, zs, q1, q2, not_in_m r2 q2 (by simp) (by simp) (by simp) (by simp), R.rh.dom ad q4, this⟩
        · exact S.elim

theorem re_call0 {x : Str} {p : Pos} {r : List D → Hq → Res D} {n : Nat} {A : Ex} (F : Callee X c r x n) (hx : ∀ σ, PassesAt (L2.CX X.prog X.w) X σ (WE c.W σ)) (hg : Gl X x) (ha : PA X (a :: es) (rA c L)) (hd : (x == ("__debug__" : Str)) = false)
    (he : starEach (a :: es) X.env = (false, eval a X.env) :: starEach es X.env) (hpl : (backTo pos (starEach es X.env)).any (·.1) = false)
    (k : ∀ σ H Q, rE c A σ H Q → rA c L σ H fun vs H1 => spF X.K c.cl n r vs H1 Q (WE c.W σ)) : PE X (.Call (.Name x p) (a :: es) [] pos) (rE c A) := by
  obtain ⟨f, fd, ps, k', Fo, hr, hm, hk, hb⟩ := F.ex
  exact (pe_callS Fo hr hg hm hk hb hx ha hd he hpl).toR k
/-- f(..) on the whole heap -/
theorem re_call {f : Nat} {x : Str} {p : Pos} {n : Nat} (hK : X.K = c.K) (F : Callee X c (G.call f) x n) (hx : ∀ σ, PassesAt (L2.CX X.prog X.w) X σ (WE c.W σ)) (hg : Gl X x) (ha : PA X (a :: es) (rA c L)) (hn : ∀ σ h ds h', L σ h = .ok ds h' → ds.length = n) (hd : (x == ("__debug__" : Str)) = false)
    (he : starEach (a :: es) X.env = (false, eval a X.env) :: starEach es X.env) (hpl : (backTo pos (starEach es X.env)).any (·.1) = false) : PE X (.Call (.Name x p) (a :: es) [] pos) (rE c (xCall G f L)) :=
  re_call0 F hx hg ha hd he hpl fun σ H Q ⟨m, h, σd, R, S⟩ => ⟨m, h, σd, R, by
    unfold xCall at S
    cases e : L σd h with
    | no => rw [e] at S; exact S
    | exc x s h' => rw [e] at S; exact S
    | ok ds h1 =>
      rw [e] at S
      intro m1 H1 vs st rh rd
      exact call_read hK (by rw [← rd.length]; exact hn _ _ _ _ e) (R.step st rh) rd (Sim.shift (show SimD c m H _ Q from S) st rh)⟩
/-- .. on readings -/
theorem re_pcall {f : Nat} {x : Str} {p : Pos} {n : Nat} (hK : X.K = c.K) (F : Callee X c (G.call f) x n) (hx : ∀ σ, PassesAt (L2.CX X.prog X.w) X σ (WE c.W σ)) (hg : Gl X x) (ha : PA X (a :: es) (rA c L)) (hn : ∀ σ h ds h', L σ h = .ok ds h' → ds.length = n) (hd : (x == ("__debug__" : Str)) = false)
    (he : starEach (a :: es) X.env = (false, eval a X.env) :: starEach es X.env) (hpl : (backTo pos (starEach es X.env)).any (·.1) = false) : PE X (.Call (.Name x p) (a :: es) [] pos) (rE c (xPure G f L)) :=
  re_call0 F hx hg ha hd he hpl fun σ H Q ⟨m, h, σd, R, S⟩ => ⟨m, h, σd, R, by
    unfold xPure at S
    cases e : L σd h with
    | no => rw [e] at S; exact S
    | exc x s h' => rw [e] at S; exact S
    | ok ds h1 =>
      rw [e] at S
      intro m1 H1 vs st rh rd
      exact pure_read hK (by rw [← rd.length]; exact hn _ _ _ _ e) (R.step st rh) rd (Sim.shift (show SimD c m H _ Q from S) st rh)⟩

/-! methods of built-in types -/
def bmT : Bm → String
  | .append => "list" | .extend => "list" | .get => "dict"
theorem bmTy_ok (hK : X.K = c.K) {b : Bm} {m : List Addr} {H : Hp} {h : Hq} {d : D} {x : V} (rh : RH c m H h) (rd : RD c.K c.H0 m H d x) (e : bmTy b d h = true) : tyV X.K (bmT b) x H := by
  have list : (getL h d).isSome = true → tyV X.K "list" x H := fun e => by
    obtain ⟨xs, e⟩ := Option.isSome_iff_exists.mp e
    obtain ⟨a, vs, rfl, t, _⟩ := getL_ok rh rd e
    exact .inl ⟨rfl, vs, SqL.of t⟩
  cases b with
  | append => exact list e
  | extend => exact list e
  | get =>
    cases d with
    | ref r =>
      simp only [bmTy] at e
      split at e
      · rename_i e1
        obtain ⟨a, rfl, _, zs, t, _⟩ := rh.atRef e1 rd
        exact .inr (.inr (.inl ⟨rfl, .inr ⟨zs, t⟩⟩))
      · rename_i e1
        obtain ⟨a, rfl, _, zs, t, _⟩ := rh.atRef e1 rd
        exact .inr (.inr (.inl ⟨rfl, .inl ⟨zs, t⟩⟩))
      · cases e
    | _ => simp [bmTy] at e
theorem re_bm {o : Expr} {O : Ex} {b : Bm} {id : String} {nm : Str} {apos : Pos} (hK : X.K = c.K) (pa : PlainAttrs (bmT b)) (slot : Slot (bmT b) nm id) (hty : typeOf (.builtin id) = pure (.type "method_descriptor")) (hm : MtR X id (rBm c b)) (ho : PE X o (rE c O)) (ha : PA X (a :: es) (rA c L))
    (hbase : attributeBase o nm X.env (eval o X.env) = eval o X.env)
    (hfew : ((backTo pos (starEach (a :: es) X.env)).all (fun x => !x.1) && (backToKw pos (keywordEach [] X.env)).all (fun x => x.1.isSome)
      && decide ((a :: es).length + ([] : List Keyword).length + (if ([] : List Keyword).isEmpty then 0 else 1) < 30)) = true)
    (hline : (apos.endLine == pos.line) = true) (hs : starEach (a :: es) X.env = (false, eval a X.env) :: starEach es X.env) (hplain : (backTo pos (starEach es X.env)).any (·.1) = false) :
    PE X (.Call (.Attribute o nm apos) (a :: es) [] pos) (rE c (xBm b O L)) :=
  (pe_bm pa slot hty hm ho ha hbase hfew hline hs hplain).toR fun σ H Q ⟨m, h, σd, R, S⟩ => ⟨m, h, σd, R, Sim.bind S fun d h1 m1 H1 v st rh rd S1 => by
    split at S1
    · rename_i hty
      exact ⟨bmTy_ok hK rh rd hty, m1, h1, σd, R.step st rh, Sim.bind S1 fun ds h2 m2 H2 vs st2 rh2 rd2 S2 => ⟨m2, h2, d, ds, rh2, rd.step st2, rd2, S2⟩⟩
    · exact S1.elim⟩
/-- a module's constant -/
theorem re_glob {g : Nat} {x : Str} {u : Value} {v : V} {d : D} (hg : Gl X x) (hm : X.mg x = some u) (r : RelV v u) (e : G.glob g = some d) (k : ∀ m H, RD c.K c.H0 m H d v) (hd : (x == ("__debug__" : Str)) = false) : PE X (.Name x pos) (rE c (xGl G g)) :=
  (pe_glob hg hm r hd).toR fun σ H Q ⟨m, h, σd, R, S⟩ => by
    unfold xGl at S
    rw [e] at S
    exact S.ok_ R.rh (k m H)
end
end Px
/-! P12: the text and its data agree; what agrees is run soundly -/
namespace Px
open PySem L2 PyProof.Rows

structure Cn where
  N : List Str
  sc : Scope
  fn : Str → Bool
/-- the names of what is called, of constants -/
structure Tb where
  fn : Nat → Option (Str × Nat)
  gl : Nat → Option Str
def Cn.blk (cn : Cn) (scope : Scope) : Cn := ⟨cn.N, relS scope cn.sc, fun x => scope.names.lookup x == some .cell⟩
def isGl (cn : Cn) (x : Str) : Bool := match cn.sc.names.lookup x with | some .globalImplicit => true | _ => false
def isVis (cn : Cn) (x : Str) : Bool := match cn.sc.names.lookup x with | some .local => true | some .cell => true | some .free => true | _ => false
def isLoc (cn : Cn) (x : Str) : Bool := match cn.sc.names.lookup x with | some .local => true | some .cell => cn.fn x | _ => false
def okN (x : Str) : Bool := !(x == ("__debug__" : Str)) && !(x == ("__classdict__" : Str))
def isN (cn : Cn) (i : Nat) (x : Str) : Bool := match cn.N[i]? with | some y => decide (y = x) | none => false
/-- neither a star, nor a slice, nor a set -/
def plX : Expr → Bool
  | .Starred .. => false | .Slice .. => false | .Set .. => false | _ => true
def noComp : Expr → Bool
  | .ListComp .. => false | .SetComp .. => false | .DictComp .. => false | _ => true
def plT : Expr → Bool
  | .UnaryOp .. => false | .BoolOp .. => false | .IfExp .. => false | .Compare .. => false | _ => true
def noTup : Expr → Bool
  | .Tuple .. => false | _ => true
def noSup : Expr → Bool
  | .Call (.Name _ _) [] [] _ => false | _ => true
def isTT : IT → Bool
  | .tt => true | _ => false
def lenA : IEs → Nat
  | .nil => 0 | .cons _ r => lenA r + 1
def owns (cn : Cn) (vs : List Nat) : List (Str × Nat) := vs.map fun i => ((cn.N[i]?).getD ⟨#[]⟩, i)
def bmName : Bm → Str
  | .append => "append" | .extend => "extend" | .get => "get"

mutual
def mE (tb : Tb) : IE → Cn → Expr → Bool
  | .v i, cn, e => match e with | .Name x _ => isN cn i x && isVis cn x && okN x | _ => false
  | .non, cn, e => match e with | .Constant .none _ _ => true | _ => false
  | .bl b, cn, e => match e with | .Constant (.bool b') _ _ => b == b' | _ => false
  | .int i, cn, e => match e with | .Constant (.int j) _ _ => i == j | _ => false
  | .str s, cn, e => match e with | .Constant (.str z) _ _ => decide (toS s = z) | _ => false
  | .glob g, cn, e => match e with | .Name x _ => decide (tb.gl g = some x) && isGl cn x && okN x | _ => false
  | .op o a b, cn, e => match e with | .BinOp l p r _ => decide (p = opPy o) && mE tb a cn l && mE tb b cn r | _ => false
  | .neg a, cn, e => match e with | .UnaryOp .USub x _ => mE tb a cn x | _ => false
  | .cmp k a b, cn, e => match e with | .Compare l [p] [r] _ => decide (p = cmPy k) && plX r && mE tb a cn l && mE tb b cn r | _ => false
  | .cmp2 k l a b d, cn, e => match e with | .Compare x [p, q] [y, z] _ => decide (p = cmPy k) && decide (q = cmPy l) && plX y && plX z && mE tb a cn x && mE tb b cn y && mE tb d cn z | _ => false
  | .andv a b, cn, e => match e with
    | .BoolOp .And [x, y] _ => mE tb a cn x && mE tb b cn y
    | .BoolOp .And (x :: y :: z :: r) pos => mE tb a cn x && mE tb b cn (.BoolOp .And (y :: z :: r) pos)
    | _ => false
  | .orv a b, cn, e => match e with
    | .BoolOp .Or [x, y] _ => mE tb a cn x && mE tb b cn y
    | .BoolOp .Or (x :: y :: z :: r) pos => mE tb a cn x && mE tb b cn (.BoolOp .Or (y :: z :: r) pos)
    | _ => false
  | .notv a, cn, e => match e with | .UnaryOp .Not x _ => mE tb a cn x | _ => false
  | .ifx t a b, cn, e => match e with | .IfExp c x y _ => mT tb t cn c && mE tb a cn x && mE tb b cn y | _ => false
  | .tup es, cn, e => match e with | .Tuple l _ _ => mA tb es cn l | _ => false
  | .lst es, cn, e => match e with | .List l _ => mA tb es cn l | _ => false
  | .dnew t, cn, e => match e with | .Dict [] [] _ => true | _ => false
  | .ix a i, cn, e => match e with | .Subscript x y _ => plX y && mE tb a cn x && mE tb i cn y | _ => false
  | .sl a lo hi, cn, e => match e with | .Subscript x (.Slice l u none _) _ => mE tb a cn x && mO tb lo cn l && mO tb hi cn u | _ => false
  | .call f es, cn, e => match e with | .Call (.Name x _) (a :: as) [] _ => decide (tb.fn f = some (x, lenA es)) && isGl cn x && okN x && mA tb es cn (a :: as) | _ => false
  | .pcall f es, cn, e => match e with | .Call (.Name x _) (a :: as) [] _ => decide (tb.fn f = some (x, lenA es)) && isGl cn x && okN x && mA tb es cn (a :: as) | _ => false
  | .pcallL _ _, _, _ => false
  | .blt (.isi n) (.cons d .nil), cn, e => match e with | .Call (.Name x _) [a, .Name y _] [] _ => decide (x = "isinstance") && decide (y = isName n) && isGl cn x && isGl cn y && plX a && mE tb d cn a | _ => false
  | .blt (.isi _) _, _, _ => false
  | .blt b es, cn, e => match e with | .Call (.Name x _) (a :: as) [] _ => decide (x = bltName b) && isGl cn x && mA tb es cn (a :: as) | _ => false
  | .bm b o es, cn, e => match e with | .Call (.Attribute x nm ap) (a :: as) [] p => decide (nm = bmName b) && (ap.endLine == p.line) && noSup x && decide ((a :: as).length < 29) && mE tb o cn x && mA tb es cn (a :: as) | _ => false
  | .lc vs w g t d, cn, e => match e with
    | .ListComp elt [⟨tg, iter, ifs, asy⟩] scope _ => decide (asy = 0) && blkC cn.N cn.sc scope (owns cn vs) && plX iter && mI tb w cn iter && mG tb g (cn.blk scope) (some vs) tg && (match ifs with | [] => isTT t | [x] => mT tb t (cn.blk scope) x | _ => false) && mE tb d (cn.blk scope) elt
    | _ => false
def mT (tb : Tb) : IT → Cn → Expr → Bool
  | .val a, cn, e => mE tb a cn e && plT e
  | .tru a, cn, e => mE tb a cn e && plT e
  | .cmp k a b, cn, e => match e with | .Compare l [p] [r] _ => decide (p = cmPy k) && plX r && mE tb a cn l && mE tb b cn r | _ => false
  | .cmp2 k l a b d, cn, e => match e with | .Compare x [p, q] [y, z] _ => decide (p = cmPy k) && decide (q = cmPy l) && plX y && plX z && mE tb a cn x && mE tb b cn y && mE tb d cn z | _ => false
  | .and a b, cn, e => match e with
    | .BoolOp .And [x, y] _ => mT tb a cn x && mT tb b cn y
    | .BoolOp .And (x :: y :: z :: r) pos => mT tb a cn x && mT tb b cn (.BoolOp .And (y :: z :: r) pos)
    | _ => false
  | .or a b, cn, e => match e with
    | .BoolOp .Or [x, y] _ => mT tb a cn x && mT tb b cn y
    | .BoolOp .Or (x :: y :: z :: r) pos => mT tb a cn x && mT tb b cn (.BoolOp .Or (y :: z :: r) pos)
    | _ => false
  | .not a, cn, e => match e with | .UnaryOp .Not x _ => mT tb a cn x | _ => false
  | .tt, _, _ => false
def mA (tb : Tb) : IEs → Cn → List Expr → Bool
  | .nil, cn, l => match l with | [] => true | _ => false
  | .cons e es, cn, l => match l with | x :: r => plX x && mE tb e cn x && mA tb es cn r | _ => false
def mO (tb : Tb) : IO → Cn → Option Expr → Bool
  | .none, cn, o => match o with | none => true | _ => false
  | .some e, cn, o => match o with | some x => mE tb e cn x | _ => false
def mI (tb : Tb) : II → Cn → Expr → Bool
  | .seq a, cn, e => mE tb a cn e
  | .rg1 a, cn, e => match e with | .Call (.Name x _) [p] [] _ => decide (x = "range") && isGl cn x && plX p && mE tb a cn p | _ => false
  | .rg2 a b, cn, e => match e with | .Call (.Name x _) [p, q] [] _ => decide (x = "range") && isGl cn x && plX p && plX q && mE tb a cn p && mE tb b cn q | _ => false
  | .rgD a b, cn, e => match e with | .Call (.Name x _) [p, q, .UnaryOp .USub (.Constant (.int j) _ _) _] [] _ => decide (x = "range") && decide (j = 1) && isGl cn x && plX p && plX q && mE tb a cn p && mE tb b cn q | _ => false
def mG (tb : Tb) : IG → Cn → Option (List Nat) → Expr → Bool
  | .name i, cn, vs, e => match e with | .Name x _ => isN cn i x && isLoc cn x && (match vs with | none => true | some l => decide (i ∈ l)) | _ => false
  | .tup n gs, cn, vs, e => match e with | .Tuple l _ _ => decide (l.length = n) && mGs tb gs cn vs l | _ => false
  | .sub o i, cn, vs, e => match e with | .Subscript x y _ => plX y && mE tb o cn x && mE tb i cn y | _ => false
def mGs (tb : Tb) : IGs → Cn → Option (List Nat) → List Expr → Bool
  | .nil, cn, vs, l => match l with | [] => true | _ => false
  | .cons g gs, cn, vs, l => match l with | x :: r => mG tb g cn vs x && mGs tb gs cn vs r | _ => false
def mS (tb : Tb) : IS → Cn → Stmt → Bool
  | .asg g e, cn, s => match s with | .Assign [tg] v _ => mG tb g cn none tg && mE tb e cn v && (noTup tg || noTup v) | _ => false
  | .aug i o e, cn, s => match s with | .AugAssign (.Name x _) p v _ => decide (p = opPy o) && isN cn i x && isLoc cn x && mE tb e cn v | _ => false
  | .augS o a i e, cn, s => match s with | .AugAssign (.Subscript x y _) p v _ => decide (p = opPy o) && plX y && mE tb a cn x && mE tb i cn y && mE tb e cn v | _ => false
  | .exp e, cn, s => match s with | .Expr v _ => noComp v && mE tb e cn v | _ => false
  | .ret e, cn, s => match s with | .Return (some v) _ => mE tb e cn v | _ => false
  | .retN, cn, s => match s with | .Return none _ => true | _ => false
  | .pass, cn, s => match s with | .Pass _ => true | _ => false
  | .brk, cn, s => match s with | .Break _ => true | _ => false
  | .cont, cn, s => match s with | .Continue _ => true | _ => false
  | .iff t a b, cn, s => match s with | .If c x y _ => mT tb t cn c && mSs tb a cn x && mSs tb b cn y | _ => false
  | .for w g b, cn, s => match s with | .For tg iter body [] _ => plX iter && mI tb w cn iter && mG tb g cn none tg && mSs tb b cn body | _ => false
  | .wh t b, cn, s => match s with | .While c body [] _ => mT tb t cn c && mSs tb b cn body | _ => false
def mSs (tb : Tb) : ISs → Cn → List Stmt → Bool
  | .nil, cn, l => match l with | [] => true | _ => false
  | .cons s r, cn, l => match l with | x :: t => mS tb s cn x && mSs tb r cn t | _ => false
end
end Px
/-! P13: what agrees is run soundly -/
namespace Px
open PySem L2 PyProof.Rows

def bNames : List Str := ["range", "isinstance", "list", "tuple", "str", "int", "bool", "len", "abs", "sum", "all", "any"]
structure Good (tb : Tb) (cn : Cn) (c : Ct) (G : Gm) (X : Cx) : Prop where
  hK : X.K = c.K
  hu : X.A.units + 65 < cLine
  calm : X.calm = true
  nd : X.N.Nodup
  N : X.N = cn.N
  sc : X.env.scope = cn.sc
  kind : cn.sc.kind = .function
  fn : ∀ x, cn.fn x = true → X.fn x = true
  own : PassesOwn (model X.prog X.w) X.A X.env X.xe
  pass : ∀ σ, PassesAt (L2.CX X.prog X.w) X σ (WE c.W σ)
  blt : ∀ x ∈ bNames, X.mg x = none
  call : ∀ f x n, tb.fn f = some (x, n) → Callee X c (G.call f) x n
  glob : ∀ g x, tb.gl g = some x → ∃ u v d, X.mg x = some u ∧ RelV v u ∧ G.glob g = some d ∧ ∀ own m H, RD c.K own m H d v

section
variable {tb : Tb} {cn : Cn} {c : Ct} {G : Gm} {X : Cx}
theorem Good.blk (g : Good tb cn c G X) {scope : Scope} (k : scope.kind = .function) (D : Addr) (s : Shared) (H : Hp) (C : Addr) (cl : List (Str × Addr)) (fp : List Addr) : Good tb (cn.blk scope) (c.blk D) G (X.blk s H scope (compEnvC scope cl C X.env) fp) where
  hK := g.hK
  hu := g.hu
  calm := g.calm
  nd := g.nd
  N := g.N
  sc := by
    show relS scope X.env.scope = relS scope cn.sc
    rw [g.sc]
  kind := k
  fn := fun x h => h
  own := PassesOwn.never
  pass := fun σ pins H s e s' I ⟨a, B, H', cls, d, _, _, _, _, _, _, _, q⟩ => q
  blt := g.blt
  call := fun f x n h => ⟨(g.call f x n h).ex⟩
  glob := g.glob
theorem Good.vis (g : Good tb cn c G X) {x : Str} (h : isVis cn x = true) : Vis X.env.scope x := by
  unfold isVis at h
  unfold Vis
  rw [g.sc]
  split at h <;> simp_all
theorem Good.gl (g : Good tb cn c G X) {x : Str} (h : isGl cn x = true) : Gl X x := by
  unfold isGl at h
  show X.env.scope.names.lookup x = _
  rw [g.sc]
  split at h <;> simp_all
theorem Good.loc (g : Good tb cn c G X) {x : Str} (h : isLoc cn x = true) : Loc X.env.scope x ∧ (X.fn x = true ∨ X.env.scope.names.lookup x = some .local) := by
  unfold isLoc at h
  unfold L2.Loc
  rw [g.sc]
  split at h
  · rename_i e; exact ⟨.inl e, .inr e⟩
  · rename_i e; exact ⟨.inr e, .inl (g.fn x h)⟩
  · cases h
theorem Good.n (g : Good tb cn c G X) {i : Nat} {x : Str} (h : isN cn i x = true) : X.N[i]? = some x := by
  unfold isN at h
  rw [g.N]
  split at h
  · rename_i e; rw [e, of_decide_eq_true h]
  · cases h
theorem okN1 {x : Str} (h : okN x = true) : (x == ("__debug__" : Str)) = false ∧ (x == ("__classdict__" : Str)) = false := by
  unfold okN at h
  simp only [Bool.and_eq_true, Bool.not_eq_true'] at h
  exact h
theorem pl_star {e : Expr} (h : plX e = true) (es : List Expr) (env : Env) : starEach (e :: es) env = (false, eval e env) :: starEach es env := by
  cases e <;> first | rfl | cases h
theorem pl_ix {e : Expr} (h : plX e = true) : PlainIx e := fun o i => by
  cases e <;> first | rfl | cases h
theorem pl_marks {e : Expr} (h : plX e = true) (op : CmpOp) : behindInMarks op e = false := by
  cases e <;> first | rfl | cases h
theorem pl_last {e f : Expr} (h : plX e = true) (h2 : plX f = true) (op op' : CmpOp) : lastMarks [op, op'] [e, f] = false := by
  cases f <;> first | rfl | cases h2
theorem pl_fold {e : Expr} (h : plX e = true) (env : Env) (x : Value) : foldedSetIterable e env x = pure x := by
  cases e <;> first | rfl | cases h
theorem pl_test {e : Expr} (h : plT e = true) (env : Env) (whole : Sem Value) : isTrue e env whole = (do let v ← whole; standAt e.pos; holding [v] (truthy v)) := by
  cases e <;> first | rfl | cases h
theorem no_sup {e : Expr} (h : noSup e = true) (nm : Str) (env : Env) : attributeBase e nm env (eval e env) = eval e env := by
  cases e with
  | Call f args kws pos =>
    cases f with
    | Name id p =>
      cases args with
      | nil =>
        cases kws with
        | nil => cases h
        | cons _ _ => rfl
      | cons _ _ => rfl
    | _ => rfl
  | _ => rfl
theorem mA_any : ∀ (es : IEs) {l : List Expr}, mA tb es cn l = true → ∀ (pos : Pos) (env : Env), (backTo pos (starEach l env)).any (·.1) = false ∧ (backTo pos (starEach l env)).all (fun x => !x.1) = true
  | .nil, l, h, pos, env => by
    simp only [mA] at h
    split at h
    · exact ⟨rfl, rfl⟩
    · cases h
  | .cons e es, l, h, pos, env => by
    simp only [mA] at h
    split at h
    · rename_i x r
      simp only [Bool.and_eq_true] at h
      obtain ⟨i1, i2⟩ := mA_any es h.2 pos env
      rw [pl_star h.1.1]
      exact ⟨i1, i2⟩
    · cases h
theorem evA_len : ∀ (es : IEs) {σ : Sl} {h : Hq} {ds : List D} {h' : Hq}, evA G es σ h = .ok ds h' → ds.length = lenA es
  | .nil, σ, h, ds, h', e => by
    simp only [evA, aNil, Res.ok.injEq] at e
    rw [← e.1]
    rfl
  | .cons e es, σ, h, ds, h', q => by
    simp only [evA, aCons] at q
    cases e1 : evE G e σ h with
    | no => rw [e1] at q; cases q
    | exc x s h1 => rw [e1] at q; cases q
    | ok d h1 =>
      rw [e1] at q
      simp only [Res.bind] at q
      cases e2 : evA G es σ h1 with
      | no => rw [e2] at q; cases q
      | exc x s h1 => rw [e2] at q; cases q
      | ok ds2 h2 =>
        rw [e2] at q
        simp only [Res.ok.injEq] at q
        rw [← q.1]
        simp [lenA, evA_len es e2]
theorem mGs_each : ∀ (gs : IGs) {vs : Option (List Nat)} {l : List Expr}, mGs tb gs cn vs l = true → ∀ (env : Env), (assignEach l env).length = l.length ∧ (assignEach l env).findIdx? (·.1) = none
  | .nil, vs, l, h, env => by
    simp only [mGs] at h
    split at h
    · exact ⟨rfl, rfl⟩
    · cases h
  | .cons e es, vs, l, h, env => by
    simp only [mGs] at h
    split at h
    · rename_i x r
      simp only [Bool.and_eq_true] at h
      obtain ⟨i1, i2⟩ := mGs_each es h.2 env
      have hx : assignEach (x :: r) env = (false, assign x env) :: assignEach r env := by
        have h1 := h.1
        cases x <;> first | rfl | (cases e <;> simp [mG] at h1)
      rw [hx]
      refine ⟨by simp [i1], ?_⟩
      rw [List.findIdx?_cons]
      simp [i2]
    · cases h
theorem mG_cons {g : IG} {vs : Option (List Nat)} {x : Expr} (h : mG tb g cn vs x = true) (r : List Expr) (env : Env) : (assignEach (x :: r) env).map (·.2) = assign x env :: (assignEach r env).map (·.2) := by
  cases x <;> first | rfl | (cases g <;> simp [mG] at h)
end
end Px
/-! P14: the whole text -/
namespace Px
open PySem L2 PyProof.Rows

def tgP : Option (List Nat) → L2.St → L2.St → Prop
  | none => anyP
  | some vs => wipeP vs
theorem tgP_ok (vs : Option (List Nat)) : TgOk (tgP vs) := by
  cases vs with
  | none => exact anyP_ok
  | some vs => exact wipeP_ok vs
theorem owns_snd (cn : Cn) (vs : List Nat) : (owns cn vs).map (·.2) = vs := by
  unfold owns
  rw [List.map_map]
  conv => rhs; rw [← List.map_id vs]
  exact List.map_congr_left fun _ _ => rfl
theorem pw_of {X : Cx} {op : BoolOp} {es : List Expr} {pos : Pos} {t : TT} (h : PT X (.BoolOp op es pos) t) : PW X (.BoolOp op es pos) t := ⟨fun wh pins s σ H Q I q => h.run pins s σ H Q I q⟩
theorem mA1 {tb : Tb} {cn : Cn} {a : Expr} {as : List Expr} : ∀ {es : IEs}, mA tb es cn (a :: as) = true → plX a = true ∧ ∀ (pos : Pos) (env : Env), (backTo pos (starEach as env)).any (·.1) = false
  | .nil, h => by simp [mA] at h
  | .cons e es, h => by
    simp only [mA, Bool.and_eq_true] at h
    exact ⟨h.1.1, fun pos env => (mA_any es h.2 pos env).1⟩
theorem bT_name {b : Bl} (h : ∀ n, b ≠ .isi n) : bltName b ∈ bNames := by
  cases b <;> first | decide | exact absurd rfl (h _)

section
variable {tb : Tb} {G : Gm}
/-- a built-in's call -/
theorem blt_rule {cn : Cn} {c : Ct} {X : Cx} (g : Good tb cn c G X) (b : Bl) (h : ∀ n, b ≠ .isi n) : ∃ f, CallR X f (rBlt c b) ∧ ((∃ id, f = .builtin id) ∨ ∃ T, f = .type T) ∧ bootBuiltins (bltName b) = some f ∧ bltName b ≠ "__name__" ∧ (bltName b == ("__debug__" : Str)) = false := by
  cases b with
  | len => exact ⟨_, blt_len g.hK, .inl ⟨_, rfl⟩, by decide +kernel, by decide, by decide⟩
  | abs => exact ⟨_, blt_abs, .inl ⟨_, rfl⟩, by decide +kernel, by decide, by decide⟩
  | int => exact ⟨_, blt_int, .inr ⟨_, rfl⟩, by decide +kernel, by decide, by decide⟩
  | list => exact ⟨_, blt_list g.hK, .inr ⟨_, rfl⟩, by decide +kernel, by decide, by decide⟩
  | sum => exact ⟨_, blt_sum g.hK g.calm, .inl ⟨_, rfl⟩, by decide +kernel, by decide, by decide⟩
  | all => exact ⟨_, blt_all g.hK g.calm, .inl ⟨_, rfl⟩, by decide +kernel, by decide, by decide⟩
  | any => exact ⟨_, blt_any g.hK g.calm, .inl ⟨_, rfl⟩, by decide +kernel, by decide, by decide⟩
  | isi n => exact absurd rfl (h n)
theorem bm_rule {cn : Cn} {c : Ct} {X : Cx} (g : Good tb cn c G X) (b : Bm) : ∃ id, PlainAttrs (bmT b) ∧ Slot (bmT b) (bmName b) id ∧ typeOf (.builtin id) = pure (.type "method_descriptor") ∧ MtR X id (rBm c b) := by
  cases b with
  | append => exact ⟨_, PySem.F.plainAttrs_list, PySem.F.slot_list_append, PySem.F.type_list_append, bm_append⟩
  | extend => exact ⟨_, PySem.F.plainAttrs_list, PySem.F.slot_list_extend, PySem.F.type_list_extend, bm_extend⟩
  | get => exact ⟨_, PySem.F.plainAttrs_dict, PySem.F.slot_dict_get, PySem.F.type_dict_get, bm_get (by have := g.hu; omega)⟩

mutual
theorem sE : ∀ (ie : IE) {cn : Cn} {c : Ct} {X : Cx} {e : Expr}, Good tb cn c G X → mE tb ie cn e = true → PE X e (rE c (evE G ie))
  | .v i, cn, c, X, e, g, h => by
    simp only [mE] at h
    split at h
    · simp only [Bool.and_eq_true] at h
      exact re_v (g.n h.1.1) (g.vis h.1.2) (okN1 h.2).1 (okN1 h.2).2
    · cases h
  | .non, cn, c, X, e, g, h => by
    simp only [mE] at h
    split at h
    · exact re_c pe_non fun _ _ => rd_non.mpr rfl
    · cases h
  | .bl b, cn, c, X, e, g, h => by
    simp only [mE] at h
    split at h
    · have := eq_of_beq h
      subst this
      exact re_c pe_bl fun _ _ => rd_bl.mpr rfl
    · cases h
  | .int i, cn, c, X, e, g, h => by
    simp only [mE] at h
    split at h
    · have := eq_of_beq h
      subst this
      exact re_c pe_int fun _ _ => rd_int.mpr rfl
    · cases h
  | .str z, cn, c, X, e, g, h => by
    simp only [mE] at h
    split at h
    · have := of_decide_eq_true h
      subst this
      exact re_c pe_str fun _ _ => rd_str.mpr rfl
    · cases h
  | .glob n, cn, c, X, e, g, h => by
    simp only [mE] at h
    split at h
    · simp only [Bool.and_eq_true, decide_eq_true_eq] at h
      obtain ⟨u, v, d, hm, r, e1, k⟩ := g.glob n _ h.1.1
      exact re_glob (g.gl h.1.2) hm r e1 (fun m H => k c.H0 m H) (okN1 h.2).1
    · cases h
  | .op o a b, cn, c, X, e, g, h => by
    simp only [mE] at h
    split at h
    · simp only [Bool.and_eq_true, decide_eq_true_eq] at h
      obtain ⟨⟨rfl, h1⟩, h2⟩ := h
      exact re_op g.hK o (sE a g h1) (sE b g h2)
    · cases h
  | .neg a, cn, c, X, e, g, h => by
    simp only [mE] at h
    split at h
    · exact re_neg (sE a g h)
    · cases h
  | .cmp k a b, cn, c, X, e, g, h => by
    simp only [mE] at h
    split at h
    · simp only [Bool.and_eq_true, decide_eq_true_eq] at h
      obtain ⟨⟨⟨rfl, h0⟩, h1⟩, h2⟩ := h
      exact re_cmp g.hK g.hu k (sE a g h1) (sE b g h2) (pl_marks h0 _)
    · cases h
  | .cmp2 k l a b d, cn, c, X, e, g, h => by
    simp only [mE] at h
    split at h
    · simp only [Bool.and_eq_true, decide_eq_true_eq] at h
      obtain ⟨⟨⟨⟨⟨⟨rfl, rfl⟩, h0⟩, h00⟩, h1⟩, h2⟩, h3⟩ := h
      exact re_cmp2 g.hK g.hu k l (sE a g h1) (sE b g h2) (sE d g h3) (pl_last h0 h00 _ _)
    · cases h
  | .andv a b, cn, c, X, e, g, h => by
    simp only [mE] at h
    split at h
    · simp only [Bool.and_eq_true] at h
      exact re_and (sE a g h.1) (re_one (sE b g h.2))
    · simp only [Bool.and_eq_true] at h
      exact re_and (sE a g h.1) (sE b g h.2)
    · cases h
  | .orv a b, cn, c, X, e, g, h => by
    simp only [mE] at h
    split at h
    · simp only [Bool.and_eq_true] at h
      exact re_or (sE a g h.1) (re_one (sE b g h.2))
    · simp only [Bool.and_eq_true] at h
      exact re_or (sE a g h.1) (sE b g h.2)
    · cases h
  | .notv a, cn, c, X, e, g, h => by
    simp only [mE] at h
    split at h
    · exact re_not (sE a g h)
    · cases h
  | .ifx t a b, cn, c, X, e, g, h => by
    simp only [mE] at h
    split at h
    · simp only [Bool.and_eq_true] at h
      exact re_if (sT t g h.1.1) (sE a g h.1.2) (sE b g h.2)
    · cases h
  | .tup es, cn, c, X, e, g, h => by
    simp only [mE] at h
    split at h
    · exact re_tup (sA es g h)
    · cases h
  | .lst es, cn, c, X, e, g, h => by
    simp only [mE] at h
    split at h
    · exact re_lst (sA es g h)
    · cases h
  | .dnew t, cn, c, X, e, g, h => by
    simp only [mE] at h
    split at h
    · exact re_dnew t
    · cases h
  | .ix a i, cn, c, X, e, g, h => by
    simp only [mE] at h
    split at h
    · simp only [Bool.and_eq_true] at h
      exact re_ix g.hK (by have := g.hu; omega) (sE a g h.1.2) (sE i g h.2) (pl_ix h.1.1)
    · cases h
  | .sl a lo hi, cn, c, X, e, g, h => by
    simp only [mE] at h
    split at h
    · simp only [Bool.and_eq_true] at h
      exact re_sl g.hK (sE a g h.1.1) (sO lo g h.1.2) (sO hi g h.2)
    · cases h
  | .call f es, cn, c, X, e, g, h => by
    simp only [mE] at h
    split at h
    · simp only [Bool.and_eq_true, decide_eq_true_eq] at h
      rename_i x p a as pos
      obtain ⟨⟨⟨h1, h2⟩, h3⟩, h4⟩ := h
      have h5 := mA1 h4
      exact re_call g.hK (g.call f _ _ h1) g.pass (g.gl h2) (sA es g h4) (fun σ h ds h' q => evA_len es q) (okN1 h3).1 (pl_star h5.1 _ _) (h5.2 _ _)
    · cases h
  | .pcall f es, cn, c, X, e, g, h => by
    simp only [mE] at h
    split at h
    · simp only [Bool.and_eq_true, decide_eq_true_eq] at h
      rename_i x p a as pos
      obtain ⟨⟨⟨h1, h2⟩, h3⟩, h4⟩ := h
      have h5 := mA1 h4
      exact re_pcall g.hK (g.call f _ _ h1) g.pass (g.gl h2) (sA es g h4) (fun σ h ds h' q => evA_len es q) (okN1 h3).1 (pl_star h5.1 _ _) (h5.2 _ _)
    · cases h
  | .pcallL _ _, cn, c, X, e, g, h => by simp [mE] at h
  | .blt (.isi n) (.cons d .nil), cn, c, X, e, g, h => by
    simp only [mE] at h
    split at h
    · simp only [Bool.and_eq_true, decide_eq_true_eq] at h
      rename_i x p a y py pos
      obtain ⟨⟨⟨⟨⟨h1, h2⟩, h3⟩, h4⟩, h5⟩, h6⟩ := h
      have m1 : X.mg x = none := g.blt _ (show x ∈ bNames by rw [h1]; decide)
      have m2 : X.mg y = none := g.blt _ (show y ∈ bNames by
        rw [h2]
        match n with
        | 0 => decide
        | 1 => decide
        | 2 => decide
        | 3 => decide
        | n + 4 => show (("bool" : Str)) ∈ bNames; decide)
      exact re_isi g.hK h1 h2 (g.gl h3) m1 (g.gl h4) m2 (sE d g h6) (pl_star h5 _ _)
    · cases h
  | .blt (.isi _) .nil, cn, c, X, e, g, h => by simp [mE] at h
  | .blt (.isi _) (.cons _ (.cons _ _)), cn, c, X, e, g, h => by simp [mE] at h
  | .blt .len es, cn, c, X, e, g, h => by
    simp only [mE] at h
    split at h
    · simp only [Bool.and_eq_true, decide_eq_true_eq] at h
      obtain ⟨⟨rfl, h1⟩, h2⟩ := h
      obtain ⟨f, hc, hf, hv, hn, hd⟩ := blt_rule g .len (by simp)
      have h5 := mA1 h2
      exact re_blt hc hf (g.gl h1) (g.blt _ (by decide)) hv (sA es g h2) hn hd (pl_star h5.1 _ _) (h5.2 _ _)
    · cases h
  | .blt .abs es, cn, c, X, e, g, h => by
    simp only [mE] at h
    split at h
    · simp only [Bool.and_eq_true, decide_eq_true_eq] at h
      obtain ⟨⟨rfl, h1⟩, h2⟩ := h
      obtain ⟨f, hc, hf, hv, hn, hd⟩ := blt_rule g .abs (by simp)
      have h5 := mA1 h2
      exact re_blt hc hf (g.gl h1) (g.blt _ (by decide)) hv (sA es g h2) hn hd (pl_star h5.1 _ _) (h5.2 _ _)
    · cases h
  | .blt .int es, cn, c, X, e, g, h => by
    simp only [mE] at h
    split at h
    · simp only [Bool.and_eq_true, decide_eq_true_eq] at h
      obtain ⟨⟨rfl, h1⟩, h2⟩ := h
      obtain ⟨f, hc, hf, hv, hn, hd⟩ := blt_rule g .int (by simp)
      have h5 := mA1 h2
      exact re_blt hc hf (g.gl h1) (g.blt _ (by decide)) hv (sA es g h2) hn hd (pl_star h5.1 _ _) (h5.2 _ _)
    · cases h
  | .blt .list es, cn, c, X, e, g, h => by
    simp only [mE] at h
    split at h
    · simp only [Bool.and_eq_true, decide_eq_true_eq] at h
      obtain ⟨⟨rfl, h1⟩, h2⟩ := h
      obtain ⟨f, hc, hf, hv, hn, hd⟩ := blt_rule g .list (by simp)
      have h5 := mA1 h2
      exact re_blt hc hf (g.gl h1) (g.blt _ (by decide)) hv (sA es g h2) hn hd (pl_star h5.1 _ _) (h5.2 _ _)
    · cases h
  | .blt .sum es, cn, c, X, e, g, h => by
    simp only [mE] at h
    split at h
    · simp only [Bool.and_eq_true, decide_eq_true_eq] at h
      obtain ⟨⟨rfl, h1⟩, h2⟩ := h
      obtain ⟨f, hc, hf, hv, hn, hd⟩ := blt_rule g .sum (by simp)
      have h5 := mA1 h2
      exact re_blt hc hf (g.gl h1) (g.blt _ (by decide)) hv (sA es g h2) hn hd (pl_star h5.1 _ _) (h5.2 _ _)
    · cases h
  | .blt .all es, cn, c, X, e, g, h => by
    simp only [mE] at h
    split at h
    · simp only [Bool.and_eq_true, decide_eq_true_eq] at h
      obtain ⟨⟨rfl, h1⟩, h2⟩ := h
      obtain ⟨f, hc, hf, hv, hn, hd⟩ := blt_rule g .all (by simp)
      have h5 := mA1 h2
      exact re_blt hc hf (g.gl h1) (g.blt _ (by decide)) hv (sA es g h2) hn hd (pl_star h5.1 _ _) (h5.2 _ _)
    · cases h
  | .blt .any es, cn, c, X, e, g, h => by
    simp only [mE] at h
    split at h
    · simp only [Bool.and_eq_true, decide_eq_true_eq] at h
      obtain ⟨⟨rfl, h1⟩, h2⟩ := h
      obtain ⟨f, hc, hf, hv, hn, hd⟩ := blt_rule g .any (by simp)
      have h5 := mA1 h2
      exact re_blt hc hf (g.gl h1) (g.blt _ (by decide)) hv (sA es g h2) hn hd (pl_star h5.1 _ _) (h5.2 _ _)
    · cases h
  | .bm b o es, cn, c, X, e, g, h => by
    simp only [mE] at h
    split at h
    · simp only [Bool.and_eq_true, decide_eq_true_eq] at h
      obtain ⟨⟨⟨⟨⟨rfl, h1⟩, h2⟩, h3⟩, h4⟩, h5⟩ := h
      obtain ⟨id, q1, q2, q3, q4⟩ := bm_rule g b
      have h7 := mA1 h5
      refine re_bm g.hK q1 q2 q3 q4 (sE o g h4) (sA es g h5) (no_sup h2 _ _) ?_ h1 (pl_star h7.1 _ _) (h7.2 _ _)
      rw [Bool.and_eq_true, Bool.and_eq_true]
      refine ⟨⟨(mA_any es h5 _ _).2, rfl⟩, ?_⟩
      simp only [List.length_nil, List.isEmpty_nil, if_true, decide_eq_true_eq]
      omega
    · cases h
  | .lc vs w tg t d, cn, c, X, e, g, h => by
    simp only [mE] at h
    split at h
    · rename_i elt tge iter ifs asy scope pos
      simp only [Bool.and_eq_true, decide_eq_true_eq] at h
      obtain ⟨⟨⟨⟨⟨⟨rfl, h1⟩, h2⟩, h3⟩, h4⟩, h5⟩, h6⟩ := h
      have ok : BlkOk X.N X.env.scope scope (owns cn vs) := by rw [g.N, g.sc]; exact blkOk_by h1
      have := re_lc (own := owns cn vs) (c := c) (pos := pos) (elt := elt) (tg := tge) (iter := iter) (ifs := ifs) (scope := scope) (w := evI G w) (g := evG G tg) (t := evT G t) (e := evE G d) g.hK g.calm g.nd (sI w g h3) ok
        (fun D s H C cl fp => by rw [owns_snd]; exact sG tg (some vs) (g.blk ok.kind D s H C cl fp) h4)
        (fun D s H C cl fp => by
          split at h5
          · cases t <;> first | (simp [isTT] at h5; done) | exact ⟨fun pins s σ H Q I ⟨m, h, σd, R, S⟩ => pts_nil.run pins s σ H Q I (Sim.ok_ S R.rh rfl)⟩
          · exact pts_one (sT t (g.blk ok.kind D s H C cl fp) h5)
          · cases h5)
        (fun D s H C cl fp => sE d (g.blk ok.kind D s H C cl fp) h6) (pl_fold h2 X.env)
      rw [owns_snd] at this
      exact this
    · cases h
theorem sT : ∀ (t : IT) {cn : Cn} {c : Ct} {X : Cx} {e : Expr}, Good tb cn c G X → mT tb t cn e = true → PT X e (rT c (evT G t))
  | .val a, cn, c, X, e, g, h => by
    simp only [mT, Bool.and_eq_true] at h
    exact rt_val (sE a g h.1) (pl_test h.2 _)
  | .tru a, cn, c, X, e, g, h => by
    simp only [mT, Bool.and_eq_true] at h
    exact rt_tru g.hK (sE a g h.1) (pl_test h.2 _)
  | .cmp k a b, cn, c, X, e, g, h => by
    simp only [mT] at h
    split at h
    · simp only [Bool.and_eq_true, decide_eq_true_eq] at h
      obtain ⟨⟨⟨rfl, h0⟩, h1⟩, h2⟩ := h
      exact rt_cmp g.hK g.hu k (sE a g h1) (sE b g h2) (pl_marks h0 _)
    · cases h
  | .cmp2 k l a b d, cn, c, X, e, g, h => by
    simp only [mT] at h
    split at h
    · simp only [Bool.and_eq_true, decide_eq_true_eq] at h
      obtain ⟨⟨⟨⟨⟨⟨rfl, rfl⟩, h0⟩, h00⟩, h1⟩, h2⟩, h3⟩ := h
      exact rt_cmp2 g.hK g.hu k l (sE a g h1) (sE b g h2) (sE d g h3) (pl_last h0 h00 _ _)
    · cases h
  | .and a b, cn, c, X, e, g, h => by
    simp only [mT] at h
    split at h
    · simp only [Bool.and_eq_true] at h
      exact (rw_and (sT a g h.1) (rw_one (sT b g h.2))).pt
    · simp only [Bool.and_eq_true] at h
      exact (rw_and (sT a g h.1) (pw_of (sT b g h.2))).pt
    · cases h
  | .or a b, cn, c, X, e, g, h => by
    simp only [mT] at h
    split at h
    · simp only [Bool.and_eq_true] at h
      exact (rw_or (sT a g h.1) (rw_one (sT b g h.2))).pt
    · simp only [Bool.and_eq_true] at h
      exact (rw_or (sT a g h.1) (pw_of (sT b g h.2))).pt
    · cases h
  | .not a, cn, c, X, e, g, h => by
    simp only [mT] at h
    split at h
    · exact rt_not (sT a g h)
    · cases h
  | .tt, cn, c, X, e, g, h => by simp [mT] at h
theorem sA : ∀ (es : IEs) {cn : Cn} {c : Ct} {X : Cx} {l : List Expr}, Good tb cn c G X → mA tb es cn l = true → PA X l (rA c (evA G es))
  | .nil, cn, c, X, l, g, h => by
    simp only [mA] at h
    split at h
    · exact ra_nil
    · cases h
  | .cons e es, cn, c, X, l, g, h => by
    simp only [mA] at h
    split at h
    · simp only [Bool.and_eq_true] at h
      exact ra_cons (sE e g h.1.2) (sA es g h.2) (pl_star h.1.1 _ _)
    · cases h
theorem sO : ∀ (o : IO) {cn : Cn} {c : Ct} {X : Cx} {l : Option Expr}, Good tb cn c G X → mO tb o cn l = true → PO X l (rO c (evO G o))
  | .none, cn, c, X, l, g, h => by
    simp only [mO] at h
    split at h
    · exact ro_none
    · cases h
  | .some e, cn, c, X, l, g, h => by
    simp only [mO] at h
    split at h
    · exact ro_some (sE e g h)
    · cases h
theorem sI : ∀ (w : II) {cn : Cn} {c : Ct} {X : Cx} {tg e : Expr}, Good tb cn c G X → mI tb w cn e = true → PI X tg e (rI c (evI G w))
  | .seq a, cn, c, X, tg, e, g, h => by
    simp only [mI] at h
    exact ri_seq g.hK (sE a g h)
  | .rg1 a, cn, c, X, tg, e, g, h => by
    simp only [mI] at h
    split at h
    · simp only [Bool.and_eq_true, decide_eq_true_eq] at h
      obtain ⟨⟨⟨rfl, h1⟩, h2⟩, h3⟩ := h
      exact ri_rg1 (g.gl h1) (g.blt _ (by decide)) (sE a g h3) (by rw [pl_star h2]; rfl)
    · cases h
  | .rg2 a b, cn, c, X, tg, e, g, h => by
    simp only [mI] at h
    split at h
    · simp only [Bool.and_eq_true, decide_eq_true_eq] at h
      obtain ⟨⟨⟨⟨⟨rfl, h1⟩, h2⟩, h3⟩, h4⟩, h5⟩ := h
      exact ri_rg2 (g.gl h1) (g.blt _ (by decide)) (sE a g h4) (sE b g h5) (by rw [pl_star h2, pl_star h3]; rfl) (by rw [pl_star h3]; rfl)
    · cases h
  | .rgD a b, cn, c, X, tg, e, g, h => by
    simp only [mI] at h
    split at h
    · simp only [Bool.and_eq_true, decide_eq_true_eq] at h
      obtain ⟨⟨⟨⟨⟨⟨rfl, rfl⟩, h1⟩, h2⟩, h3⟩, h4⟩, h5⟩ := h
      exact ri_rgD (g.gl h1) (g.blt _ (by decide)) (sE a g h4) (sE b g h5) (pl_star h2 _ _) (pl_star h3 _ _)
    · cases h
theorem sG : ∀ (t : IG) (vs : Option (List Nat)) {cn : Cn} {c : Ct} {X : Cx} {e : Expr}, Good tb cn c G X → mG tb t cn vs e = true → PG X e (rG c (tgP vs) (evG G t))
  | .name i, vs, cn, c, X, e, g, h => by
    simp only [mG] at h
    split at h
    · simp only [Bool.and_eq_true] at h
      obtain ⟨⟨h1, h2⟩, h3⟩ := h
      refine rg_name g.nd (g.n h1) (g.loc h2).1 (g.loc h2).2 fun σ v => ?_
      cases vs with
      | none => trivial
      | some vs => exact wipeP_set (of_decide_eq_true h3) σ v
    · cases h
  | .tup n gs, vs, cn, c, X, e, g, h => by
    simp only [mG] at h
    split at h
    · simp only [Bool.and_eq_true, decide_eq_true_eq] at h
      obtain ⟨rfl, h2⟩ := h
      exact rg_tup g.hK g.calm (sGs gs vs g h2) (mGs_each gs h2 _).1 (mGs_each gs h2 _).2
    · cases h
  | .sub o i, vs, cn, c, X, e, g, h => by
    simp only [mG] at h
    split at h
    · rename_i x y pos
      simp only [Bool.and_eq_true] at h
      obtain ⟨⟨h0, h1⟩, h2⟩ := h
      refine rg_sub (tgP_ok vs) (by have := g.hu; omega) (sE o g h1) (sE i g h2) fun v => ?_
      cases y <;> first | rfl | cases h0
    · cases h
theorem sGs : ∀ (gs : IGs) (vs : Option (List Nat)) {cn : Cn} {c : Ct} {X : Cx} {l : List Expr}, Good tb cn c G X → mGs tb gs cn vs l = true → PGs X l (rGs c (tgP vs) (evGs G gs))
  | .nil, vs, cn, c, X, l, g, h => by
    simp only [mGs] at h
    split at h
    · exact rgs_nil (tgP_ok vs)
    · cases h
  | .cons t gs, vs, cn, c, X, l, g, h => by
    simp only [mGs] at h
    split at h
    · simp only [Bool.and_eq_true] at h
      exact rgs_cons (tgP_ok vs) (sG t vs g h.1) (sGs gs vs g h.2) (mG_cons h.1 _ _)
    · cases h
end
end
end Px
/-! P15: statements -/
namespace Px
open PySem L2 PyProof.Rows

section
variable {tb : Tb} {cn : Cn} {c : Ct} {G : Gm} {X : Cx}
theorem sws_sub {x y : Expr} {p : Pos} (v : Expr) (l : Nat) (env : Env) : swapsWithSole [.Subscript x y p] v l env = pure false := by
  cases v <;> rfl
theorem sws_tup {ts : List Expr} {k : Nat} {p : Pos} (v : Expr) (l : Nat) (env : Env) : swapsWithSole [.Tuple ts k p] v l env = pure false := by
  cases v <;> rfl
theorem sst_sub {x y : Expr} {p : Pos} (v : Expr) (env : Env) : swappedStores [.Subscript x y p] v env = pure none := by
  cases v <;> rfl
theorem sst_tup {ts : List Expr} {k : Nat} {p : Pos} {v : Expr} (h : noTup v = true) (env : Env) : swappedStores [.Tuple ts k p] v env = pure none := by
  cases v <;> first | rfl | cases h
theorem sw_name {v : Expr} (h : noComp v = true) (t : Option Expr) (l : Nat) (env : Env) : swapsWith v t l env = pure false := by
  cases v <;> first | rfl | cases h
theorem sw_lc {elt : Expr} {gs : List Comprehension} {scope : Scope} {pos py : Pos} {y : Str} {l : Nat} {env : Env} : (env.scope.names.lookup y = some .local ∧ swapsWith (.ListComp elt gs scope pos) (some (.Name y py)) l env = pure true) ∨ swapsWith (.ListComp elt gs scope pos) (some (.Name y py)) l env = pure false := by
  have e : swapsWith (.ListComp elt gs scope pos) (some (.Name y py)) l env = pure (env.blockKind == .function && env.kindOf y == some .local && py.line == pos.line && !(scope.names.any fun (n, k) => n == y && (k == .local || k == .cell))) := rfl
  rw [e]
  cases hb : (env.blockKind == .function && env.kindOf y == some .local && py.line == pos.line && !(scope.names.any fun (n, k) => n == y && (k == .local || k == .cell))) with
  | false => exact .inr rfl
  | true =>
    refine .inl ⟨?_, rfl⟩
    simp only [Bool.and_eq_true] at hb
    have := hb.1.1.2
    show env.kindOf y = _
    exact eq_of_beq this

theorem sAsg_name (g : Good tb cn c G X) {i : Nat} {x : Str} {p pos : Pos} {e : IE} {v : Expr} (h1 : isN cn i x = true) (h2 : isLoc cn x = true) (h3 : mE tb e cn v = true) : PS X (.Assign [.Name x p] v pos) (rS c (sAsg (gN i) (evE G e))) := by
  have go : swapsWith v (some (.Name x p)) pos.line X.env = pure false → PS X (.Assign [.Name x p] v pos) (rS c (sAsg (gN i) (evE G e))) := fun hs =>
    rs_set g.nd (g.n h1) (g.loc h2).1 (sE e g h3) hs (g.loc h2).2
  cases hv : noComp v with
  | true => exact go (sw_name hv _ _ _)
  | false =>
    cases v with
    | ListComp elt gs scope vpos =>
      rcases sw_lc (elt := elt) (gs := gs) (scope := scope) (pos := vpos) (py := p) (y := x) (l := pos.line) (env := X.env) with ⟨hl, hs⟩ | hs
      · have hex : ∃ vs w tg t d, e = .lc vs w tg t d := by
          cases e <;> first | (exact ⟨_, _, _, _, _, rfl⟩) | (simp [mE] at h3; done) | (rename_i b es; cases b <;> first | (simp [mE] at h3; done) | (cases es <;> first | (simp [mE] at h3; done) | (rename_i d es; cases es <;> simp [mE] at h3)))
        obtain ⟨vs, w, tg, t, d, rfl⟩ := hex
        · simp only [mE] at h3
          split at h3
          · rename_i heq
            cases heq
            rename_i tge iter ifs asy
            simp only [Bool.and_eq_true, decide_eq_true_eq] at h3
            obtain ⟨⟨⟨⟨⟨⟨rfl, k1⟩, k2⟩, k3⟩, k4⟩, k5⟩, k6⟩ := h3
            have ok : BlkOk X.N X.env.scope scope (owns cn vs) := by rw [g.N, g.sc]; exact blkOk_by k1
            have := rs_setLc (own := owns cn vs) (c := c) (pos := vpos) (spos := pos) (py := p) (i := i) (elt := elt) (tg := tge) (iter := iter) (ifs := ifs) (scope := scope) (w := evI G w) (g := evG G tg) (t := evT G t) (e := evE G d) g.hK g.calm g.nd (g.n h1) hl hs (sI w g k3) ok
              (fun D s H C cl fp => by rw [owns_snd]; exact sG tg (some vs) (g.blk ok.kind D s H C cl fp) k4)
              (fun D s H C cl fp => by
                split at k5
                · cases t <;> first | (simp [isTT] at k5; done) | exact ⟨fun pins s σ H Q I ⟨m, h, σd, R, S⟩ => pts_nil.run pins s σ H Q I (Sim.ok_ S R.rh rfl)⟩
                · exact pts_one (sT t (g.blk ok.kind D s H C cl fp) k5)
                · cases k5)
              (fun D s H C cl fp => sE d (g.blk ok.kind D s H C cl fp) k6) (pl_fold k2 X.env)
            rw [owns_snd] at this
            exact this
          · cases h3
      · exact go hs
    | SetComp _ _ _ _ =>
      cases e <;> first | (simp [mE] at h3; done) | (rename_i b es; cases b <;> first | (simp [mE] at h3; done) | (cases es <;> first | (simp [mE] at h3; done) | (rename_i d es; cases es <;> simp [mE] at h3)))
    | DictComp _ _ _ _ _ =>
      cases e <;> first | (simp [mE] at h3; done) | (rename_i b es; cases b <;> first | (simp [mE] at h3; done) | (cases es <;> first | (simp [mE] at h3; done) | (rename_i d es; cases es <;> simp [mE] at h3)))
    | _ => cases hv

theorem sAsg_ok (g : Good tb cn c G X) {tg v : Expr} {pos : Pos} {t : IG} {e : IE} (h1 : mG tb t cn none tg = true) (h2 : mE tb e cn v = true) (h3 : (noTup tg || noTup v) = true) : PS X (.Assign [tg] v pos) (rS c (sAsg (evG G t) (evE G e))) := by
  cases t with
  | name i =>
    simp only [mG] at h1
    split at h1
    · simp only [Bool.and_eq_true] at h1
      exact sAsg_name g h1.1.1 h1.1.2 h2
    · cases h1
  | tup n gs =>
    have hg := sG (.tup n gs) none g h1
    simp only [mG] at h1
    split at h1
    · rename_i l k p
      have hv : noTup v = true := by simpa [noTup] using h3
      exact rs_asg (sE e g h2) hg (sws_tup v _ _) (sst_tup hv _) rfl
    · cases h1
  | sub o i =>
    have hg := sG (.sub o i) none g h1
    simp only [mG] at h1
    split at h1
    · exact rs_asg (sE e g h2) hg (sws_sub v _ _) (sst_sub v _) rfl
    · cases h1

mutual
theorem sS : ∀ (is : IS) {s : Stmt}, Good tb cn c G X → mS tb is cn s = true → PS X s (rS c (evS G is))
  | .asg t e, s, g, h => by
    simp only [mS] at h
    split at h
    · simp only [Bool.and_eq_true] at h
      exact sAsg_ok g h.1.1 h.1.2 h.2
    · cases h
  | .aug i o e, s, g, h => by
    simp only [mS] at h
    split at h
    · simp only [Bool.and_eq_true, decide_eq_true_eq] at h
      obtain ⟨⟨⟨rfl, h1⟩, h2⟩, h3⟩ := h
      exact rs_aug o g.nd (g.n h1) (g.loc h2).1 (sE e g h3) (g.loc h2).2
    · cases h
  | .augS o a i e, s, g, h => by
    simp only [mS] at h
    split at h
    · rename_i x y tp p v pos
      simp only [Bool.and_eq_true, decide_eq_true_eq] at h
      obtain ⟨⟨⟨⟨rfl, h0⟩, h1⟩, h2⟩, h3⟩ := h
      refine rs_augS o (by have := g.hu; omega) (sE a g h1) (sE i g h2) (sE e g h3) fun ov iv new => ?_
      cases y <;> first | rfl | cases h0
    · cases h
  | .exp e, s, g, h => by
    simp only [mS] at h
    split at h
    · simp only [Bool.and_eq_true] at h
      exact rs_exp (sE e g h.2) (sw_name h.1 _ _ _)
    · cases h
  | .ret e, s, g, h => by
    simp only [mS] at h
    split at h
    · exact rs_ret (sE e g h)
    · cases h
  | .retN, s, g, h => by
    simp only [mS] at h
    split at h
    · exact rs_retN
    · cases h
  | .pass, s, g, h => by
    simp only [mS] at h
    split at h
    · exact rs_pass
    · cases h
  | .brk, s, g, h => by
    simp only [mS] at h
    split at h
    · exact rs_bk
    · cases h
  | .cont, s, g, h => by
    simp only [mS] at h
    split at h
    · exact rs_ct
    · cases h
  | .iff t a b, s, g, h => by
    simp only [mS] at h
    split at h
    · simp only [Bool.and_eq_true] at h
      exact rs_if (sT t g h.1.1) (sSs a g h.1.2) (sSs b g h.2)
    · cases h
  | .for w t b, s, g, h => by
    simp only [mS] at h
    split at h
    · simp only [Bool.and_eq_true] at h
      exact rs_for g.hK g.own g.calm (sI w g h.1.1.2) (sG t none g h.1.2) (sSs b g h.2) (pl_fold h.1.1.1 X.env)
    · cases h
  | .wh t b, s, g, h => by
    simp only [mS] at h
    split at h
    · simp only [Bool.and_eq_true] at h
      exact rs_wh G g.own (sT t g h.1) (sSs b g h.2)
    · cases h
theorem sSs : ∀ (is : ISs) {l : List Stmt}, Good tb cn c G X → mSs tb is cn l = true → PSs X l (rS c (evSs G is))
  | .nil, l, g, h => by
    simp only [mSs] at h
    split at h
    · exact rss_nil
    · cases h
  | .cons s r, l, g, h => by
    simp only [mSs] at h
    split at h
    · simp only [Bool.and_eq_true] at h
      exact rss_cons (sS s g h.1) (sSs r g h.2)
    · cases h
end
end
end Px
/-! P16: defs, the end -/
namespace Px
open PySem L2 PyProof.Rows

/-- a def: its text, its data -/
structure Ent (tb : Tb) (p : Pg) (K : PySem.W.Frag) (mg : Str → Option Value) (f : Nat) (x : Str) (n : Nat) : Prop where
  ex : ∃ (st : Stmt) (N ps : List Str) (body : ISs) (fa : Addr) (fd : FuncData), p.fns f = some ⟨ps.length, N.length, fun G => evSs G body⟩ ∧ n = ps.length ∧ FnScope N ps (defScope st) ∧
    mSs tb body ⟨N, defScope st, fun _ => true⟩ (defBody st) = true ∧ Fun K x x st fa fd ∧ Binds K fd ps [] ∧ mg x = some (.ref fa)

/-- a def of the text stands in the module -/
structure Def (K : PySem.W.Frag) (mg : Str → Option Value) (x : Str) (st : Stmt) : Prop where
  ex : ∃ (fa : Addr) (fd : FuncData), Fun K x x st fa fd ∧ mg x = some (.ref fa)
theorem def_mk {K : PySem.W.Frag} {h : Heap} {mg : Str → Option Value} {x : Str} {st : Stmt} {fa : Addr} {oc : Value} {od an : Option Addr} {osl : Array (Option Value)} {kV doc pm cdv ct : Value} (X : K.In h) (G : h.Ns mainGlobals mg)
    (a : PySem.W.nsIn K mainGlobals x = some (some (.ref fa))) (l : K.lookup fa = some ⟨oc, od, .func (PySem.W.fnOf x x (defArgs st) (defBody st) (defScope st) .none kV doc pm an cdv ct), osl⟩)
    (c : PySem.W.codeIn K cdv x = true) (k : PySem.W.keepIn K (.ref fa) = true) : Def K mg x st := ⟨fa, _, fun_mk l c k, PySem.W.mg_of X G a⟩
theorem start_get {N : List Str} {vs : List V} (i : Nat) : ∀ {d : V}, vs[i]? = some d → (L2.start N vs)[i]? = some (some d) := fun e => by
  unfold L2.start
  rw [List.getElem?_append_left (by simpa using (List.getElem?_eq_some_iff.mp e).1)]
  simp [e]
theorem startD_get {n : Nat} {ds : List D} {i : Nat} {d : D} (e : (startD n ds)[i]? = some (some d)) : ds[i]? = some d := by
  unfold startD at e
  by_cases h : i < ds.length
  · rw [List.getElem?_append_left (by simpa using h)] at e
    simpa using e
  · rw [List.getElem?_append_right (by simpa using h)] at e
    rw [List.getElem?_replicate] at e
    split at e <;> simp at e

section
variable {P : Program} {w : World} {K : PySem.W.Frag} {mg : Str → Option Value} {base : Heap} {tb : Tb} {p : Pg} {cl : Nat → Option Addr}
def gmOf (p : Pg) (d : Nat) : Gm := { call := run p d, make := fun _ _ _ => .no, glob := p.glob, fuel := p.fuel }
theorem run_step {d f : Nat} {n ns : Nat} {body : Gm → Sx} (e : p.fns f = some ⟨n, ns, body⟩) (ds : List D) (h : Hq) : run p (d + 1) f ds h = runFn ⟨n, ns, body⟩ (gmOf p d) ds h := by
  show (match p.fns f with
    | some fn => runFn fn { call := run p d, make := fun _ _ _ => .no, glob := p.glob, fuel := p.fuel } ds h
    | none => .no) = _
  rw [e]
  rfl
theorem fn_ok {st : Stmt} {N ps : List Str} {body : ISs} {fa : Addr} {fd : FuncData} {d f : Nat} {x : Str} {n : Nat} (h1 : p.fns f = some ⟨ps.length, N.length, fun G => evSs G body⟩) (h2 : n = ps.length) (h3 : FnScope N ps (defScope st))
    (h4 : mSs tb body ⟨N, defScope st, fun _ => true⟩ (defBody st) = true) (h5 : Fun K x x st fa fd) (hb : ∀ x ∈ bNames, mg x = none)
    (hg : ∀ g x, tb.gl g = some x → ∃ u v d, mg x = some u ∧ RelV v u ∧ p.glob g = some d ∧ ∀ own m H, RD K own m H d v)
    (ih : ∀ (f : Nat) (x : Str) (n : Nat), tb.fn f = some (x, n) → ∃ (fa : Addr) (fd : FuncData) (ps : List Str), FnOk P w K mg base (L2.CX P w) d fa fd ps (spF K cl n (run p d f)) ∧ mg x = some (.ref fa) ∧ PySem.W.keepIn K (.ref fa) = true ∧ Binds K fd ps []) :
    FnOk P w K mg base (L2.CX P w) (d + 1) fa fd ps (spF K cl n (run p (d + 1) f)) := by
  refine Fun.okX h5 h3 (fun vs H Q E h => h.1.trans h2) fun cdv A outer s H vs Q E hr hsp => ?_
  obtain ⟨hn, own, hd, m, h, ds, rh, rd, S⟩ := hsp
  have g : Good tb ⟨N, defScope st, fun _ => true⟩ (cOf K cl own hd H m E) (gmOf p d) (cxOf (L2.CX P w) P w K mg base N x (defScope st) fa cdv A outer s H E) := by
    refine ⟨rfl, ?_, rfl, h3.nd, rfl, rfl, h3.kind, fun _ _ => rfl, passes_of rfl, fun σ => passAt (takes_of rfl rfl rfl rfl) σ, hb, fun f' x' n' e' => ?_, hg⟩
    · have := hr.un
      show (A.deeper _).units + 65 < cLine
      omega
    · obtain ⟨fa', fd', ps', q1, q2, q3, q4⟩ := ih f' x' n' e'
      exact ⟨fa', fd', ps', d, q1, hr, q2, q3, q4⟩
  refine ⟨_, sSs body g h4, m, h, startD N.length ds, ⟨rh, .refl, ?_, fun i z q => ?_⟩, ?_⟩
  · unfold startD L2.start
    have := rd.length
    simp
    omega
  · obtain ⟨v, q1, q2⟩ := RDs.get rd (startD_get q)
    exact ⟨v, start_get i q1, q2⟩
  · rw [run_step h1] at S
    unfold runFn at S
    have hl : (ds.length == ps.length) = true := beq_iff_eq.mpr (by rw [rd.length]; omega)
    simp only [hl, if_true] at S
    cases eq : evSs (gmOf p d) body (startD N.length ds) h with
    | no => rw [eq] at S; exact S.elim
    | exc x s' h' =>
      rw [eq] at S
      exact fun m' H' cls da σ' st' R' rx => S m' H' cls da st' R'.rh rx
    | ok fl h' =>
      rw [eq] at S
      cases fl with
      | nx σ => exact fun m' H' st' rh' σ' _ => S m' H' .non st' rh' (rd_non.mpr rfl)
      | rt z => exact fun m' H' st' rh' v k => S m' H' v st' rh' k
      | bk σ => exact S.elim
      | ct σ => exact S.elim
theorem all_ok (he : ∀ f x n, tb.fn f = some (x, n) → Ent tb p K mg f x n) (hb : ∀ x ∈ bNames, mg x = none)
    (hg : ∀ g x, tb.gl g = some x → ∃ u v d, mg x = some u ∧ RelV v u ∧ p.glob g = some d ∧ ∀ own m H, RD K own m H d v) :
    ∀ (d f : Nat) (x : Str) (n : Nat), tb.fn f = some (x, n) → ∃ (fa : Addr) (fd : FuncData) (ps : List Str), FnOk P w K mg base (L2.CX P w) d fa fd ps (spF K cl n (run p d f)) ∧ mg x = some (.ref fa) ∧ PySem.W.keepIn K (.ref fa) = true ∧ Binds K fd ps []
  | 0, f, x, n, e => by
    obtain ⟨st, N, ps, body, fa, fd, h1, h2, h3, h4, h5, h6, h7⟩ := (he f x n e).ex
    have no : ∀ vs H Q E, ¬ spF K cl n (run p 0 f) vs H Q E := fun vs H Q E ⟨_, own, hd, m, h, ds, _, _, S⟩ => S
    exact ⟨fa, fd, ps, ⟨fun vs H Q E h => absurd h (no vs H Q E), fun A outer s H args us vs Q E _ _ _ _ h => absurd h (no vs H Q E)⟩, h7, h5.kp, h6⟩
  | d + 1, f, x, n, e => by
    obtain ⟨st, N, ps, body, fa, fd, h1, h2, h3, h4, h5, h6, h7⟩ := (he f x n e).ex
    exact ⟨fa, fd, ps, fn_ok h1 h2 h3 h4 h5 hb hg (all_ok he hb hg d), h7, h5.kp, h6⟩
/-- law's promise -/
def spLaw (K : PySem.W.Frag) (cl : Nat → Option Addr) (p : Pg) (d f : Nat) : Sp := spF K cl 1 (run p d f)
theorem law_ok {d f : Nat} {k : Nat} (hp : ∀ ns : List Int, ns.length ≤ k → ∃ h', run p d f [.scr ns] [] = .ok (.bl true) h') {H : Hp} {a : Addr} {ns : List Int} (hl : ns.length ≤ k) (hS : SqL K H a (ns.map V.int)) :
    spF K cl 1 (run p d f) [.ref a] H (fun v _ => v = .bl true) fun _ _ _ => False := by
  refine ⟨rfl, H, [], [], [], [.scr ns], ⟨rfl, List.nodup_nil, fun i o a e _ => by simp at e, fun a ha => by exact absurd ha (by simp [cOf]), fun _ e => e⟩, rds_cons.mpr ⟨.ref a, [], rfl, rd_scr.mpr ⟨a, rfl, ?_⟩, rds_nil.mpr rfl⟩, ?_⟩
  · rcases hS with h | h
    · exact .inl ⟨h, by simp⟩
    · exact .inr h
  · obtain ⟨h', e⟩ := hp ns hl
    rw [e]
    exact fun m' H' v _ _ k => rd_bl.mp k
end
theorem cx_none {P : Program} {w : World} {H : Hp} {s : Shared} {e : Value} {s' : Shared} (h : L2.CX P w [] H s (fun _ _ _ => False) e s') : False := by
  obtain ⟨_, _, _, _, _, _, _, _, _, _, _, _, z⟩ := h
  exact z
/-- the end: what is to be shown of the module, of the data -/
theorem walk {l : PySem.W.OpenLaw} {q : Program} {loose : List Str} {XP : (Str → Option Value) → Heap → Prop} {YP : World → Heap → Prop} {d : DefRec} {K : Params → PySem.W.Frag} (p : Pg) (tb : Tb) (cl : Params → Nat → Option Addr) (dep f : Nat) (st : Stmt) (N : List Str) (body : ISs)
    (hn : l.most = some 63) (hdf : d.params.defaults = []) (hr : Room (dep + 1) callerA) (hY : ∀ (w : World) (h : Heap), YP w h → (K w.params).In h)
    (h1 : p.fns f = some ⟨1, N.length, fun G => evSs G body⟩) (h3 : FnScope N ["script"] (defScope st)) (h4 : mSs tb body ⟨N, defScope st, fun _ => true⟩ (defBody st) = true)
    (hb : ∀ (kV doc pm : Value) (an : Option Addr) (cdv ct u : Value), bindArgs (PySem.W.fnOf d.name d.name (defArgs st) (defBody st) (defScope st) .none kV doc pm an cdv ct) ⟨[u], []⟩ = (pure [(("script" : Str), u)] : Sem (List (Str × Value))))
    (F : ∀ (w : World) (mg : Str → Option Value) (fa : Addr) (h : Heap), (K w.params).In h → h.Ns mainGlobals mg → mg d.name = some (.ref fa) →
      Def (K w.params) mg d.name st ∧ (∀ f x n, tb.fn f = some (x, n) → Ent tb p (K w.params) mg f x n) ∧ (∀ x ∈ bNames, mg x = none) ∧
      ∀ g x, tb.gl g = some x → ∃ u v d, mg x = some u ∧ RelV v u ∧ p.glob g = some d ∧ ∀ own m H, RD (K w.params) own m H d v)
    (hp : ∀ ns : List Int, ns.length ≤ 63 → ∃ h', run p (dep + 1) f [.scr ns] [] = .ok (.bl true) h') :
    PySem.W.WalkO q loose XP YP l.row.toRowW d [] (fun f vs => PySem.call f vs) :=
  L2.walk_of (n := 63) (k := dep + 1) (x := "script") (CX := fun w => L2.CX l.prog w) (sp := fun w => spF (K w.params) (cl w.params) 1 (run p (dep + 1) f)) hn (by decide) hdf hr hY
    (fun w mg fa h KX G hmg => by
      obtain ⟨⟨fa', fd, Fn, hm⟩, he, hbl, hg⟩ := F w mg fa h KX G hmg
      have e := hm.symm.trans hmg
      cases e
      refine ⟨fd, ?_, fun base _ _ => fn_ok (ps := ["script"]) h1 rfl h3 h4 Fn hbl hg (all_ok he hbl hg dep)⟩
      obtain ⟨oc, od, kV, doc, pm, an, cdv, ct, osl, rfl, _⟩ := Fn.ex
      exact fun s u => .of_eq (hb kV doc pm an cdv ct u))
    (fun w H a ns hl _ hS => law_ok hp hl hS) fun w H s e s' z => cx_none z
end Px
/-! P17: what is not looked at may be anything: hidden objects ahead of the heap, names not set -/
namespace Px

def OM {α : Type} (o o' : Option α) : Prop := ∀ a, o = some a → o' = some a
def hids (p : Hq) : Hq := List.replicate p.length O.hid
def RS (σ σ' : Sl) : Prop := σ.length = σ'.length ∧ ∀ (i : Nat) d, σ[i]? = some (some d) → σ'[i]? = some (some d)
def RR {α : Type} (p : Hq) (R : α → α → Prop) (r r' : Res α) : Prop := match r with
  | .no => True
  | .ok a k => ∃ t a', k = hids p ++ t ∧ r' = .ok a' (p ++ t) ∧ R a a'
  | .exc x s k => ∃ t s', k = hids p ++ t ∧ r' = .exc x s' (p ++ t) ∧ RS s s'
abbrev RQ {α : Type} (p : Hq) (r r' : Res α) : Prop := RR p (fun a b : α => b = a) r r'

theorem RS.refl {σ : Sl} : RS σ σ := ⟨rfl, fun _ _ h => h⟩
theorem RS.set {σ σ' : Sl} (r : RS σ σ') (i : Nat) (d : Option D) : RS (σ.set i d) (σ'.set i d) := by
  refine ⟨by simp [r.1], fun j e h => ?_⟩
  by_cases hj : i = j
  · subst hj
    by_cases hi : i < σ.length
    · rw [List.getElem?_set_self hi] at h
      rw [List.getElem?_set_self (by rw [← r.1]; exact hi)]
      exact h
    · rw [List.getElem?_eq_none (by simp; omega)] at h; cases h
  · rw [List.getElem?_set_ne hj] at h ⊢
    exact r.2 j e h
theorem RS.wipe {σ σ' : Sl} (r : RS σ σ') : ∀ vs : List Nat, RS (Px.wipe σ vs) (Px.wipe σ' vs)
  | [] => r
  | v :: vs => (r.wipe vs).set v none

section
variable {α β : Type} {p t : Hq}
theorem hids_len : (hids p).length = p.length := by simp [hids]
theorem look {i : Nat} {o : O} (h : (hids p ++ t)[i]? = some o) (n : o ≠ .hid) : p.length ≤ i ∧ (p ++ t)[i]? = some o := by
  by_cases hi : i < p.length
  · rw [List.getElem?_append_left (by rw [hids_len]; exact hi)] at h
    unfold hids at h
    rw [List.getElem?_replicate] at h
    simp [hi] at h
    exact absurd h.symm n
  · rw [List.getElem?_append_right (by rw [hids_len]; omega), hids_len] at h
    exact ⟨by omega, by rw [List.getElem?_append_right (by omega)]; exact h⟩
theorem set_r {i : Nat} (h : p.length ≤ i) (o : O) : (hids p ++ t).set i o = hids p ++ t.set (i - p.length) o ∧ (p ++ t).set i o = p ++ t.set (i - p.length) o := by
  constructor
  · rw [List.set_append_right _ _ (by rw [hids_len]; exact h), hids_len]
  · rw [List.set_append_right _ _ h]
theorem RR.ok {R : α → α → Prop} {a a' : α} (h : R a a') : RR p R (.ok a (hids p ++ t)) (.ok a' (p ++ t)) := ⟨t, a', rfl, rfl, h⟩
theorem RQ.ok {a : α} : RQ p (.ok a (hids p ++ t)) (.ok a (p ++ t)) := ⟨t, a, rfl, rfl, rfl⟩
theorem RR.no {R : α → α → Prop} {r' : Res α} : RR p R .no r' := trivial
theorem RR.bind {R : α → α → Prop} {S : β → β → Prop} {r r' : Res α} {f f' : α → Hq → Res β} (h : RR p R r r') (k : ∀ a a' t, R a a' → RR p S (f a (hids p ++ t)) (f' a' (p ++ t))) : RR p S (r.bind f) (r'.bind f') := by
  cases r with
  | no => trivial
  | ok a h1 =>
    obtain ⟨t, a', rfl, rfl, q⟩ := h
    exact k a a' t q
  | exc x s h1 =>
    obtain ⟨t, s', rfl, rfl, q⟩ := h
    exact ⟨t, s', rfl, rfl, q⟩
theorem RQ.bind {S : β → β → Prop} {r r' : Res α} {f f' : α → Hq → Res β} (h : RQ p r r') (k : ∀ a t, RR p S (f a (hids p ++ t)) (f' a (p ++ t))) : RR p S (r.bind f) (r'.bind f') :=
  RR.bind h fun a a' t e => by subst e; exact k _ t
theorem RQ.new {o : O} : RQ p (new o (hids p ++ t)) (new o (p ++ t)) := by
  refine ⟨t ++ [o], .ref (hids p ++ t).length, by simp, ?_, rfl⟩
  unfold Px.new
  simp [hids_len]
theorem RQ.ofO {o o' : Option α} (h : OM o o') : RQ p (ofO o (hids p ++ t)) (ofO o' (p ++ t)) := by
  cases o with
  | none => trivial
  | some a => rw [h a rfl]; exact RQ.ok
theorem mapO_mon {f f' : α → Option β} (h : ∀ a, OM (f a) (f' a)) : ∀ xs, OM (mapO f xs) (mapO f' xs)
  | [], a, e => e
  | x :: xs, a, e => by
    simp only [mapO] at e ⊢
    split at e
    · cases e
    · rename_i y hy
      split at e
      · cases e
      · rename_i ys hys
        rw [h x y hy]
        dsimp only
        rw [mapO_mon h xs ys hys]
        exact e
theorem frz_mon {w : Bool} : ∀ (n : Nat) (d : D), OM (frz (hids p ++ t) w n d) (frz (p ++ t) w n d)
  | 0, d, a, e => by simp [frz] at e
  | n + 1, d, a, e => by
    have ih := fun xs => mapO_mon (frz_mon (w := w) n) xs
    unfold frz at e ⊢
    cases d with
    | tup xs =>
      simp only at e ⊢
      split at e
      · rename_i ys hy; rw [ih _ _ hy]; exact e
      · cases e
    | lst b xs =>
      simp only at e ⊢
      split at e
      · cases e
      · rename_i hb
        rw [if_neg hb]
        split at e
        · rename_i ys hy; rw [ih _ _ hy]; exact e
        · cases e
    | ref i =>
      simp only at e ⊢
      split at e
      · rename_i xs hx
        rw [(look hx (by simp)).2]
        dsimp only
        split at e
        · rename_i ys hy; rw [ih _ _ hy]; exact e
        · cases e
      · cases e
    | _ => exact e
theorem getL_mon (d : D) : OM (getL (hids p ++ t) d) (getL (p ++ t) d) := fun a e => by
  cases d with
  | ref i =>
    simp only [getL] at e ⊢
    split at e
    · rename_i xs hx; rw [(look hx (by simp)).2]; exact e
    · cases e
  | _ => exact e
theorem getS_mon (d : D) : OM (getS (hids p ++ t) d) (getS (p ++ t) d) := fun a e => by
  cases d with
  | tup xs => exact e
  | _ => simp only [getS] at e ⊢; exact getL_mon _ a e
theorem eqV_mon (x y : D) : OM (eqV x y (hids p ++ t)) (eqV x y (p ++ t)) := fun a e => by
  cases x <;> cases y <;> first
    | exact e
    | (simp only [eqV] at e ⊢
       split at e
       · rename_i u v hu hv
         rw [frz_mon _ _ _ hu, frz_mon _ _ _ hv]
         exact e
       · cases e)
theorem cmB_mon (c : Cm) (x y : D) : OM (cmB c x y (hids p ++ t)) (cmB c x y (p ++ t)) := fun a e => by
  cases c with
  | eq => exact eqV_mon x y a e
  | ne =>
    simp only [cmB] at e ⊢
    split at e
    · rename_i b hb; rw [eqV_mon _ _ _ hb]; exact e
    · cases e
  | _ => exact e
theorem getItem_mon (x i : D) : OM (getItem x i (hids p ++ t)) (getItem x i (p ++ t)) := fun a e => by
  cases x with
  | ref r =>
    simp only [getItem] at e ⊢
    split at e
    · rename_i xs hx; rw [(look hx (by simp)).2]; exact e
    · rename_i xs hx; rw [(look hx (by simp)).2]; exact e
    · rename_i xs hx; rw [(look hx (by simp)).2]; exact e
    · cases e
  | _ => exact e
theorem getRef_mon (x i : D) : OM (getRef x i (hids p ++ t)) (getRef x i (p ++ t)) := fun a e => by
  cases x with
  | ref r => simp only [getRef] at e ⊢; exact getItem_mon _ _ a e
  | _ => exact e
theorem setItem_mon {x i v : D} {k : Hq} (e : setItem x i v (hids p ++ t) = some k) : ∃ t', k = hids p ++ t' ∧ setItem x i v (p ++ t) = some (p ++ t') := by
  cases x with
  | ref r =>
    simp only [setItem] at e ⊢
    split at e
    · rename_i xs hx
      obtain ⟨h1, h2⟩ := look hx (by simp)
      rw [h2]
      dsimp only
      split at e
      · split at e
        · rename_i j hj
          simp only [Option.some.injEq] at e
          rw [(set_r h1 _).1] at e
          subst e
          refine ⟨_, rfl, ?_⟩
          rw [← (set_r h1 _).2]
        · cases e
      · cases e
    · rename_i xs hx
      obtain ⟨h1, h2⟩ := look hx (by simp)
      rw [h2]
      dsimp only
      split at e
      · split at e
        · rename_i j hj hb
          simp only [Option.some.injEq] at e
          rw [(set_r h1 _).1] at e
          subst e
          refine ⟨_, rfl, ?_⟩
          rw [← (set_r h1 _).2]
          simp only [hj, hb, if_true]
        · cases e
      · cases e
    · rename_i xs hx
      obtain ⟨h1, h2⟩ := look hx (by simp)
      rw [h2]
      dsimp only
      split at e
      · split at e
        · rename_i j hj hb
          simp only [Option.some.injEq] at e
          rw [(set_r h1 _).1] at e
          subst e
          refine ⟨_, rfl, ?_⟩
          rw [← (set_r h1 _).2]
          simp only [hj, hb, if_true]
        · cases e
      · cases e
    · cases e
  | _ => simp [setItem] at e
theorem opB_mon (o : Op) (x y : D) : RQ p (opB o x y (hids p ++ t)) (opB o x y (p ++ t)) := by
  cases o <;> cases x <;> cases y <;> simp only [opB] <;> first
    | exact RQ.ok
    | exact RR.no
    | (split <;> first | exact RQ.ok | exact RR.no | (split <;> first | exact RQ.ok | exact RR.no))
    | (split
       · rename_i xs ys hx hy
         rw [getL_mon _ _ hx, getL_mon _ _ hy]
         dsimp only
         split
         · exact RQ.new
         · exact RR.no
       · exact RR.no)
theorem opI_mon (o : Op) (x y : D) : RQ p (opI o x y (hids p ++ t)) (opI o x y (p ++ t)) := by
  cases o <;> cases x <;> cases y <;> simp only [opI] <;> first | exact RQ.ok | exact RR.no | (split <;> first | exact RQ.ok | exact RR.no)
theorem slc_mon (x : D) (lo hi : Option Int) : RQ p (slc x lo hi (hids p ++ t)) (slc x lo hi (p ++ t)) := by
  cases x with
  | str z => simp only [slc]; split <;> first | exact RQ.ok | exact RR.no
  | tup xs => simp only [slc]; split <;> first | exact RQ.ok | exact RR.no
  | _ =>
    simp only [slc]
    split
    · rename_i xs hx; rw [getL_mon _ _ hx]; exact RQ.new
    · exact RR.no
theorem bltV_mon (b : Bl) (xs : List D) : RQ p (bltV b xs (hids p ++ t)) (bltV b xs (p ++ t)) := by
  cases b with
  | len =>
    simp only [bltV, bLen]
    split
    · split
      · split <;> first | exact RQ.ok | exact RR.no
      · split
        · rename_i ys hy; rw [getS_mon _ _ hy]; exact RQ.ok
        · exact RR.no
    · exact RR.no
  | abs => simp only [bltV, bAbs]; split <;> first | exact RQ.ok | exact RR.no
  | int => simp only [bltV, bInt]; split <;> first | exact RQ.ok | exact RR.no
  | list =>
    simp only [bltV, bList]
    split
    · split
      · exact RQ.new
      · split
        · rename_i ys hy; rw [getS_mon _ _ hy]; exact RQ.new
        · exact RR.no
    · exact RR.no
  | sum =>
    simp only [bltV, bSum]
    split
    · split
      · rename_i ys hy
        rw [getL_mon _ _ hy]
        dsimp only
        split <;> first | exact RQ.ok | exact RR.no
      · exact RR.no
    · exact RR.no
  | all =>
    simp only [bltV, bAll]
    split
    · split
      · rename_i ys hy
        rw [getL_mon _ _ hy]
        dsimp only
        split <;> first | exact RQ.ok | exact RR.no
      · exact RR.no
    · exact RR.no
  | any =>
    simp only [bltV, bAny]
    split
    · split
      · rename_i ys hy
        rw [getL_mon _ _ hy]
        dsimp only
        split <;> first | exact RQ.ok | exact RR.no
      · exact RR.no
    · exact RR.no
  | isi n =>
    simp only [bltV, bIsi]
    split
    · split
      · exact RR.no
      · split
        · rename_i xs hx
          rw [(look hx (by simp)).2]
          dsimp only
          split <;> first | exact RQ.ok | exact RR.no
        · exact RR.no
      · split <;> first | exact RQ.ok | exact RR.no
    · exact RR.no
theorem RQ.upd {r : Nat} {o o' : O} (h : (hids p ++ t)[r]? = some o) (n : o ≠ .hid) : RQ p (.ok D.non ((hids p ++ t).set r o')) (.ok .non ((p ++ t).set r o')) := by
  have h1 := (look h n).1
  rw [(set_r h1 _).1, (set_r h1 _).2]
  exact RQ.ok
theorem bmV_mon (b : Bm) (x : D) (ys : List D) : RQ p (bmV b x ys (hids p ++ t)) (bmV b x ys (p ++ t)) := by
  cases b with
  | append =>
    simp only [bmV, bmAppend]
    split
    · split
      · rename_i xs hx
        rw [(look hx (by simp)).2]
        dsimp only
        split
        · exact RQ.upd hx (by simp)
        · exact RR.no
      · exact RR.no
    · exact RR.no
  | extend =>
    simp only [bmV, bmExtend]
    split
    · split
      · rename_i xs hx
        rw [(look hx (by simp)).2]
        dsimp only
        split
        · rename_i zs hz
          rw [getL_mon _ _ hz]
          dsimp only
          split
          · exact RQ.upd hx (by simp)
          · exact RR.no
        · exact RR.no
      · exact RR.no
    · exact RR.no
  | get =>
    simp only [bmV, bmGet]
    split
    · split
      · rename_i xs hx
        rw [(look hx (by simp)).2]
        dsimp only
        split <;> first | exact RQ.ok | exact RR.no
      · rename_i xs hx
        rw [(look hx (by simp)).2]
        dsimp only
        split <;> first | exact RQ.ok | exact RR.no
      · exact RR.no
    · exact RR.no
theorem bmTy_mon {b : Bm} {x : D} (h : bmTy b x (hids p ++ t) = true) : bmTy b x (p ++ t) = true := by
  have l : (getL (hids p ++ t) x).isSome = true → (getL (p ++ t) x).isSome = true := fun h => by
    obtain ⟨xs, e⟩ := Option.isSome_iff_exists.mp h
    rw [getL_mon _ _ e]; rfl
  cases b with
  | get =>
    cases x with
    | ref r =>
      simp only [bmTy] at h ⊢
      split at h
      · rename_i xs hx; rw [(look hx (by simp)).2]
      · rename_i xs hx; rw [(look hx (by simp)).2]
      · cases h
    | _ => exact h
  | append => exact l h
  | extend => exact l h
theorem tru_mon (x : D) : OM (tru x (hids p ++ t)) (tru x (p ++ t)) := fun a e => by
  cases x with
  | ref r =>
    simp only [tru] at e ⊢
    split at e
    · rename_i xs hx; rw [(look hx (by simp)).2]; exact e
    all_goals first | (rename_i xs hx; rw [(look hx (by simp)).2]; exact e) | cases e
  | _ => exact e
end
end Px
/-! P18: .. the whole text -/
namespace Px

/-- a call's answer, read to the ground -/
def pR (r : Res D) : Option (Sum D Xn) := match r with
  | .ok d h => (match frz h false deep d with
    | some e => some (.inl e)
    | none => none)
  | .exc x _ h => (match frzFs h x.fs with
    | some fs => some (.inr ⟨x.cls, fs⟩)
    | none => none)
  | .no => none
theorem pureCall_eq (G : Gm) (f : Nat) (xs : List D) (σ : Sl) (h : Hq) : pureCall G f xs σ h = match mapO (frz h true deep) xs with
  | none => .no
  | some ys => match pR (G.call f ys []) with
    | some (.inl e) => .ok e h
    | some (.inr x) => .exc x σ h
    | none => .no := by
  unfold pureCall
  cases mapO (frz h true deep) xs with
  | none => rfl
  | some ys =>
    dsimp only
    cases G.call f ys [] with
    | no => rfl
    | ok d h' =>
      simp only [pR]
      cases frz h' false deep d <;> rfl
    | exc x s h' =>
      simp only [pR]
      cases frzFs h' x.fs <;> rfl
structure GM (p : Hq) (G G' : Gm) : Prop where
  call : ∀ f ds t, RQ p (G.call f ds (hids p ++ t)) (G'.call f ds (p ++ t))
  pure : ∀ f ys, OM (pR (G.call f ys [])) (pR (G'.call f ys []))
  glob : G'.glob = G.glob
  fuel : G'.fuel = G.fuel
def ME {α : Type} (p : Hq) (a a' : Sl → Hq → Res α) : Prop := ∀ σ σ' t, RS σ σ' → RQ p (a σ (hids p ++ t)) (a' σ' (p ++ t))
def MG (p : Hq) (g g' : Gx) : Prop := ∀ d σ σ' t, RS σ σ' → RR p RS (g d σ (hids p ++ t)) (g' d σ' (p ++ t))
def MGs (p : Hq) (g g' : List D → Sl → Hq → Res Sl) : Prop := ∀ d σ σ' t, RS σ σ' → RR p RS (g d σ (hids p ++ t)) (g' d σ' (p ++ t))
def FR : Fl → Fl → Prop
  | .nx σ, f => ∃ σ', f = .nx σ' ∧ RS σ σ'
  | .bk σ, f => ∃ σ', f = .bk σ' ∧ RS σ σ'
  | .ct σ, f => ∃ σ', f = .ct σ' ∧ RS σ σ'
  | .rt d, f => f = .rt d
def MS (p : Hq) (s s' : Sx) : Prop := ∀ σ σ' t, RS σ σ' → RR p FR (s σ (hids p ++ t)) (s' σ' (p ++ t))

section
variable {p : Hq} {G G' : Gm}
theorem RR.fr {t : Hq} {a a' : Fl} (h : FR a a') : RR p FR (.ok a (hids p ++ t)) (.ok a' (p ++ t)) := RR.ok h
theorem forSeq_mon {g g' : Gx} {b b' : Sx} (hg : MG p g g') (hb : MS p b b') : ∀ (xs : List D) (σ σ' : Sl) (t : Hq), RS σ σ' → RR p FR (forSeq g b xs σ (hids p ++ t)) (forSeq g' b' xs σ' (p ++ t))
  | [], σ, σ', t, r => RR.fr ⟨σ', rfl, r⟩
  | x :: xs, σ, σ', t, r => by
    have h1 := hg x σ σ' t r
    unfold forSeq
    cases e1 : g x σ (hids p ++ t) with
    | no => exact RR.no
    | exc y s k =>
      rw [e1] at h1
      obtain ⟨t1, s', rfl, e2, q⟩ := h1
      rw [e2]
      exact ⟨t1, s', rfl, rfl, q⟩
    | ok σ1 k =>
      rw [e1] at h1
      obtain ⟨t1, σ1', rfl, e2, q⟩ := h1
      rw [e2]
      dsimp only
      have h2 := hb σ1 σ1' t1 q
      cases e3 : b σ1 (hids p ++ t1) with
      | no => exact RR.no
      | exc y s k =>
        rw [e3] at h2
        obtain ⟨t1, s', rfl, e2, q⟩ := h2
        rw [e2]
        exact ⟨t1, s', rfl, rfl, q⟩
      | ok f k =>
        rw [e3] at h2
        obtain ⟨t2, f', rfl, e4, q2⟩ := h2
        rw [e4]
        dsimp only
        cases f with
        | nx σ2 => obtain ⟨σ2', rfl, q3⟩ := q2; exact forSeq_mon hg hb xs σ2 σ2' t2 q3
        | ct σ2 => obtain ⟨σ2', rfl, q3⟩ := q2; exact forSeq_mon hg hb xs σ2 σ2' t2 q3
        | bk σ2 => obtain ⟨σ2', rfl, q3⟩ := q2; exact RR.fr ⟨σ2', rfl, q3⟩
        | rt d => cases q2; exact RR.fr rfl
theorem forLive_mon {g g' : Gx} {b b' : Sx} (hg : MG p g g') (hb : MS p b b') (r : Nat) : ∀ (n i : Nat) (σ σ' : Sl) (t : Hq), RS σ σ' → RR p FR (forLive g b r n i σ (hids p ++ t)) (forLive g' b' r n i σ' (p ++ t))
  | 0, i, σ, σ', t, rs => by
    unfold forLive
    split
    · rename_i xs hx
      rw [(look hx (by simp)).2]
      dsimp only
      split
      · exact RR.fr ⟨σ', rfl, rs⟩
      · exact RR.no
    · exact RR.no
  | n + 1, i, σ, σ', t, rs => by
    unfold forLive
    split
    · rename_i xs hx
      rw [(look hx (by simp)).2]
      dsimp only
      cases ex : xs[i]? with
      | none => exact RR.fr ⟨σ', rfl, rs⟩
      | some x =>
        dsimp only
        have h1 := hg x σ σ' t rs
        cases e1 : g x σ (hids p ++ t) with
        | no => exact RR.no
        | exc y s k =>
          rw [e1] at h1
          obtain ⟨t1, s', rfl, e2, q⟩ := h1
          rw [e2]
          exact ⟨t1, s', rfl, rfl, q⟩
        | ok σ1 k =>
          rw [e1] at h1
          obtain ⟨t1, σ1', rfl, e2, q⟩ := h1
          rw [e2]
          dsimp only
          have h2 := hb σ1 σ1' t1 q
          cases e3 : b σ1 (hids p ++ t1) with
          | no => exact RR.no
          | exc y s k =>
            rw [e3] at h2
            obtain ⟨t1, s', rfl, e2, q⟩ := h2
            rw [e2]
            exact ⟨t1, s', rfl, rfl, q⟩
          | ok f k =>
            rw [e3] at h2
            obtain ⟨t2, f', rfl, e4, q2⟩ := h2
            rw [e4]
            dsimp only
            cases f with
            | nx σ2 => obtain ⟨σ2', rfl, q3⟩ := q2; exact forLive_mon hg hb r n (i + 1) σ2 σ2' t2 q3
            | ct σ2 => obtain ⟨σ2', rfl, q3⟩ := q2; exact forLive_mon hg hb r n (i + 1) σ2 σ2' t2 q3
            | bk σ2 => obtain ⟨σ2', rfl, q3⟩ := q2; exact RR.fr ⟨σ2', rfl, q3⟩
            | rt d => cases q2; exact RR.fr rfl
    · exact RR.no
theorem lenAt_mon {r : Nat} {t : Hq} : (∃ xs, (hids p ++ t)[r]? = some (.lst xs) ∧ lenAt (p ++ t) r = lenAt (hids p ++ t) r) ∨ ∀ xs, (hids p ++ t)[r]? ≠ some (.lst xs) := by
  cases e : (hids p ++ t)[r]? with
  | none => exact .inr (by simp)
  | some o =>
    cases o with
    | lst xs =>
      refine .inl ⟨xs, rfl, ?_⟩
      unfold lenAt
      rw [e, (look e (by simp)).2]
    | _ => exact .inr (by simp)
theorem forLive_no {g : Gx} {b : Sx} {r n i : Nat} {σ : Sl} {h : Hq} (k : ∀ xs, h[r]? ≠ some (.lst xs)) : forLive g b r n i σ h = .no := by
  cases n <;> (unfold forLive; split; (rename_i xs hx; exact absurd hx (k xs)); rfl)
theorem lcLive_no {g : Gx} {t : Tx} {e : Ex} {r n i : Nat} {σ : Sl} {acc : List D} {h : Hq} (k : ∀ xs, h[r]? ≠ some (.lst xs)) : lcLive g t e σ r n i acc h = .no := by
  cases n <;> (unfold lcLive; split; (rename_i xs hx; exact absurd hx (k xs)); rfl)
theorem whil_mon {c c' : Tx} {b b' : Sx} (hc : ME p c c') (hb : MS p b b') : ∀ (n : Nat) (σ σ' : Sl) (t : Hq), RS σ σ' → RR p FR (whil c b n σ (hids p ++ t)) (whil c' b' n σ' (p ++ t))
  | 0, σ, σ', t, rs => RR.no
  | n + 1, σ, σ', t, rs => by
    have h1 := hc σ σ' t rs
    unfold whil
    cases e1 : c σ (hids p ++ t) with
    | no => exact RR.no
    | exc y s k =>
      rw [e1] at h1
      obtain ⟨t1, s', rfl, e2, q⟩ := h1
      rw [e2]
      exact ⟨t1, s', rfl, rfl, q⟩
    | ok v k =>
      rw [e1] at h1
      obtain ⟨t1, v', rfl, e2, rfl⟩ := h1
      rw [e2]
      cases v' with
      | false => exact RR.fr ⟨σ', rfl, rs⟩
      | true =>
        dsimp only
        have h2 := hb σ σ' t1 rs
        cases e3 : b σ (hids p ++ t1) with
        | no => exact RR.no
        | exc y s k =>
          rw [e3] at h2
          obtain ⟨t1, s', rfl, e2, q⟩ := h2
          rw [e2]
          exact ⟨t1, s', rfl, rfl, q⟩
        | ok f k =>
          rw [e3] at h2
          obtain ⟨t2, f', rfl, e4, q2⟩ := h2
          rw [e4]
          dsimp only
          cases f with
          | nx σ2 => obtain ⟨σ2', rfl, q3⟩ := q2; exact whil_mon hc hb n σ2 σ2' t2 q3
          | ct σ2 => obtain ⟨σ2', rfl, q3⟩ := q2; exact whil_mon hc hb n σ2 σ2' t2 q3
          | bk σ2 => obtain ⟨σ2', rfl, q3⟩ := q2; exact RR.fr ⟨σ2', rfl, q3⟩
          | rt d => cases q2; exact RR.fr rfl
theorem lcSeq_mon {g g' : Gx} {c c' : Tx} {e e' : Ex} (hg : MG p g g') (hc : ME p c c') (he : ME p e e') {σ σ' : Sl} (rs : RS σ σ') : ∀ (xs acc : List D) (t : Hq), RQ p (lcSeq g c e σ xs acc (hids p ++ t)) (lcSeq g' c' e' σ' xs acc (p ++ t))
  | [], acc, t => RQ.ok
  | x :: xs, acc, t => by
    have h1 := hg x σ σ' t rs
    unfold lcSeq
    cases e1 : g x σ (hids p ++ t) with
    | no => exact RR.no
    | exc y s k => exact RR.no
    | ok σ1 k =>
      rw [e1] at h1
      obtain ⟨t1, σ1', rfl, e2, q⟩ := h1
      rw [e2]
      dsimp only
      have h2 := hc σ1 σ1' t1 q
      cases e3 : c σ1 (hids p ++ t1) with
      | no => exact RR.no
      | exc y s k => exact RR.no
      | ok v k =>
        rw [e3] at h2
        obtain ⟨t2, v', rfl, e4, rfl⟩ := h2
        rw [e4]
        cases v' with
        | false => exact lcSeq_mon hg hc he rs xs acc t2
        | true =>
          dsimp only
          have h3 := he σ1 σ1' t2 q
          cases e5 : e σ1 (hids p ++ t2) with
          | no => exact RR.no
          | exc y s k => exact RR.no
          | ok y k =>
            rw [e5] at h3
            obtain ⟨t3, y', rfl, e6, rfl⟩ := h3
            rw [e6]
            exact lcSeq_mon hg hc he rs xs _ t3
theorem lcLive_mon {g g' : Gx} {c c' : Tx} {e e' : Ex} (hg : MG p g g') (hc : ME p c c') (he : ME p e e') {σ σ' : Sl} (rs : RS σ σ') (r : Nat) : ∀ (n i : Nat) (acc : List D) (t : Hq), RQ p (lcLive g c e σ r n i acc (hids p ++ t)) (lcLive g' c' e' σ' r n i acc (p ++ t))
  | 0, i, acc, t => by
    unfold lcLive
    split
    · rename_i xs hx
      rw [(look hx (by simp)).2]
      dsimp only
      split
      · exact RQ.ok
      · exact RR.no
    · exact RR.no
  | n + 1, i, acc, t => by
    unfold lcLive
    split
    · rename_i xs hx
      rw [(look hx (by simp)).2]
      dsimp only
      cases ex : xs[i]? with
      | none => exact RQ.ok
      | some x =>
        dsimp only
        have h1 := hg x σ σ' t rs
        cases e1 : g x σ (hids p ++ t) with
        | no => exact RR.no
        | exc y s k => exact RR.no
        | ok σ1 k =>
          rw [e1] at h1
          obtain ⟨t1, σ1', rfl, e2, q⟩ := h1
          rw [e2]
          dsimp only
          have h2 := hc σ1 σ1' t1 q
          cases e3 : c σ1 (hids p ++ t1) with
          | no => exact RR.no
          | exc y s k => exact RR.no
          | ok v k =>
            rw [e3] at h2
            obtain ⟨t2, v', rfl, e4, rfl⟩ := h2
            rw [e4]
            cases v' with
            | false => exact lcLive_mon hg hc he rs r n (i + 1) acc t2
            | true =>
              dsimp only
              have h3 := he σ1 σ1' t2 q
              cases e5 : e σ1 (hids p ++ t2) with
              | no => exact RR.no
              | exc y s k => exact RR.no
              | ok y k =>
                rw [e5] at h3
                obtain ⟨t3, y', rfl, e6, rfl⟩ := h3
                rw [e6]
                exact lcLive_mon hg hc he rs r n (i + 1) _ t3
    · exact RR.no
theorem lc_end {t : Hq} {r r' : Res (List D)} (h : RQ p r r') : RQ p (match r with
    | .ok ys h' => if ys.length ≤ big then .ok (.ref (hids p ++ t).length) (h'.set (hids p ++ t).length (.lst ys)) else .no
    | _ => .no) (match r' with
    | .ok ys h' => if ys.length ≤ big then .ok (.ref (p ++ t).length) (h'.set (p ++ t).length (.lst ys)) else .no
    | _ => (.no : Res D)) := by
  cases r with
  | no => exact RR.no
  | exc y s k => exact RR.no
  | ok ys k =>
    obtain ⟨t1, ys', rfl, rfl, rfl⟩ := h
    dsimp only
    have l : (hids p ++ t).length = (p ++ t).length := by simp [hids_len]
    rw [l]
    split
    · rw [(set_r (by simp) _).1, (set_r (by simp) _).2]
      exact RQ.ok
    · exact RR.no
theorem xLc_mon {vs : List Nat} {w w' : Ix} {g g' : Gx} {c c' : Tx} {e e' : Ex} (hw : ME p w w') (hg : MG p g g') (hc : ME p c c') (he : ME p e e') : ME p (xLc vs w g c e) (xLc vs w' g' c' e') := fun σ σ' t rs => by
  unfold xLc
  refine RQ.bind (hw σ σ' t rs) fun it t => ?_
  have a1 : hids p ++ t ++ [O.hid] = hids p ++ (t ++ [O.hid]) := by simp
  have a2 : p ++ t ++ [O.hid] = p ++ (t ++ [O.hid]) := by simp
  refine lc_end (t := t) ?_
  cases it with
  | seq xs =>
    dsimp only
    rw [a1, a2]
    exact lcSeq_mon hg hc he (rs.wipe vs) xs [] _
  | live r =>
    dsimp only
    rcases lenAt_mon (p := p) (r := r) (t := t) with ⟨xs, e1, e2⟩ | k
    · rw [e2, a1, a2]
      exact lcLive_mon hg hc he (rs.wipe vs) r _ 0 [] _
    · rw [lcLive_no]
      · exact RR.no
      · intro xs hx
        rw [a1] at hx
        by_cases hr : r < (hids p ++ t).length
        · rw [← a1, List.getElem?_append_left hr] at hx
          exact k xs hx
        · rw [← a1, List.getElem?_append_right (by omega)] at hx
          cases q : r - (hids p ++ t).length <;> rw [q] at hx <;> simp at hx
theorem sFor_mon {w w' : Ix} {g g' : Gx} {b b' : Sx} (hw : ME p w w') (hg : MG p g g') (hb : MS p b b') : MS p (sFor w g b) (sFor w' g' b') := fun σ σ' t rs => by
  unfold sFor
  refine RQ.bind (hw σ σ' t rs) fun it t => ?_
  cases it with
  | seq xs => exact forSeq_mon hg hb xs σ σ' t rs
  | live r =>
    dsimp only
    rcases lenAt_mon (p := p) (r := r) (t := t) with ⟨xs, e1, e2⟩ | k
    · rw [e2]
      exact forLive_mon hg hb r _ 0 σ σ' t rs
    · rw [forLive_no k]
      exact RR.no
theorem pure_mon (g : GM p G G') {f : Nat} {xs : List D} {σ σ' : Sl} {t : Hq} (rs : RS σ σ') : RQ p (pureCall G f xs σ (hids p ++ t)) (pureCall G' f xs σ' (p ++ t)) := by
  rw [pureCall_eq, pureCall_eq]
  split
  · exact RR.no
  · rename_i ys hy
    rw [mapO_mon (fun d => frz_mon deep d) xs ys hy]
    dsimp only
    split
    · rename_i e he
      rw [g.pure f ys _ he]
      exact RQ.ok
    · rename_i x he
      rw [g.pure f ys _ he]
      exact ⟨t, σ', rfl, rfl, rs⟩
    · exact RR.no
theorem xPure_mon (g : GM p G G') {f : Nat} {a a' : Ax} (h : ME p a a') : ME p (xPure G f a) (xPure G' f a') := fun σ σ' t rs => RQ.bind (h σ σ' t rs) fun xs t => pure_mon g rs
theorem MEif {α : Type} {c c' : Tx} {a a' b b' : Sl → Hq → Res α} (hc : ME p c c') (ha : ME p a a') (hb : ME p b b') : ME p (fun σ h => (c σ h).bind fun k h => if k then a σ h else b σ h) (fun σ h => (c' σ h).bind fun k h => if k then a' σ h else b' σ h) := fun σ σ' t rs =>
  RQ.bind (hc σ σ' t rs) fun k t => by cases k with
    | true => exact ha σ σ' t rs
    | false => exact hb σ σ' t rs

mutual
theorem meE (g : GM p G G') : ∀ ie : IE, ME p (evE G ie) (evE G' ie)
  | .v i, σ, σ', t, rs => by
    simp only [evE, xV]
    split
    · rename_i d hd; rw [rs.2 i d hd]; exact RQ.ok
    · exact RR.no
  | .non, σ, σ', t, rs => RQ.ok
  | .bl b, σ, σ', t, rs => RQ.ok
  | .int b, σ, σ', t, rs => RQ.ok
  | .str b, σ, σ', t, rs => RQ.ok
  | .glob b, σ, σ', t, rs => by
    simp only [evE, xGl, g.glob]
    split
    · exact RQ.ok
    · exact RR.no
  | .op o a b, σ, σ', t, rs => RQ.bind (meE g a σ σ' t rs) fun x t => RQ.bind (meE g b σ σ' t rs) fun y t => opB_mon o x y
  | .neg a, σ, σ', t, rs => RQ.bind (meE g a σ σ' t rs) fun x t => by cases x <;> first | exact RQ.ok | exact RR.no
  | .cmp c a b, σ, σ', t, rs => RQ.bind (RQ.bind (meE g a σ σ' t rs) fun x t => RQ.bind (meE g b σ σ' t rs) fun y t => RQ.ofO (cmB_mon c x y)) fun x t => RQ.ok
  | .cmp2 c d a b e, σ, σ', t, rs => RQ.bind (RQ.bind (meE g a σ σ' t rs) fun x t => RQ.bind (meE g b σ σ' t rs) fun y t => RQ.bind (RQ.ofO (cmB_mon c x y)) fun k t => by
      cases k with
      | true => exact RQ.bind (meE g e σ σ' t rs) fun z t => RQ.ofO (cmB_mon d y z)
      | false => exact RQ.ok) fun x t => RQ.ok
  | .andv a b, σ, σ', t, rs => RQ.bind (meE g a σ σ' t rs) fun x t => by
    cases x with
    | bl k => cases k with
      | true => exact meE g b σ σ' t rs
      | false => exact RQ.ok
    | _ => exact RR.no
  | .orv a b, σ, σ', t, rs => RQ.bind (meE g a σ σ' t rs) fun x t => by
    cases x with
    | bl k => cases k with
      | true => exact RQ.ok
      | false => exact meE g b σ σ' t rs
    | _ => exact RR.no
  | .notv a, σ, σ', t, rs => RQ.bind (meE g a σ σ' t rs) fun x t => by cases x <;> first | exact RQ.ok | exact RR.no
  | .ifx c a b, σ, σ', t, rs => MEif (meT g c) (meE g a) (meE g b) σ σ' t rs
  | .tup es, σ, σ', t, rs => RQ.bind (meA g es σ σ' t rs) fun xs t => by
    skip
    split
    · exact RQ.ok
    · exact RR.no
  | .lst es, σ, σ', t, rs => RQ.bind (meA g es σ σ' t rs) fun xs t => by
    skip
    split
    · exact RQ.new
    · exact RR.no
  | .dnew k, σ, σ', t, rs => RQ.new
  | .ix a i, σ, σ', t, rs => RQ.bind (meE g a σ σ' t rs) fun x t => RQ.bind (meE g i σ σ' t rs) fun y t => RQ.ofO (getItem_mon x y)
  | .sl a lo hi, σ, σ', t, rs => RQ.bind (meE g a σ σ' t rs) fun x t => RQ.bind (meO g lo σ σ' t rs) fun y t => RQ.bind (meO g hi σ σ' t rs) fun z t => slc_mon x y z
  | .call f es, σ, σ', t, rs => RQ.bind (meA g es σ σ' t rs) fun xs t => by
    have h := g.call f xs t
    cases e : G.call f xs (hids p ++ t) with
    | no => exact RR.no
    | ok d k =>
      rw [e] at h
      obtain ⟨t1, d', rfl, e2, rfl⟩ := h
      rw [e2]
      exact RQ.ok
    | exc x s k =>
      rw [e] at h
      obtain ⟨t1, d', rfl, e2, _⟩ := h
      rw [e2]
      exact ⟨t1, σ', rfl, rfl, rs⟩
  | .pcall f es, σ, σ', t, rs => xPure_mon g (meA g es) σ σ' t rs
  | .pcallL f es, σ, σ', t, rs => RQ.bind (xPure_mon g (meA g es) σ σ' t rs) fun x t => by
    split
    · exact RQ.new
    · exact RR.no
  | .blt b es, σ, σ', t, rs => RQ.bind (meA g es σ σ' t rs) fun xs t => bltV_mon b xs
  | .bm b o es, σ, σ', t, rs => RQ.bind (meE g o σ σ' t rs) fun x t => by
    skip
    split
    · rename_i h
      rw [if_pos (bmTy_mon h)]
      exact RQ.bind (meA g es σ σ' t rs) fun xs t => bmV_mon b x xs
    · exact RR.no
  | .lc vs w tg c e, σ, σ', t, rs => xLc_mon (meI g w) (meG g tg) (meT g c) (meE g e) σ σ' t rs
theorem meT (g : GM p G G') : ∀ it : IT, ME p (evT G it) (evT G' it)
  | .val a, σ, σ', t, rs => RQ.bind (meE g a σ σ' t rs) fun x t => by cases x <;> first | exact RQ.ok | exact RR.no
  | .tru a, σ, σ', t, rs => RQ.bind (meE g a σ σ' t rs) fun x t => RQ.ofO (tru_mon x)
  | .cmp c a b, σ, σ', t, rs => RQ.bind (meE g a σ σ' t rs) fun x t => RQ.bind (meE g b σ σ' t rs) fun y t => RQ.ofO (cmB_mon c x y)
  | .cmp2 c d a b e, σ, σ', t, rs => RQ.bind (meE g a σ σ' t rs) fun x t => RQ.bind (meE g b σ σ' t rs) fun y t => RQ.bind (RQ.ofO (cmB_mon c x y)) fun k t => by
      cases k with
      | true => exact RQ.bind (meE g e σ σ' t rs) fun z t => RQ.ofO (cmB_mon d y z)
      | false => exact RQ.ok
  | .and a b, σ, σ', t, rs => RQ.bind (meT g a σ σ' t rs) fun x t => by
    cases x with
    | true => exact meT g b σ σ' t rs
    | false => exact RQ.ok
  | .or a b, σ, σ', t, rs => RQ.bind (meT g a σ σ' t rs) fun x t => by
    cases x with
    | true => exact RQ.ok
    | false => exact meT g b σ σ' t rs
  | .not a, σ, σ', t, rs => RQ.bind (meT g a σ σ' t rs) fun x t => RQ.ok
  | .tt, σ, σ', t, rs => RQ.ok
theorem meA (g : GM p G G') : ∀ es : IEs, ME p (evA G es) (evA G' es)
  | .nil, σ, σ', t, rs => RQ.ok
  | .cons e es, σ, σ', t, rs => RQ.bind (meE g e σ σ' t rs) fun x t => RQ.bind (meA g es σ σ' t rs) fun xs t => RQ.ok
theorem meO (g : GM p G G') : ∀ o : IO, ME p (evO G o) (evO G' o)
  | .none, σ, σ', t, rs => RQ.ok
  | .some e, σ, σ', t, rs => RQ.bind (meE g e σ σ' t rs) fun x t => by cases x <;> first | exact RQ.ok | exact RR.no
theorem meI (g : GM p G G') : ∀ w : II, ME p (evI G w) (evI G' w)
  | .seq e, σ, σ', t, rs => RQ.bind (meE g e σ σ' t rs) fun x t => by
    cases x with
    | ref r =>
      dsimp only
      split
      · rename_i xs hx; rw [(look hx (by simp)).2]; exact RQ.ok
      · exact RR.no
    | _ => first | exact RQ.ok | exact RR.no
  | .rg1 a, σ, σ', t, rs => RQ.bind (meE g a σ σ' t rs) fun x t => by
    cases x <;> first | exact RR.no | (dsimp only; split <;> first | exact RQ.ok | exact RR.no)
  | .rg2 a b, σ, σ', t, rs => RQ.bind (meE g a σ σ' t rs) fun x t => RQ.bind (meE g b σ σ' t rs) fun y t => by
    cases x <;> cases y <;> first | exact RR.no | (dsimp only; split <;> first | exact RQ.ok | exact RR.no)
  | .rgD a b, σ, σ', t, rs => RQ.bind (meE g a σ σ' t rs) fun x t => RQ.bind (meE g b σ σ' t rs) fun y t => by
    cases x <;> cases y <;> first | exact RR.no | (dsimp only; split <;> first | exact RQ.ok | exact RR.no)
theorem meG (g : GM p G G') : ∀ w : IG, MG p (evG G w) (evG G' w)
  | .name i, d, σ, σ', t, rs => RR.ok (rs.set i _)
  | .tup n gs, d, σ, σ', t, rs => by
    simp only [evG, gTup]
    cases d with
    | tup xs =>
      dsimp only
      split
      · exact meGs g gs xs σ σ' t rs
      · exact RR.no
    | _ => exact RR.no
  | .sub o i, d, σ, σ', t, rs => RQ.bind (meE g o σ σ' t rs) fun x t => RQ.bind (meE g i σ σ' t rs) fun k t => by
    skip
    cases e : setItem x k d (hids p ++ t) with
    | none => exact RR.no
    | some h =>
      obtain ⟨t1, rfl, e2⟩ := setItem_mon e
      rw [e2]
      exact RR.ok rs
theorem meGs (g : GM p G G') : ∀ w : IGs, MGs p (evGs G w) (evGs G' w)
  | .nil, ds, σ, σ', t, rs => by
    simp only [evGs, gsNil]
    cases ds with
    | nil => exact RR.ok rs
    | cons _ _ => exact RR.no
  | .cons w ws, ds, σ, σ', t, rs => by
    simp only [evGs, gsCons]
    cases ds with
    | nil => exact RR.no
    | cons d ds => exact RR.bind (meG g w d σ σ' t rs) fun a a' t q => meGs g ws ds a a' t q
end
mutual
theorem meS (g : GM p G G') : ∀ s : IS, MS p (evS G s) (evS G' s)
  | .asg w e, σ, σ', t, rs => RQ.bind (meE g e σ σ' t rs) fun x t => RR.bind (meG g w x σ σ' t rs) fun a a' t q => RR.fr ⟨a', rfl, q⟩
  | .aug i o e, σ, σ', t, rs => by
    simp only [evS, sAug]
    split
    · rename_i x hx
      rw [rs.2 i x hx]
      exact RQ.bind (meE g e σ σ' t rs) fun y t => RQ.bind (opI_mon o x y) fun z t => RR.fr ⟨_, rfl, rs.set i _⟩
    · exact RR.no
  | .augS o a i e, σ, σ', t, rs => RQ.bind (meE g a σ σ' t rs) fun x t => RQ.bind (meE g i σ σ' t rs) fun k t => RQ.bind (RQ.ofO (getRef_mon x k)) fun u t => RQ.bind (meE g e σ σ' t rs) fun y t => RQ.bind (opI_mon o u y) fun z t => by
    skip
    cases e : setItem x k z (hids p ++ t) with
    | none => exact RR.no
    | some h =>
      obtain ⟨t1, rfl, e2⟩ := setItem_mon e
      rw [e2]
      exact RR.fr ⟨_, rfl, rs⟩
  | .exp e, σ, σ', t, rs => RQ.bind (meE g e σ σ' t rs) fun x t => RR.fr ⟨_, rfl, rs⟩
  | .ret e, σ, σ', t, rs => RQ.bind (meE g e σ σ' t rs) fun x t => RR.fr rfl
  | .retN, σ, σ', t, rs => RR.fr rfl
  | .pass, σ, σ', t, rs => RR.fr ⟨_, rfl, rs⟩
  | .brk, σ, σ', t, rs => RR.fr ⟨_, rfl, rs⟩
  | .cont, σ, σ', t, rs => RR.fr ⟨_, rfl, rs⟩
  | .iff c a b, σ, σ', t, rs => RQ.bind (meT g c σ σ' t rs) fun x t => by
    cases x with
    | true => exact meSs g a σ σ' t rs
    | false => exact meSs g b σ σ' t rs
  | .for w tg b, σ, σ', t, rs => sFor_mon (meI g w) (meG g tg) (meSs g b) σ σ' t rs
  | .wh c b, σ, σ', t, rs => by
    simp only [evS, sWh]
    rw [g.fuel]
    exact whil_mon (meT g c) (meSs g b) _ σ σ' t rs
theorem meSs (g : GM p G G') : ∀ s : ISs, MS p (evSs G s) (evSs G' s)
  | .nil, σ, σ', t, rs => RR.fr ⟨_, rfl, rs⟩
  | .cons s r, σ, σ', t, rs => by
    have h := meS g s σ σ' t rs
    simp only [evSs, sCons]
    cases e : evS G s σ (hids p ++ t) with
    | no => exact RR.no
    | exc x s k =>
      rw [e] at h
      obtain ⟨t1, s', rfl, e2, q⟩ := h
      rw [e2]
      exact ⟨t1, s', rfl, rfl, q⟩
    | ok f k =>
      rw [e] at h
      obtain ⟨t1, f', rfl, e2, q⟩ := h
      rw [e2]
      cases f with
      | nx σ1 => obtain ⟨σ2, rfl, q2⟩ := q; exact meSs g r σ1 σ2 t1 q2
      | bk σ1 => obtain ⟨σ2, rfl, q2⟩ := q; exact RR.fr ⟨_, rfl, q2⟩
      | ct σ1 => obtain ⟨σ2, rfl, q2⟩ := q; exact RR.fr ⟨_, rfl, q2⟩
      | rt d => cases q; exact RR.fr rfl
end
end
/-- a program whose bodies are texts -/
def Txt (P : Pg) : Prop := ∀ f fn, P.fns f = some fn → ∃ b : ISs, fn.body = fun G => evSs G b
theorem gm_self {P : Pg} {p : Hq} {n : Nat} (c : ∀ f ds t, RQ p (run P n f ds (hids p ++ t)) (run P n f ds (p ++ t))) : GM p (gmOf P n) (gmOf P n) := ⟨c, fun _ _ _ h => h, rfl, rfl⟩
theorem run_mon {P : Pg} (T : Txt P) {p : Hq} : ∀ n f ds t, RQ p (run P n f ds (hids p ++ t)) (run P n f ds (p ++ t))
  | 0, f, ds, t => RR.no
  | n + 1, f, ds, t => by
    have ih := gm_self (run_mon T (p := p) n)
    simp only [run]
    cases e : P.fns f with
    | none => exact RR.no
    | some fn =>
      obtain ⟨b, hb⟩ := T f fn e
      dsimp only
      unfold runFn
      split
      · rw [hb]
        have h := meSs ih b (startD fn.ns ds) (startD fn.ns ds) t .refl
        show RQ p (match evSs (gmOf P n) b (startD fn.ns ds) (hids p ++ t) with
          | .ok fl h => (match fl with
            | .rt d => .ok d h
            | .nx _ => .ok .non h
            | _ => .no)
          | .exc x s h => .exc x s h
          | .no => .no) (match evSs (gmOf P n) b (startD fn.ns ds) (p ++ t) with
          | .ok fl h => (match fl with
            | .rt d => .ok d h
            | .nx _ => .ok .non h
            | _ => .no)
          | .exc x s h => .exc x s h
          | .no => .no)
        cases e : evSs (gmOf P n) b (startD fn.ns ds) (hids p ++ t) with
        | no => exact RR.no
        | exc x s k =>
          rw [e] at h
          obtain ⟨t1, s', rfl, e2, q⟩ := h
          rw [e2]
          exact ⟨t1, s', rfl, rfl, q⟩
        | ok fl k =>
          rw [e] at h
          obtain ⟨t1, f', rfl, e2, q⟩ := h
          rw [e2]
          cases fl with
          | nx σ1 => obtain ⟨σ2, rfl, q2⟩ := q; exact RQ.ok
          | bk σ1 => exact RR.no
          | ct σ1 => exact RR.no
          | rt d => cases q; exact RQ.ok
      · exact RR.no
theorem gm_run {P : Pg} (T : Txt P) {p : Hq} (n : Nat) : GM p (gmOf P n) (gmOf P n) := gm_self (run_mon T n)
end Px
/-! P19: segments of a body; tables of calls; the feed -/
namespace Px

/-! ### segments -/
def appS : ISs → ISs → ISs
  | .nil, b => b
  | .cons s r, b => .cons s (appS r b)
def takeS : Nat → ISs → ISs
  | 0, _ => .nil
  | _ + 1, .nil => .nil
  | n + 1, .cons s r => .cons s (takeS n r)
def dropS : Nat → ISs → ISs
  | 0, b => b
  | _ + 1, .nil => .nil
  | n + 1, .cons _ r => dropS n r
theorem take_drop : ∀ (n : Nat) (b : ISs), appS (takeS n b) (dropS n b) = b
  | 0, b => rfl
  | n + 1, .nil => rfl
  | n + 1, .cons s r => by simp only [takeS, dropS, appS, take_drop n r]
theorem app_nx {G : Gm} : ∀ (a b : ISs) {σ σ1 : Sl} {h h1 : Hq}, evSs G a σ h = .ok (.nx σ1) h1 → evSs G (appS a b) σ h = evSs G b σ1 h1
  | .nil, b, σ, σ1, h, h1, e => by
    simp only [evSs, sNil, Res.ok.injEq, Fl.nx.injEq] at e
    obtain ⟨rfl, rfl⟩ := e
    rfl
  | .cons s r, b, σ, σ1, h, h1, e => by
    simp only [evSs, sCons, appS] at e ⊢
    cases q : evS G s σ h with
    | no => rw [q] at e; cases e
    | exc x k l => rw [q] at e; cases e
    | ok f k =>
      rw [q] at e
      cases f with
      | nx σ2 => exact app_nx r b e
      | _ => cases e
theorem seg_nx {G : Gm} (n : Nat) {b : ISs} {σ σ1 : Sl} {h h1 : Hq} (e : evSs G (takeS n b) σ h = .ok (.nx σ1) h1) : evSs G b σ h = evSs G (dropS n b) σ1 h1 := by
  have := app_nx (takeS n b) (dropS n b) e
  rw [take_drop] at this
  exact this
/-! ### what is the same -/
mutual
def same : D → D → Bool
  | .non, .non => true
  | .bl a, .bl b => a == b
  | .int i, .int j => i == j
  | .str a, .str b => a == b
  | .tup xs, .tup ys => sames xs ys
  | .lst a xs, .lst b ys => a == b && sames xs ys
  | .ref i, .ref j => i == j
  | _, _ => false
def sames : List D → List D → Bool
  | [], [] => true
  | x :: xs, y :: ys => same x y && sames xs ys
  | _, _ => false
end
mutual
theorem same_eq : ∀ (a b : D), same a b = true → a = b
  | .non, b, h => by cases b <;> simp_all [same]
  | .bl a, b, h => by cases b <;> simp_all [same]
  | .int i, b, h => by cases b <;> simp_all [same]
  | .str s, b, h => by cases b <;> simp_all [same]
  | .ref i, b, h => by cases b <;> simp_all [same]
  | .scr i, b, h => by cases b <;> simp_all [same]
  | .tup xs, b, h => by
    cases b <;> first | (simp [same] at h; done) | (simp only [same] at h; rw [sames_eq _ _ h])
  | .lst w xs, b, h => by
    cases b <;> first | (simp [same] at h; done) | (simp only [same, Bool.and_eq_true, beq_iff_eq] at h; rw [h.1, sames_eq _ _ h.2])
theorem sames_eq : ∀ (a b : List D), sames a b = true → a = b
  | [], b, h => by cases b <;> simp_all [sames]
  | x :: xs, b, h => by
    cases b with
    | nil => simp [sames] at h
    | cons y ys =>
      simp only [sames, Bool.and_eq_true] at h
      rw [same_eq _ _ h.1, sames_eq _ _ h.2]
end
/-! ### tables -/
abbrev Tab := List (Nat × List D × D)
def tabOf : Tab → Nat → List D → Option D
  | [], _, _ => none
  | (g, xs, d) :: r, f, ys => if g == f && sames xs ys then some d else tabOf r f ys
def tabC (p : Pg) (n : Nat) (T : Tab) (f : Nat) (ds : List D) (h : Hq) : Res D := match h with
  | [] => (match tabOf T f ds with
    | some d => .ok d []
    | none => run p n f ds [])
  | _ => run p n f ds h
def tabG (p : Pg) (n : Nat) (T : Tab) : Gm := { call := tabC p n T, make := fun _ _ _ => .no, glob := p.glob, fuel := p.fuel }
def okP (r : Option (Sum D Xn)) (d : D) : Bool := match r with
  | some (.inl e) => same e d
  | _ => false
def okT (p : Pg) (n : Nat) (e : Nat × List D × D) : Bool := okP (pR (run p n e.1 e.2.1 [])) e.2.2 && okP (pR (.ok e.2.2 [])) e.2.2
theorem okP_eq {r : Option (Sum D Xn)} {d : D} (h : okP r d = true) : r = some (.inl d) := by
  unfold okP at h
  split at h
  · rw [same_eq _ _ h]
  · cases h
theorem tabOf_ok {T : Tab} {f : Nat} {ds : List D} {d : D} (h : tabOf T f ds = some d) : (f, ds, d) ∈ T := by
  induction T with
  | nil => cases h
  | cons e r ih =>
    obtain ⟨g, xs, z⟩ := e
    simp only [tabOf] at h
    split at h
    · rename_i c
      simp only [Bool.and_eq_true, beq_iff_eq] at c
      cases h
      rw [c.1, sames_eq _ _ c.2]
      exact List.mem_cons_self
    · exact List.mem_cons_of_mem _ (ih h)
theorem gm_tab {P : Pg} (X : Txt P) {n : Nat} {T : Tab} (hT : ∀ e ∈ T, okT P n e = true) {p : Hq} (hp : p ≠ []) : GM p (tabG P n T) (gmOf P n) := by
  refine ⟨fun f ds t => ?_, fun f ys a h => ?_, rfl, rfl⟩
  · have := run_mon X (p := p) n f ds t
    have e : (tabG P n T).call f ds (hids p ++ t) = run P n f ds (hids p ++ t) := by
      cases p with
      | nil => exact absurd rfl hp
      | cons a p => rfl
    rw [e]
    exact this
  · show pR (run P n f ys []) = some a
    have h : pR (match tabOf T f ys with
      | some d => .ok d []
      | none => run P n f ys []) = some a := h
    cases e : tabOf T f ys with
    | none => rw [e] at h; exact h
    | some d =>
      rw [e] at h
      have q := hT _ (tabOf_ok e)
      simp only [okT, Bool.and_eq_true] at q
      rw [okP_eq q.1, ← h]
      exact (okP_eq q.2).symm
/-! ### a segment that is run with a table, on hidden objects -/
def chkN (r : Res Fl) (f : Sl → Hq → Bool) : Bool := match r with
  | .ok (.nx σ) h => f σ h
  | _ => false
def chkR (r : Res Fl) (d : D) : Bool := match r with
  | .ok (.rt e) h => same e d
  | _ => false
theorem seg_go {P : Pg} {n : Nat} {Gh : Gm} {p : Hq} (g : GM p Gh (gmOf P n)) {b : ISs} (k : Nat) {σh σ : Sl} {f : Sl → Hq → Bool} (rs : RS σh σ) (hc : chkN (evSs Gh (takeS k b) σh (hids p)) f = true) :
    ∃ t σ1 σ', RS σ1 σ' ∧ f σ1 (hids p ++ t) = true ∧ evSs (gmOf P n) (takeS k b) σ p = .ok (.nx σ') (p ++ t) ∧ evSs (gmOf P n) b σ p = evSs (gmOf P n) (dropS k b) σ' (p ++ t) := by
  have m := meSs g (takeS k b) σh σ [] rs
  rw [List.append_nil, List.append_nil] at m
  unfold chkN at hc
  split at hc
  · rename_i σ1 h1 e
    rw [e] at m
    obtain ⟨t, f', rfl, e2, σ', rfl, q⟩ := m
    exact ⟨t, σ1, σ', q, hc, e2, seg_nx k e2⟩
  · cases hc
theorem seg_ret {P : Pg} {n : Nat} {Gh : Gm} {p : Hq} (g : GM p Gh (gmOf P n)) {b : ISs} {σh σ : Sl} {d : D} (rs : RS σh σ) (hc : chkR (evSs Gh b σh (hids p)) d = true) : ∃ t, evSs (gmOf P n) b σ p = .ok (.rt d) (p ++ t) := by
  have m := meSs g b σh σ [] rs
  rw [List.append_nil, List.append_nil] at m
  unfold chkR at hc
  split at hc
  · rename_i e1 h1 e
    rw [e] at m
    obtain ⟨t, f', rfl, e2, q⟩ := m
    cases q
    exact ⟨t, by rw [e2, same_eq _ _ hc]⟩
  · cases hc
/-- slots that are told -/
def slotIs (σ : Sl) (i : Nat) (d : D) : Bool := match σ[i]? with
  | some (some e) => same e d
  | _ => false
theorem slotIs_ok {σ σ' : Sl} (r : RS σ σ') {i : Nat} {d : D} (h : slotIs σ i d = true) : σ'[i]? = some (some d) := by
  unfold slotIs at h
  split at h
  · rename_i e he
    rw [← same_eq _ _ h]
    exact r.2 i e he
  · cases h
theorem hids_eq {p : Hq} {n : Nat} (h : p.length = n) : hids p = List.replicate n O.hid := by rw [← h]; rfl
/-- slots: told ones, all else unset -/
def only (n : Nat) (l : List (Nat × D)) : Sl := l.foldl (fun σ e => σ.set e.1 (some e.2)) (List.replicate n none)
theorem only_rs {n : Nat} {σ : Sl} (hn : σ.length = n) : ∀ (l : List (Nat × D)) (τ : Sl), τ.length = n → (∀ (i : Nat) d, τ[i]? = some (some d) → σ[i]? = some (some d)) → (∀ e ∈ l, σ[e.1]? = some (some e.2)) → RS (l.foldl (fun σ e => σ.set e.1 (some e.2)) τ) σ
  | [], τ, h1, h2, _ => ⟨by show τ.length = _; omega, h2⟩
  | e :: l, τ, h1, h2, h3 => by
    refine only_rs hn l _ (by simpa using h1) (fun i d q => ?_) fun x hx => h3 x (List.mem_cons_of_mem _ hx)
    by_cases hi : e.1 = i
    · subst hi
      by_cases hl : e.1 < τ.length
      · rw [List.getElem?_set_self hl] at q
        rw [h3 e List.mem_cons_self]
        exact q
      · rw [List.getElem?_eq_none (by simp; omega)] at q; cases q
    · rw [List.getElem?_set_ne hi] at q
      exact h2 i d q
theorem only_ok {n : Nat} {σ : Sl} {l : List (Nat × D)} (hn : σ.length = n) (h : ∀ e ∈ l, σ[e.1]? = some (some e.2)) : RS (only n l) σ :=
  only_rs hn l _ (by simp) (fun i d q => by rw [List.getElem?_replicate] at q; split at q <;> simp at q) h
end Px
/-! P20: the feed -/
namespace Px
def bFeed : ISs := (.cons (.ret (.lst (.cons (.blt .list (.cons (.v 0) .nil)) (.cons (.int 0) (.cons (.int 0) (.cons (.int 1) .nil)))))) .nil)
def bDrawA : IS := (.iff (.and (.cmp .eq (.ix (.v 0) (.int 2)) (.int 0)) (.cmp .lt (.ix (.v 0) (.int 1)) (.blt .len (.cons (.ix (.v 0) (.int 0)) .nil)))) (.cons (.asg (.name 3) (.blt .abs (.cons (.blt .int (.cons (.ix (.ix (.v 0) (.int 0)) (.ix (.v 0) (.int 1))) .nil)) .nil))) (.cons (.augS .add (.v 0) (.int 1) (.int 1)) (.cons (.iff (.cmp .ge (.v 3) (.op .pow (.int 10) (.int 18))) (.cons (.asg (.sub (.v 0) (.int 2)) (.v 3)) .nil) (.cons (.asg (.sub (.v 0) (.int 3)) (.op .mod (.blt .int (.cons (.op .add (.op .add (.op .mul (.ix (.v 0) (.int 3)) (.int 48271)) (.op .mul (.v 3) (.int 69621))) (.ix (.v 0) (.int 1))) .nil)) (.int 2147483647))) .nil)) .nil))) .nil)
def bDrawB : ISs := (.cons (.iff (.cmp .gt (.ix (.v 0) (.int 2)) (.int 0)) (.cons (.asg (.name 4) (.op .mod (.blt .int (.cons (.ix (.v 0) (.int 2)) .nil)) (.v 1))) (.cons (.asg (.sub (.v 0) (.int 2)) (.op .fdiv (.ix (.v 0) (.int 2)) (.v 1))) (.cons (.ret (.v 4)) .nil))) .nil) (.cons (.asg (.sub (.v 0) (.int 3)) (.op .mod (.blt .int (.cons (.op .add (.op .mul (.ix (.v 0) (.int 3)) (.int 16807)) (.int 12345)) .nil)) (.int 2147483647))) (.cons (.asg (.name 2) (.op .mod (.blt .int (.cons (.op .add (.op .mul (.ix (.v 0) (.int 3)) (.ix (.v 0) (.int 3))) (.ix (.v 0) (.int 3))) .nil)) (.int 2147483629))) (.cons (.ret (.op .mod (.op .fdiv (.v 2) (.int 11)) (.v 1))) .nil))))
def bDraw : ISs := .cons bDrawA bDrawB

/-- the feed's list and its state -/
def fd (xs : List Int) (i c s : Int) (q : Hq) : Hq := .lst (xs.map .int) :: .lst [.ref 0, .int i, .int c, .int s] :: q
structure FdOk (i c s : Int) : Prop where
  hp : 0 ≤ i
  hc : 0 ≤ c
  hs : 0 ≤ s
  ht : s ≤ 2147483646

/-! rules by hand -/
section
variable {G : Gm} {σ : Sl} {h h1 h2 : Hq} {a b : Ex} {A : Ax} {x y d : D}
theorem eV {i : Nat} (e : σ[i]? = some (some d)) : xV i σ h = .ok d h := by simp only [xV, e]
theorem eIx (e1 : a σ h = .ok x h1) (e2 : b σ h1 = .ok y h2) (e3 : getItem x y h2 = some d) : xIx a b σ h = .ok d h2 := by simp only [xIx, e1, Res.bind, e2, e3, ofO]
theorem eOp {o : Op} (e1 : a σ h = .ok x h1) (e2 : b σ h1 = .ok y h2) (e3 : opB o x y h2 = .ok d h2) : xOp o a b σ h = .ok d h2 := by simp only [xOp, e1, Res.bind, e2, e3]
theorem eBl {k : Bl} (e1 : A σ h = .ok [x] h1) (e2 : bltV k [x] h1 = .ok d h2) : xBlt k A σ h = .ok d h2 := by simp only [xBlt, e1, Res.bind, e2]
theorem eA1 (e1 : a σ h = .ok x h1) : aCons a aNil σ h = .ok [x] h1 := by simp only [aCons, aNil, e1, Res.bind]
theorem eA2 (e1 : a σ h = .ok x h1) (e2 : b σ h1 = .ok y h2) : aCons a (aCons b aNil) σ h = .ok [x, y] h2 := by simp only [aCons, aNil, e1, e2, Res.bind]
theorem eCm {k : Cm} {v : Bool} (e1 : a σ h = .ok x h1) (e2 : b σ h1 = .ok y h2) (e3 : cmB k x y h2 = some v) : tCm k a b σ h = .ok v h2 := by simp only [tCm, e1, Res.bind, e2, e3, ofO]
theorem eAndF {t u : Tx} (e1 : t σ h = .ok false h1) : tAnd t u σ h = .ok false h1 := by simp [tAnd, e1, Res.bind]
theorem eAndT {t u : Tx} {r : Res Bool} (e1 : t σ h = .ok true h1) (e2 : u σ h1 = r) : tAnd t u σ h = r := by simp [tAnd, e1, Res.bind, e2]
theorem sIfT {t : Tx} {u v : Sx} {r : Res Fl} (e1 : t σ h = .ok true h1) (e2 : u σ h1 = r) : sIf t u v σ h = r := by simp [sIf, e1, Res.bind, e2]
theorem sIfF {t : Tx} {u v : Sx} {r : Res Fl} (e1 : t σ h = .ok false h1) (e2 : v σ h1 = r) : sIf t u v σ h = r := by simp [sIf, e1, Res.bind, e2]
theorem sCn {u v : Sx} {σ1 : Sl} {r : Res Fl} (e1 : u σ h = .ok (.nx σ1) h1) (e2 : v σ1 h1 = r) : sCons u v σ h = r := by simp only [sCons, e1, e2]
theorem sAsgN {i : Nat} (e1 : a σ h = .ok x h1) : sAsg (gN i) a σ h = .ok (.nx (σ.set i (some x))) h1 := by simp only [sAsg, e1, Res.bind, gN]
theorem sAsgS {e : Ex} {h3 h4 : Hq} (e0 : e σ h = .ok d h1) (e1 : a σ h1 = .ok x h2) (e2 : b σ h2 = .ok y h3) (e3 : setItem x y d h3 = some h4) : sAsg (gSub a b) e σ h = .ok (.nx σ) h4 := by simp only [sAsg, e0, e1, e2, e3, Res.bind, gSub]
theorem sAuS {o : Op} {e : Ex} {u v w : D} {h3 h4 : Hq} (e1 : a σ h = .ok x h1) (e2 : b σ h1 = .ok y h2) (e3 : getRef x y h2 = some u) (e4 : e σ h2 = .ok v h3) (e5 : opI o u v h3 = .ok w h3) (e6 : setItem x y w h3 = some h4) : sAugS o a b e σ h = .ok (.nx σ) h4 := by simp only [sAugS, e1, e2, e3, e4, e5, e6, Res.bind, ofO]
theorem sRt (e : a σ h = .ok x h1) : sRet a σ h = .ok (.rt x) h1 := by simp only [sRet, e, Res.bind]
theorem eC : xC d σ h = .ok d h := rfl
theorem bInt1 {k : Int} : bltV .int [D.int k] h = .ok (D.int k) h := rfl
end

section
variable {G : Gm} {xs : List Int} {i c s m : Int} {q : Hq} {σ : Sl}
theorem fd_get {k : Nat} {d : D} (h0 : σ[0]? = some (some (.ref 1))) (hd : ([.ref 0, .int i, .int c, .int s] : List D)[k]? = some d) : xIx (xV 0) (xC (D.int (k : Nat))) σ (fd xs i c s q) = .ok d (fd xs i c s q) := by
  have hk : k < 4 := (List.getElem?_eq_some_iff.mp hd).1
  have e : ixn 4 (k : Int) = some k := by
    unfold ixn
    rw [if_pos (by omega), if_pos (by omega)]
    simp
  refine eIx (eV h0) eC ?_
  simp only [getItem, fd, List.getElem?_cons_succ, List.getElem?_cons_zero, aI, List.length_cons, List.length_nil]
  show (match ixn 4 (k : Int) with | some j => _ | none => _) = _
  rw [e]
  exact hd
theorem g2 (h0 : σ[0]? = some (some (.ref 1))) : xIx (xV 0) (xC (.int 2)) σ (fd xs i c s q) = .ok (.int c) (fd xs i c s q) := fd_get (k := 2) h0 rfl
theorem g1 (h0 : σ[0]? = some (some (.ref 1))) : xIx (xV 0) (xC (.int 1)) σ (fd xs i c s q) = .ok (.int i) (fd xs i c s q) := fd_get (k := 1) h0 rfl
theorem g0 (h0 : σ[0]? = some (some (.ref 1))) : xIx (xV 0) (xC (.int 0)) σ (fd xs i c s q) = .ok (.ref 0) (fd xs i c s q) := fd_get (k := 0) h0 rfl
theorem g3 (h0 : σ[0]? = some (some (.ref 1))) : xIx (xV 0) (xC (.int 3)) σ (fd xs i c s q) = .ok (.int s) (fd xs i c s q) := fd_get (k := 3) h0 rfl
theorem p1 {v : Int} : setItem (.ref 1) (.int 1) (.int v) (fd xs i c s q) = some (fd xs v c s q) := rfl
theorem p2 {v : Int} : setItem (.ref 1) (.int 2) (.int v) (fd xs i c s q) = some (fd xs i v s q) := rfl
theorem p3 {v : Int} : setItem (.ref 1) (.int 3) (.int v) (fd xs i c s q) = some (fd xs i c v q) := rfl
theorem gLen (h0 : σ[0]? = some (some (.ref 1))) : xBlt .len (aCons (xIx (xV 0) (xC (.int 0))) aNil) σ (fd xs i c s q) = .ok (.int xs.length) (fd xs i c s q) :=
  eBl (eA1 (g0 h0)) (by show Res.ok (D.int ((xs.map D.int).length : Nat)) _ = _; rw [List.length_map])
theorem mod_s {z : Int} : FdOk i c (z % 2147483647) ↔ 0 ≤ i ∧ 0 ≤ c := ⟨fun h => ⟨h.hp, h.hc⟩, fun h => ⟨h.1, h.2, by omega, by omega⟩⟩
theorem mulS {k : Int} (h1 : -18446744073709551616 < k) (h2 : k < 18446744073709551616) {z : Int} {h : Hq} : opB .mul (.int z) (.int k) h = .ok (.int (z * k)) h := by
  simp [opB, h1, h2]
theorem modS {k : Int} (h1 : 0 < k) {z : Int} {h : Hq} : opB .mod (.int z) (.int k) h = .ok (.int (z % k)) h := by
  simp [opB, h1]
theorem divS {k : Int} (h1 : 0 < k) (h2 : k < 1073741824) {z : Int} {h : Hq} : opB .fdiv (.int z) (.int k) h = .ok (.int (z / k)) h := by
  simp [opB, h1, h2]
theorem addS {z k : Int} {h : Hq} : opB .add (.int z) (.int k) h = .ok (.int (z + k)) h := rfl
theorem drawA (ok : FdOk i c s) (hl : xs.length ≤ 63) (h0 : σ[0]? = some (some (.ref 1))) (hn : σ.length = 5) : ∃ σ' i' c' s', FdOk i' c' s' ∧ (∀ j : Nat, j ≠ 3 → σ'[j]? = σ[j]?) ∧ evS G bDrawA σ (fd xs i c s q) = .ok (.nx σ') (fd xs i' c' s' q) := by
  have eqc : cmB .eq (.int c) (.int 0) (fd xs i c s q) = some (c == 0) := rfl
  by_cases hc : c = 0
  · subst hc
    by_cases hi : i < xs.length
    · obtain ⟨v, hv⟩ : ∃ v, xs[i.toNat]? = some v := by
        rw [List.getElem?_eq_getElem (by have := ok.hp; omega)]
        exact ⟨_, rfl⟩
      have e1 : xIx (xIx (xV 0) (xC (.int 0))) (xIx (xV 0) (xC (.int 1))) σ (fd xs i 0 s q) = .ok (.int v) (fd xs i 0 s q) := by
        refine eIx (g0 h0) (g1 h0) ?_
        show aI (xs.map D.int) i = _
        simp only [aI, ixn, List.length_map]
        rw [if_pos ok.hp, if_pos hi]
        simp [hv]
      have hA : 0 ≤ (if v < 0 then -v else v) := by split <;> omega
      have e2 : evS G (.asg (.name 3) (.blt .abs (.cons (.blt .int (.cons (.ix (.ix (.v 0) (.int 0)) (.ix (.v 0) (.int 1))) .nil)) .nil))) σ (fd xs i 0 s q) = .ok (.nx (σ.set 3 (some (.int (if v < 0 then -v else v))))) (fd xs i 0 s q) :=
        sAsgN (eBl (eA1 (eBl (eA1 e1) bInt1)) rfl)
      generalize hu : (if v < 0 then -v else v) = u at hA e2
      have n0 : (σ.set 3 (some (.int u)))[0]? = some (some (.ref 1)) := by rw [List.getElem?_set_ne (by omega)]; exact h0
      have n3 : (σ.set 3 (some (.int u)))[3]? = some (some (.int u)) := List.getElem?_set_self (by omega)
      have rest : ∀ j : Nat, j ≠ 3 → (σ.set 3 (some (.int u)))[j]? = σ[j]? := fun j hj => List.getElem?_set_ne (Ne.symm hj)
      have e3 : evS G (.augS .add (.v 0) (.int 1) (.int 1)) (σ.set 3 (some (.int u))) (fd xs i 0 s q) = .ok (.nx (σ.set 3 (some (.int u)))) (fd xs (i + 1) 0 s q) :=
        sAuS (eV n0) eC rfl eC rfl p1
      have hp := ok.hp
      have tst : tAnd (tCm .eq (xIx (xV 0) (xC (.int 2))) (xC (.int 0))) (tCm .lt (xIx (xV 0) (xC (.int 1))) (xBlt .len (aCons (xIx (xV 0) (xC (.int 0))) aNil))) σ (fd xs i 0 s q) = .ok true (fd xs i 0 s q) :=
        eAndT (eCm (g2 h0) eC eqc) (eCm (g1 h0) (gLen h0) (by simp [cmB, hi]))
      have pw : xOp .pow (xC (.int 10)) (xC (.int 18)) (σ.set 3 (some (.int u))) (fd xs (i + 1) 0 s q) = .ok (.int (10 ^ 18)) (fd xs (i + 1) 0 s q) := eOp eC eC rfl
      by_cases hb : (10 ^ 18 : Int) ≤ u
      · refine ⟨σ.set 3 (some (.int u)), i + 1, u, s, ⟨by omega, hA, ok.hs, ok.ht⟩, rest, ?_⟩
        refine sIfT tst (sCn e2 (sCn e3 (sCn (sIfT (eCm (eV n3) pw (by show some (decide _) = _; rw [decide_eq_true hb])) (sCn (sAsgS (eV n3) (eV n0) eC p2) rfl)) rfl)))
      · refine ⟨σ.set 3 (some (.int u)), i + 1, 0, (s * 48271 + u * 69621 + (i + 1)) % 2147483647, mod_s.mpr ⟨by omega, by omega⟩, rest, ?_⟩
        refine sIfT tst (sCn e2 (sCn e3 (sCn (sIfF (eCm (eV n3) pw (by show some (decide _) = _; rw [decide_eq_false hb])) (sCn (sAsgS (eOp (eBl (eA1 (eOp (eOp (eOp (g3 n0) eC (mulS (by decide) (by decide))) (eOp (eV n3) eC (mulS (by decide) (by decide))) addS) (g1 n0) addS)) bInt1) eC (modS (by decide))) (eV n0) eC p3) rfl)) rfl)))
    · refine ⟨σ, i, 0, s, ok, fun _ _ => rfl, ?_⟩
      exact sIfF (eAndT (eCm (g2 h0) eC eqc) (eCm (g1 h0) (gLen h0) (by simp [cmB, hi]))) rfl
  · refine ⟨σ, i, c, s, ok, fun _ _ => rfl, ?_⟩
    refine sIfF (eAndF (eCm (g2 h0) eC (by rw [eqc]; simp [hc]))) rfl
theorem drawB (ok : FdOk i c s) (hm : 0 < m) (hm2 : m < 1073741824) (h0 : σ[0]? = some (some (.ref 1))) (h1 : σ[1]? = some (some (.int m))) (hn : σ.length = 5) : ∃ v i' c' s', 0 ≤ v ∧ v < m ∧ FdOk i' c' s' ∧ evSs G bDrawB σ (fd xs i c s q) = .ok (.rt (.int v)) (fd xs i' c' s' q) := by
  by_cases hc : 0 < c
  · refine ⟨c % m, i, c / m, s, Int.emod_nonneg _ (by omega), Int.emod_lt_of_pos _ hm, ⟨ok.hp, Int.ediv_nonneg ok.hc (by omega), ok.hs, ok.ht⟩, ?_⟩
    have n0 : (σ.set 4 (some (.int (c % m))))[0]? = some (some (.ref 1)) := by rw [List.getElem?_set_ne (by omega)]; exact h0
    have n1 : (σ.set 4 (some (.int (c % m))))[1]? = some (some (.int m)) := by rw [List.getElem?_set_ne (by omega)]; exact h1
    have n4 : (σ.set 4 (some (.int (c % m))))[4]? = some (some (.int (c % m))) := List.getElem?_set_self (by omega)
    have st : evS G (.iff (.cmp .gt (.ix (.v 0) (.int 2)) (.int 0)) (.cons (.asg (.name 4) (.op .mod (.blt .int (.cons (.ix (.v 0) (.int 2)) .nil)) (.v 1))) (.cons (.asg (.sub (.v 0) (.int 2)) (.op .fdiv (.ix (.v 0) (.int 2)) (.v 1))) (.cons (.ret (.v 4)) .nil))) .nil) σ (fd xs i c s q) = .ok (.rt (.int (c % m))) (fd xs i (c / m) s q) :=
      sIfT (eCm (g2 h0) eC (by show some (decide _) = _; rw [decide_eq_true hc])) (sCn (sAsgN (eOp (eBl (eA1 (g2 h0)) bInt1) (eV h1) (modS hm))) (sCn (sAsgS (eOp (g2 n0) (eV n1) (divS hm hm2)) (eV n0) eC p2) (by simp only [evSs, evS, evE, sCons, sRt (eV n4)])))
    simp only [bDrawB, evSs, sCons] at st ⊢
    rw [st]
  · have hc0 : c = 0 := by have := ok.hc; omega
    subst hc0
    have w : ∀ z : Int, z % 2147483647 % 2147483647 = z % 2147483647 := fun z => by omega
    generalize hz : (s * 16807 + 12345) % 2147483647 = z
    have hz0 : 0 ≤ z := by omega
    have hz1 : z < 2147483647 := by omega
    refine ⟨(z * z + z) % 2147483629 / 11 % m, i, 0, z, Int.emod_nonneg _ (by omega), Int.emod_lt_of_pos _ hm, ⟨ok.hp, by omega, hz0, by omega⟩, ?_⟩
    have st1 : evS G (.iff (.cmp .gt (.ix (.v 0) (.int 2)) (.int 0)) (.cons (.asg (.name 4) (.op .mod (.blt .int (.cons (.ix (.v 0) (.int 2)) .nil)) (.v 1))) (.cons (.asg (.sub (.v 0) (.int 2)) (.op .fdiv (.ix (.v 0) (.int 2)) (.v 1))) (.cons (.ret (.v 4)) .nil))) .nil) σ (fd xs i 0 s q) = .ok (.nx σ) (fd xs i 0 s q) :=
      sIfF (eCm (g2 h0) eC rfl) rfl
    have st2 : evS G (.asg (.sub (.v 0) (.int 3)) (.op .mod (.blt .int (.cons (.op .add (.op .mul (.ix (.v 0) (.int 3)) (.int 16807)) (.int 12345)) .nil)) (.int 2147483647))) σ (fd xs i 0 s q) = .ok (.nx σ) (fd xs i 0 z q) := by
      rw [← hz]
      exact sAsgS (eOp (eBl (eA1 (eOp (eOp (g3 h0) eC (mulS (by decide) (by decide))) eC addS)) bInt1) eC (modS (by decide))) (eV h0) eC p3
    have st3 : evS G (.asg (.name 2) (.op .mod (.blt .int (.cons (.op .add (.op .mul (.ix (.v 0) (.int 3)) (.ix (.v 0) (.int 3))) (.ix (.v 0) (.int 3))) .nil)) (.int 2147483629))) σ (fd xs i 0 z q) = .ok (.nx (σ.set 2 (some (.int ((z * z + z) % 2147483629))))) (fd xs i 0 z q) :=
      sAsgN (eOp (eBl (eA1 (eOp (eOp (g3 h0) (g3 h0) (mulS (by omega) (by omega))) (g3 h0) addS)) bInt1) eC (modS (by decide)))
    have n1 : (σ.set 2 (some (.int ((z * z + z) % 2147483629))))[1]? = some (some (.int m)) := by rw [List.getElem?_set_ne (by omega)]; exact h1
    have n2 : (σ.set 2 (some (.int ((z * z + z) % 2147483629))))[2]? = some (some (.int ((z * z + z) % 2147483629))) := List.getElem?_set_self (by omega)
    have st4 : evS G (.ret (.op .mod (.op .fdiv (.v 2) (.int 11)) (.v 1))) (σ.set 2 (some (.int ((z * z + z) % 2147483629)))) (fd xs i 0 z q) = .ok (.rt (.int ((z * z + z) % 2147483629 / 11 % m))) (fd xs i 0 z q) :=
      sRt (eOp (eOp (eV n2) eC (divS (by decide) (by decide))) (eV n1) (modS hm))
    simp only [bDrawB, evSs]
    refine sCn st1 (sCn st2 (sCn st3 ?_))
    simp only [sCons, st4]
theorem run_rt {P : Pg} {n f np ns : Nat} {b : ISs} {ds : List D} {h h' : Hq} {d : D} (hf : P.fns f = some ⟨np, ns, fun G => evSs G b⟩) (hl : ds.length = np) (e : evSs (gmOf P n) b (startD ns ds) h = .ok (.rt d) h') : run P (n + 1) f ds h = .ok d h' := by
  rw [run_step hf]
  unfold runFn
  simp only [hl, beq_self_eq_true, if_true, e]
/-- a draw -/
theorem draw_ok {P : Pg} {n f : Nat} (hf : P.fns f = some ⟨2, 5, fun G => evSs G bDraw⟩) (ok : FdOk i c s) (hl : xs.length ≤ 63) (hm : 0 < m) (hm2 : m < 1073741824) : ∃ v i' c' s', 0 ≤ v ∧ v < m ∧ FdOk i' c' s' ∧ run P (n + 1) f [.ref 1, .int m] (fd xs i c s q) = .ok (.int v) (fd xs i' c' s' q) := by
  obtain ⟨σ', i1, c1, s1, ok1, k, e1⟩ := drawA (G := gmOf P n) (σ := startD 5 [.ref 1, .int m]) (q := q) ok hl rfl rfl
  have len : σ'.length = 5 := by
    have a := k 4 (by omega)
    have b := k 5 (by omega)
    have a' : σ'[4]? = some none := a.trans rfl
    have b' : σ'[5]? = none := b.trans rfl
    have := (List.getElem?_eq_some_iff.mp a').1
    have := List.getElem?_eq_none_iff.mp b'
    omega
  obtain ⟨v, i2, c2, s2, h1, h2, ok2, e2⟩ := drawB (G := gmOf P n) (σ := σ') (m := m) (xs := xs) (q := q) ok1 hm hm2 ((k 0 (by omega)).trans rfl) ((k 1 (by omega)).trans rfl) len
  refine ⟨v, i2, c2, s2, h1, h2, ok2, ?_⟩
  exact run_rt hf rfl (sCn e1 e2)
theorem feed_ok {P : Pg} {n f : Nat} (hf : P.fns f = some ⟨1, 1, fun G => evSs G bFeed⟩) : run P (n + 1) f [.scr xs] [] = .ok (.ref 1) (fd xs 0 0 1 []) := by
  rw [run_step hf]
  rfl
end
end Px
/-! P21: a law's state: the feed ahead of the heap, told names -/
namespace Px
/-- n names, those of B told, the heap of L objects begins with the feed -/
structure St (n : Nat) (B : List (Nat × D)) (ns : List Int) (L : Nat) (σ : Sl) (h : Hq) : Prop where
  len : σ.length = n
  tell : ∀ e ∈ B, σ[e.1]? = some (some e.2)
  feed : ∃ i c s q, FdOk i c s ∧ h = fd ns i c s q
  big : h.length = L
def endOk (n : Nat) (B : List (Nat × D)) (L : Nat) (σ : Sl) (h : Hq) : Bool := σ.length == n && (B.all (fun e => slotIs σ e.1 e.2) && h.length == L)
section
variable {P : Pg} {d n : Nat} {T : Tab} {B B' : List (Nat × D)} {ns : List Int} {L L' : Nat} {σ : Sl} {h : Hq}
theorem fd_app {xs : List Int} {i c s : Int} {q t : Hq} : fd xs i c s q ++ t = fd xs i c s (q ++ t) := rfl
theorem St.seg (X : Txt P) (hT : ∀ e ∈ T, okT P d e = true) (S : St n B ns L σ h) (k : Nat) (b : ISs) (hc : chkN (evSs (tabG P d T) (takeS k b) (only n B) (List.replicate L .hid)) (endOk n B' L') = true) :
    ∃ σ' h', St n B' ns L' σ' h' ∧ evSs (gmOf P d) (takeS k b) σ h = .ok (.nx σ') h' ∧ evSs (gmOf P d) b σ h = evSs (gmOf P d) (dropS k b) σ' h' := by
  obtain ⟨i, c, s, q, ok, rfl⟩ := S.feed
  have g := gm_tab X hT (p := fd ns i c s q) (by simp [fd])
  have hL := S.big
  rw [← hids_eq hL] at hc
  obtain ⟨t, σ1, σ', rs, f, e1, e2⟩ := seg_go g k (only_ok S.len S.tell) hc
  simp only [endOk, Bool.and_eq_true, beq_iff_eq] at f
  refine ⟨σ', _, ⟨by rw [← rs.1]; exact f.1, fun e he => slotIs_ok rs (List.all_eq_true.mp f.2.1 e he), ⟨i, c, s, q ++ t, ok, fd_app⟩, ?_⟩, e1, e2⟩
  have := f.2.2
  rw [List.length_append, hids_len] at this
  rw [List.length_append]
  exact this
theorem St.ret (X : Txt P) (hT : ∀ e ∈ T, okT P d e = true) (S : St n B ns L σ h) (b : ISs) {r : D} (hc : chkR (evSs (tabG P d T) b (only n B) (List.replicate L .hid)) r = true) : ∃ h', evSs (gmOf P d) b σ h = .ok (.rt r) h' := by
  obtain ⟨i, c, s, q, ok, rfl⟩ := S.feed
  have g := gm_tab X hT (p := fd ns i c s q) (by simp [fd])
  have hL := S.big
  rw [← hids_eq hL] at hc
  obtain ⟨t, e⟩ := seg_ret g (only_ok S.len S.tell) hc
  exact ⟨_, e⟩
theorem eCall {G : Gm} {f : Nat} {A : Ax} {ds : List D} {h1 h2 : Hq} {r : D} (e1 : A σ h = .ok ds h1) (e2 : G.call f ds h1 = .ok r h2) : xCall G f A σ h = .ok r h2 := by simp only [xCall, e1, Res.bind, e2]
theorem St.set (S : St n B ns L σ h) {j : Nat} {x : D} (hj : j < n) (hB : ∀ e ∈ B, e.1 ≠ j) : St n ((j, x) :: B) ns L (σ.set j (some x)) h := by
  refine ⟨by simp [S.len], fun e he => ?_, S.feed, S.big⟩
  rcases List.mem_cons.mp he with rfl | he
  · exact List.getElem?_set_self (by rw [S.len]; exact hj)
  · rw [List.getElem?_set_ne (Ne.symm (hB e he))]
    exact S.tell e he
theorem St.less (S : St n B ns L σ h) (hB : ∀ e ∈ B', e ∈ B) : St n B' ns L σ h := ⟨S.len, fun e he => S.tell e (hB e he), S.feed, S.big⟩
/-- a draw from the feed, which stands in the name j -/
theorem St.draw (S : St n B ns L σ h) {f j : Nat} {m : Int} {k : Nat} (hf : P.fns f = some ⟨2, 5, fun G => evSs G bDraw⟩) (hj : (j, D.ref 1) ∈ B) (hl : ns.length ≤ 63) (hm : 0 < m) (hm2 : m < 1073741824) :
    ∃ v h', 0 ≤ v ∧ v < m ∧ St n B ns L σ h' ∧ evE (gmOf P (k + 1)) (.call f (.cons (.v j) (.cons (.int m) .nil))) σ h = .ok (.int v) h' := by
  obtain ⟨i, c, s, q, ok, rfl⟩ := S.feed
  obtain ⟨v, i', c', s', h1, h2, ok', e⟩ := draw_ok (P := P) (n := k) (xs := ns) (q := q) hf ok hl hm hm2
  exact ⟨v, fd ns i' c' s' q, h1, h2, ⟨S.len, S.tell, ⟨i', c', s', q, ok', rfl⟩, S.big⟩, eCall (eA2 (eV (S.tell _ hj)) eC) e⟩
theorem forSeq_nx {g : Gx} {b : Sx} {x : D} {xs : List D} {σ1 σ2 : Sl} {h1 h2 : Hq} (e1 : g x σ h = .ok σ1 h1) (e2 : b σ1 h1 = .ok (.nx σ2) h2) : forSeq g b (x :: xs) σ h = forSeq g b xs σ2 h2 := by
  simp only [forSeq, e1, e2]
/-- the law begins with the feed -/
theorem St.begin {f j : Nat} {rest : ISs} {k : Nat} (hf : P.fns f = some ⟨1, 1, fun G => evSs G bFeed⟩) (hj : j < n) (hj0 : j ≠ 0) : ∃ σ h, St n [(j, .ref 1)] ns 2 σ h ∧ evSs (gmOf P (k + 1)) (.cons (.asg (.name j) (.call f (.cons (.v 0) .nil))) rest) (startD n [.scr ns]) [] = evSs (gmOf P (k + 1)) rest σ h := by
  have e : evS (gmOf P (k + 1)) (.asg (.name j) (.call f (.cons (.v 0) .nil))) (startD n [.scr ns]) [] = .ok (.nx ((startD n [.scr ns]).set j (some (.ref 1)))) (fd ns 0 0 1 []) :=
    sAsgN (eCall (eA1 (eV rfl)) (feed_ok hf))
  have hn : (startD n [.scr ns]).length = n := by
    unfold startD
    simp
    omega
  refine ⟨(startD n [.scr ns]).set j (some (.ref 1)), fd ns 0 0 1 [], ⟨by rw [List.length_set]; exact hn, fun x hx => ?_, ⟨0, 0, 1, [], ⟨by decide, by decide, by decide, by decide⟩, rfl⟩, rfl⟩, sCn e rfl⟩
  simp only [List.mem_singleton] at hx
  subst hx
  exact List.getElem?_set_self (by rw [hn]; exact hj)
end
end Px
namespace K83
open Px
def b_ways_to_choose : ISs :=
  (.cons (.asg (.name 2) (.int 1)) (.cons (.for (.rg1 (.v 1)) (.name 3) (.cons (.asg (.name 2) (.op .fdiv (.op .mul (.v 2) (.op .sub (.v 0) (.v 3))) (.op .add (.v 3) (.int 1)))) .nil)) (.cons (.ret (.v 2)) .nil)))
def f_ways_to_choose : Fn := ⟨2, 4, fun G => evSs G b_ways_to_choose⟩
def b_parted_counts : ISs :=
  (.cons (.asg (.name 5) (.int 0)) (.cons (.for (.rg2 (.int 1) (.v 2)) (.name 6) (.cons (.for (.rg1 (.op .add (.v 3) (.int 1))) (.name 7) (.cons (.asg (.name 8) (.ifx (.tru (.v 4)) (.int 1) (.pcall 0 (.cons (.v 3) (.cons (.v 7) .nil))))) (.cons (.aug 5 .add (.op .mul (.op .mul (.v 8) (.ix (.v 0) (.tup (.cons (.v 6) (.cons (.v 7) .nil))))) (.ix (.v 1) (.tup (.cons (.op .sub (.v 2) (.v 6)) (.cons (.op .sub (.v 3) (.v 7)) .nil)))))) .nil))) .nil)) (.cons (.ret (.v 5)) .nil)))
def f_parted_counts : Fn := ⟨5, 9, fun G => evSs G b_parted_counts⟩
def b_table_of : ISs :=
  (.cons (.asg (.name 2) (.dnew true)) (.cons (.for (.rg2 (.int 1) (.op .add (.v 0) (.int 1))) (.name 3) (.cons (.for (.rgD (.v 0) (.v 3)) (.name 4) (.cons (.asg (.sub (.v 2) (.tup (.cons (.v 3) (.cons (.v 4) .nil)))) (.int 0)) .nil)) (.cons (.for (.rgD (.v 3) (.neg (.int 1))) (.name 4) (.cons (.asg (.name 5) (.op .add (.blt .int (.cons (.andv (.cmp .eq (.v 3) (.int 1)) (.cmp .eq (.v 4) (.int 1))) .nil)) (.call 1 (.cons (.v 2) (.cons (.v 2) (.cons (.v 3) (.cons (.v 4) (.cons (.v 1) .nil)))))))) (.cons (.asg (.sub (.v 2) (.tup (.cons (.v 3) (.cons (.v 4) .nil)))) (.op .add (.v 5) (.ifx (.cmp .lt (.v 4) (.v 0)) (.ix (.v 2) (.tup (.cons (.v 3) (.cons (.op .add (.v 4) (.int 1)) .nil)))) (.int 0)))) .nil))) .nil))) (.cons (.ret (.v 2)) .nil)))
def f_table_of : Fn := ⟨2, 6, fun G => evSs G b_table_of⟩
def b_count_terms : ISs :=
  (.cons (.ret (.ix (.call 2 (.cons (.v 0) (.cons (.bl false) .nil))) (.tup (.cons (.v 0) (.cons (.int 0) .nil))))) .nil)
def f_count_terms : Fn := ⟨1, 1, fun G => evSs G b_count_terms⟩
def b_count_plane : ISs :=
  (.cons (.ret (.ix (.call 2 (.cons (.v 0) (.cons (.bl true) .nil))) (.tup (.cons (.v 0) (.cons (.int 0) .nil))))) .nil)
def f_count_plane : Fn := ⟨1, 1, fun G => evSs G b_count_plane⟩
def b_count_ended : ISs :=
  (.cons (.asg (.name 1) (.dnew true)) (.cons (.asg (.name 2) (.dnew true)) (.cons (.for (.rg2 (.int 1) (.op .add (.v 0) (.int 1))) (.name 3) (.cons (.for (.rgD (.v 0) (.v 3)) (.name 4) (.cons (.asg (.sub (.v 1) (.tup (.cons (.v 3) (.cons (.v 4) .nil)))) (.int 0)) (.cons (.asg (.sub (.v 2) (.tup (.cons (.v 3) (.cons (.v 4) .nil)))) (.int 0)) .nil))) (.cons (.for (.rgD (.v 3) (.neg (.int 1))) (.name 4) (.cons (.asg (.name 5) (.op .add (.blt .int (.cons (.andv (.cmp .eq (.v 3) (.int 1)) (.cmp .eq (.v 4) (.int 1))) .nil)) (.call 1 (.cons (.v 1) (.cons (.v 2) (.cons (.v 3) (.cons (.v 4) (.cons (.bl false) .nil)))))))) (.cons (.asg (.sub (.v 1) (.tup (.cons (.v 3) (.cons (.v 4) .nil)))) (.v 5)) (.cons (.asg (.sub (.v 2) (.tup (.cons (.v 3) (.cons (.v 4) .nil)))) (.op .add (.v 5) (.ifx (.cmp .lt (.v 4) (.v 0)) (.ix (.v 2) (.tup (.cons (.v 3) (.cons (.op .add (.v 4) (.int 1)) .nil)))) (.int 0)))) .nil)))) .nil))) (.cons (.ret (.ix (.v 2) (.tup (.cons (.v 0) (.cons (.int 0) .nil))))) .nil))))
def f_count_ended : Fn := ⟨1, 6, fun G => evSs G b_count_ended⟩
def b__law_feed : ISs :=
  (.cons (.ret (.lst (.cons (.blt .list (.cons (.v 0) .nil)) (.cons (.int 0) (.cons (.int 0) (.cons (.int 1) .nil)))))) .nil)
def f__law_feed : Fn := ⟨1, 1, fun G => evSs G b__law_feed⟩
def b__law_draw : ISs :=
  (.cons (.iff (.and (.cmp .eq (.ix (.v 0) (.int 2)) (.int 0)) (.cmp .lt (.ix (.v 0) (.int 1)) (.blt .len (.cons (.ix (.v 0) (.int 0)) .nil)))) (.cons (.asg (.name 3) (.blt .abs (.cons (.blt .int (.cons (.ix (.ix (.v 0) (.int 0)) (.ix (.v 0) (.int 1))) .nil)) .nil))) (.cons (.augS .add (.v 0) (.int 1) (.int 1)) (.cons (.iff (.cmp .ge (.v 3) (.op .pow (.int 10) (.int 18))) (.cons (.asg (.sub (.v 0) (.int 2)) (.v 3)) .nil) (.cons (.asg (.sub (.v 0) (.int 3)) (.op .mod (.blt .int (.cons (.op .add (.op .add (.op .mul (.ix (.v 0) (.int 3)) (.int 48271)) (.op .mul (.v 3) (.int 69621))) (.ix (.v 0) (.int 1))) .nil)) (.int 2147483647))) .nil)) .nil))) .nil) (.cons (.iff (.cmp .gt (.ix (.v 0) (.int 2)) (.int 0)) (.cons (.asg (.name 4) (.op .mod (.blt .int (.cons (.ix (.v 0) (.int 2)) .nil)) (.v 1))) (.cons (.asg (.sub (.v 0) (.int 2)) (.op .fdiv (.ix (.v 0) (.int 2)) (.v 1))) (.cons (.ret (.v 4)) .nil))) .nil) (.cons (.asg (.sub (.v 0) (.int 3)) (.op .mod (.blt .int (.cons (.op .add (.op .mul (.ix (.v 0) (.int 3)) (.int 16807)) (.int 12345)) .nil)) (.int 2147483647))) (.cons (.asg (.name 2) (.op .mod (.blt .int (.cons (.op .add (.op .mul (.ix (.v 0) (.int 3)) (.ix (.v 0) (.int 3))) (.ix (.v 0) (.int 3))) .nil)) (.int 2147483629))) (.cons (.ret (.op .mod (.op .fdiv (.v 2) (.int 11)) (.v 1))) .nil)))))
def f__law_draw : Fn := ⟨2, 5, fun G => evSs G b__law_draw⟩
def b__law_parted_names : ISs :=
  (.cons (.asg (.name 1) (.lst (.cons (.tup (.cons (.lst .nil) (.cons (.lst .nil) .nil))) .nil))) (.cons (.for (.seq (.v 0)) (.name 2) (.cons (.asg (.name 3) (.lst .nil)) (.cons (.for (.seq (.v 1)) (.tup 2 (.cons (.name 4) (.cons (.name 5) .nil))) (.cons (.asg (.name 3) (.op .add (.v 3) (.lst (.cons (.tup (.cons (.op .add (.v 4) (.lst (.cons (.v 2) .nil))) (.cons (.v 5) .nil))) (.cons (.tup (.cons (.v 4) (.cons (.op .add (.v 5) (.lst (.cons (.v 2) .nil))) .nil))) .nil))))) .nil)) (.cons (.asg (.name 1) (.v 3)) .nil)))) (.cons (.ret (.v 1)) .nil)))
def f__law_parted_names : Fn := ⟨1, 6, fun G => evSs G b__law_parted_names⟩
def b__law_terms : ISs :=
  (.cons (.asg (.name 3) (.lst .nil)) (.cons (.iff (.and (.cmp .eq (.v 0) (.int 1)) (.cmp .eq (.blt .len (.cons (.v 1) .nil)) (.int 1))) (.cons (.exp (.bm .append (.v 3) (.cons (.tup (.cons (.str [118, 97, 114]) (.cons (.ix (.v 1) (.int 0)) .nil))) .nil))) .nil) .nil) (.cons (.iff (.cmp .lt (.blt .len (.cons (.v 1) .nil)) (.v 0)) (.cons (.asg (.name 5) (.ix (.str [97, 98, 99, 100, 101, 102, 103, 104]) (.v 2))) (.cons (.asg (.name 3) (.op .add (.v 3) (.lc [10] (.seq (.pcall 9 (.cons (.v 0) (.cons (.op .add (.v 1) (.lst (.cons (.v 5) .nil))) (.cons (.op .add (.v 2) (.int 1)) .nil))))) (.name 10) .tt (.tup (.cons (.str [102, 117, 110]) (.cons (.v 5) (.cons (.v 10) .nil))))))) .nil)) .nil) (.cons (.for (.rg2 (.int 1) (.v 0)) (.name 4) (.cons (.for (.seq (.pcall 8 (.cons (.v 1) .nil))) (.tup 2 (.cons (.name 6) (.cons (.name 7) .nil))) (.cons (.asg (.name 8) (.pcall 9 (.cons (.op .sub (.v 0) (.v 4)) (.cons (.v 7) (.cons (.op .sub (.op .add (.v 2) (.v 4)) (.blt .len (.cons (.v 6) .nil))) .nil))))) (.cons (.for (.seq (.pcall 9 (.cons (.v 4) (.cons (.v 6) (.cons (.v 2) .nil))))) (.name 9) (.cons (.asg (.name 3) (.op .add (.v 3) (.lc [11] (.seq (.v 8)) (.name 11) .tt (.tup (.cons (.str [117, 115, 101]) (.cons (.v 9) (.cons (.v 11) .nil))))))) .nil)) .nil))) .nil)) (.cons (.ret (.v 3)) .nil)))))
def f__law_terms : Fn := ⟨3, 12, fun G => evSs G b__law_terms⟩
def b__law_is_ended : ISs :=
  (.cons (.iff (.cmp .eq (.ix (.v 0) (.int 0)) (.str [118, 97, 114])) (.cons (.ret (.bl true)) .nil) .nil) (.cons (.iff (.cmp .eq (.ix (.v 0) (.int 0)) (.str [102, 117, 110])) (.cons (.ret (.pcall 10 (.cons (.ix (.v 0) (.int 2)) .nil))) .nil) .nil) (.cons (.ret (.andv (.cmp .ne (.ix (.ix (.v 0) (.int 1)) (.int 0)) (.str [102, 117, 110])) (.andv (.pcall 10 (.cons (.ix (.v 0) (.int 1)) .nil)) (.pcall 10 (.cons (.ix (.v 0) (.int 2)) .nil))))) .nil)))
def f__law_is_ended : Fn := ⟨1, 1, fun G => evSs G b__law_is_ended⟩
def b__law_same : ISs :=
  (.cons (.iff (.or (.tru (.blt (.isi 0) (.cons (.v 1) .nil))) (.tru (.blt (.isi 1) (.cons (.v 1) .nil)))) (.cons (.iff (.or (.cmp .ne (.blt (.isi 0) (.cons (.v 0) .nil)) (.blt (.isi 0) (.cons (.v 1) .nil))) (.cmp .ne (.blt (.isi 1) (.cons (.v 0) .nil)) (.blt (.isi 1) (.cons (.v 1) .nil)))) (.cons (.ret (.bl false)) .nil) .nil) (.cons (.ret (.andv (.cmp .eq (.blt .len (.cons (.v 0) .nil)) (.blt .len (.cons (.v 1) .nil))) (.blt .all (.cons (.lc [2] (.rg1 (.blt .len (.cons (.v 1) .nil))) (.name 2) .tt (.pcall 11 (.cons (.ix (.v 0) (.v 2)) (.cons (.ix (.v 1) (.v 2)) .nil)))) .nil)))) .nil)) .nil) (.cons (.iff (.or (.cmp .is (.v 1) .non) (.tru (.blt (.isi 4) (.cons (.v 1) .nil)))) (.cons (.ret (.ifx (.cmp .is (.v 1) .non) (.cmp .is (.v 0) .non) (.andv (.blt (.isi 4) (.cons (.v 0) .nil)) (.cmp .eq (.v 0) (.v 1))))) .nil) .nil) (.cons (.iff (.tru (.blt (.isi 2) (.cons (.v 1) .nil))) (.cons (.ret (.andv (.blt (.isi 2) (.cons (.v 0) .nil)) (.cmp .eq (.v 0) (.v 1)))) .nil) .nil) (.cons (.ret (.andv (.blt (.isi 3) (.cons (.v 0) .nil)) (.andv (.notv (.blt (.isi 4) (.cons (.v 0) .nil))) (.cmp .eq (.v 0) (.v 1))))) .nil))))
def f__law_same : Fn := ⟨2, 3, fun G => evSs G b__law_same⟩
def b__law_choose : ISs :=
  (.cons (.asg (.name 2) (.lst (.cons (.int 1) .nil))) (.cons (.for (.rg1 (.v 0)) (.name 3) (.cons (.asg (.name 2) (.op .add (.op .add (.lst (.cons (.int 1) .nil)) (.lc [4] (.rg1 (.op .sub (.blt .len (.cons (.v 2) .nil)) (.int 1))) (.name 4) .tt (.op .add (.ix (.v 2) (.v 4)) (.ix (.v 2) (.op .add (.v 4) (.int 1)))))) (.lst (.cons (.int 1) .nil)))) .nil)) (.cons (.ret (.ix (.v 2) (.v 1))) .nil)))
def f__law_choose : Fn := ⟨2, 5, fun G => evSs G b__law_choose⟩
def b__law_uses : ISs :=
  (.cons (.asg (.name 5) (.int 0)) (.cons (.for (.rg2 (.int 1) (.v 2)) (.name 6) (.cons (.for (.rg1 (.op .add (.v 3) (.int 1))) (.name 7) (.cons (.asg (.name 8) (.ix (.lst (.cons (.pcall 12 (.cons (.v 3) (.cons (.v 7) .nil))) (.cons (.int 1) .nil))) (.blt .int (.cons (.v 4) .nil)))) (.cons (.aug 5 .add (.op .mul (.op .mul (.v 8) (.bm .get (.v 0) (.cons (.tup (.cons (.v 6) (.cons (.v 7) .nil))) (.cons (.int 0) .nil)))) (.bm .get (.v 1) (.cons (.tup (.cons (.op .sub (.v 2) (.v 6)) (.cons (.op .sub (.v 3) (.v 7)) .nil))) (.cons (.int 0) .nil))))) .nil))) .nil)) (.cons (.ret (.v 5)) .nil)))
def f__law_uses : Fn := ⟨5, 9, fun G => evSs G b__law_uses⟩
def b__law_counts : ISs :=
  (.cons (.asg (.name 2) (.dnew true)) (.cons (.for (.rg2 (.int 1) (.op .add (.v 0) (.int 1))) (.name 3) (.cons (.for (.rgD (.v 3) (.neg (.int 1))) (.name 4) (.cons (.asg (.name 5) (.op .add (.blt .int (.cons (.andv (.cmp .eq (.v 3) (.int 1)) (.cmp .eq (.v 4) (.int 1))) .nil)) (.call 13 (.cons (.v 2) (.cons (.v 2) (.cons (.v 3) (.cons (.v 4) (.cons (.v 1) .nil)))))))) (.cons (.asg (.sub (.v 2) (.tup (.cons (.v 3) (.cons (.v 4) .nil)))) (.op .add (.v 5) (.bm .get (.v 2) (.cons (.tup (.cons (.v 3) (.cons (.op .add (.v 4) (.int 1)) .nil))) (.cons (.int 0) .nil))))) .nil))) .nil)) (.cons (.ret (.lc [3] (.rg2 (.int 1) (.op .add (.v 0) (.int 1))) (.name 3) .tt (.ix (.v 2) (.tup (.cons (.v 3) (.cons (.int 0) .nil)))))) .nil)))
def f__law_counts : Fn := ⟨2, 6, fun G => evSs G b__law_counts⟩
def b__law_ended_counts : ISs :=
  (.cons (.asg (.name 1) (.dnew true)) (.cons (.asg (.name 2) (.dnew true)) (.cons (.for (.rg2 (.int 1) (.op .add (.v 0) (.int 1))) (.name 3) (.cons (.for (.rgD (.v 3) (.neg (.int 1))) (.name 4) (.cons (.asg (.sub (.v 1) (.tup (.cons (.v 3) (.cons (.v 4) .nil)))) (.op .add (.blt .int (.cons (.andv (.cmp .eq (.v 3) (.int 1)) (.cmp .eq (.v 4) (.int 1))) .nil)) (.call 13 (.cons (.v 1) (.cons (.v 2) (.cons (.v 3) (.cons (.v 4) (.cons (.bl false) .nil)))))))) (.cons (.asg (.sub (.v 2) (.tup (.cons (.v 3) (.cons (.v 4) .nil)))) (.op .add (.ix (.v 1) (.tup (.cons (.v 3) (.cons (.v 4) .nil)))) (.bm .get (.v 2) (.cons (.tup (.cons (.v 3) (.cons (.op .add (.v 4) (.int 1)) .nil))) (.cons (.int 0) .nil))))) .nil))) .nil)) (.cons (.ret (.lc [3] (.rg2 (.int 1) (.op .add (.v 0) (.int 1))) (.name 3) .tt (.ix (.v 2) (.tup (.cons (.v 3) (.cons (.int 0) .nil)))))) .nil))))
def f__law_ended_counts : Fn := ⟨1, 5, fun G => evSs G b__law_ended_counts⟩
def b__law_is_plane : ISs :=
  (.cons (.iff (.cmp .eq (.ix (.v 0) (.int 0)) (.str [118, 97, 114])) (.cons (.ret (.lst (.cons (.ix (.v 0) (.int 1)) .nil))) .nil) .nil) (.cons (.iff (.cmp .eq (.ix (.v 0) (.int 0)) (.str [102, 117, 110])) (.cons (.asg (.name 4) (.pcall 16 (.cons (.ix (.v 0) (.int 2)) (.cons (.v 1) .nil)))) (.cons (.iff (.or (.cmp .is (.v 4) .non) (.cmp .ne (.sl (.v 4) (.some (.neg (.int 1))) .none) (.lst (.cons (.ix (.v 0) (.int 1)) .nil)))) (.cons (.ret .non) .nil) .nil) (.cons (.ret (.sl (.v 4) .none (.some (.neg (.int 1))))) .nil))) .nil) (.cons (.asg (.name 2) (.pcall 16 (.cons (.ix (.v 0) (.int 1)) (.cons (.v 1) .nil)))) (.cons (.asg (.name 3) (.pcall 16 (.cons (.ix (.v 0) (.int 2)) (.cons (.v 1) .nil)))) (.cons (.iff (.or (.cmp .is (.v 2) .non) (.cmp .is (.v 3) .non)) (.cons (.ret .non) .nil) .nil) (.cons (.ret (.op .add (.v 2) (.v 3))) .nil))))))
def f__law_is_plane : Fn := ⟨2, 5, fun G => evSs G b__law_is_plane⟩
def b_law : ISs :=
  (.cons (.asg (.name 1) (.call 6 (.cons (.v 0) .nil))) (.cons (.asg (.name 2) (.pcall 14 (.cons (.int 7) (.cons (.bl false) .nil)))) (.cons (.asg (.name 3) (.pcall 14 (.cons (.int 7) (.cons (.bl true) .nil)))) (.cons (.asg (.name 4) (.pcall 15 (.cons (.int 7) .nil))) (.cons (.for (.rg2 (.int 1) (.int 4)) (.name 5) (.cons (.asg (.name 8) (.pcall 9 (.cons (.v 5) (.cons (.lst .nil) (.cons (.int 0) .nil))))) (.cons (.asg (.name 9) (.lst (.cons (.blt .len (.cons (.v 8) .nil)) (.cons (.blt .len (.cons (.lc [11] (.seq (.v 8)) (.name 11) (.tru (.pcall 10 (.cons (.v 11) .nil))) (.int 1)) .nil)) .nil)))) (.cons (.exp (.bm .append (.v 9) (.cons (.blt .len (.cons (.lc [11] (.seq (.v 8)) (.name 11) (.cmp .isn (.pcall 16 (.cons (.v 11) (.cons (.lst .nil) .nil))) .non) (.int 1)) .nil)) .nil))) (.cons (.iff (.cmp .ne (.v 9) (.lst (.cons (.ix (.v 2) (.op .sub (.v 5) (.int 1))) (.cons (.ix (.v 4) (.op .sub (.v 5) (.int 1))) (.cons (.ix (.v 3) (.op .sub (.v 5) (.int 1))) .nil))))) (.cons (.ret (.bl false)) .nil) .nil) .nil))))) (.cons (.for (.rg2 (.int 2) (.int 7)) (.name 6) (.cons (.asg (.name 10) (.op .add (.op .mul (.op .mul (.int 6) (.v 6)) (.ix (.v 2) (.op .sub (.v 6) (.int 1)))) (.blt .sum (.cons (.lc [12] (.rg2 (.int 1) (.op .sub (.v 6) (.int 1))) (.name 12) .tt (.op .mul (.ix (.v 2) (.v 12)) (.ix (.v 2) (.op .sub (.op .sub (.v 6) (.v 12)) (.int 1))))) .nil)))) (.cons (.iff (.cmp .ne (.ix (.v 2) (.v 6)) (.v 10)) (.cons (.ret (.bl false)) .nil) .nil) .nil))) (.cons (.for (.rg1 (.int 3)) (.name 7) (.cons (.asg (.name 5) (.op .add (.int 1) (.call 7 (.cons (.v 1) (.cons (.int 7) .nil))))) (.cons (.iff (.not (.tru (.pcall 11 (.cons (.lst (.cons (.pcall 3 (.cons (.v 5) .nil)) (.cons (.pcall 5 (.cons (.v 5) .nil)) (.cons (.pcall 4 (.cons (.v 5) .nil)) .nil)))) (.cons (.lst (.cons (.ix (.v 2) (.op .sub (.v 5) (.int 1))) (.cons (.ix (.v 4) (.op .sub (.v 5) (.int 1))) (.cons (.ix (.v 3) (.op .sub (.v 5) (.int 1))) .nil)))) .nil))))) (.cons (.ret (.bl false)) .nil) .nil) .nil))) (.cons (.ret (.pcall 11 (.cons (.lc [5] (.seq (.lst (.cons (.int 1) (.cons (.int 2) (.cons (.int 3) (.cons (.int 4) .nil)))))) (.name 5) .tt (.pcall 3 (.cons (.v 5) .nil))) (.cons (.lst (.cons (.int 1) (.cons (.int 5) (.cons (.int 60) (.cons (.int 1105) .nil))))) .nil)))) .nil))))))))
def f_law : Fn := ⟨1, 13, fun G => evSs G b_law⟩
def fns : Nat → Option Fn
  | 0 => some f_ways_to_choose
  | 1 => some f_parted_counts
  | 2 => some f_table_of
  | 3 => some f_count_terms
  | 4 => some f_count_plane
  | 5 => some f_count_ended
  | 6 => some f__law_feed
  | 7 => some f__law_draw
  | 8 => some f__law_parted_names
  | 9 => some f__law_terms
  | 10 => some f__law_is_ended
  | 11 => some f__law_same
  | 12 => some f__law_choose
  | 13 => some f__law_uses
  | 14 => some f__law_counts
  | 15 => some f__law_ended_counts
  | 16 => some f__law_is_plane
  | 17 => some f_law
  | _ => none
def glob : Nat → Option D
  | _ => none
def pg : Pg := ⟨fns, fun _ => none, glob, 1000⟩
end K83
namespace K83
open PySem L2 PyProof.Rows Px
def top (i : Nat) : Stmt := PySem.Challenge.pw_oncelinks_k83_whole_counts_of_terms.main.body.getD i (.Pass ⟨0, 0, 0, 0⟩)
def n_ways_to_choose : List Str := ["many", "few", "ways", "k"]
def p_ways_to_choose : List Str := ["many", "few"]
def n_parted_counts : List Str := ["first", "second", "n", "free", "is_plane", "total", "own", "few", "ways"]
def p_parted_counts : List Str := ["first", "second", "n", "free", "is_plane"]
def n_table_of : List Str := ["n", "is_plane", "counts", "many", "free", "here"]
def p_table_of : List Str := ["n", "is_plane"]
def n_count_terms : List Str := ["n"]
def p_count_terms : List Str := ["n"]
def n_count_plane : List Str := ["n"]
def p_count_plane : List Str := ["n"]
def n_count_ended : List Str := ["n", "used", "whole", "many", "free", "here"]
def p_count_ended : List Str := ["n"]
def n__law_feed : List Str := ["script"]
def p__law_feed : List Str := ["script"]
def n__law_draw : List Str := ["feed", "many", "mixed", "cell", "told"]
def p__law_draw : List Str := ["feed", "many"]
def n__law_parted_names : List Str := ["names", "found", "name", "longer", "one", "other"]
def p__law_parted_names : List Str := ["names"]
def n__law_terms : List Str := ["n", "names", "funs", "found", "many", "own", "one", "other", "seconds", "first", "term", "second"]
def p__law_terms : List Str := ["n", "names", "funs"]
def n__law_is_ended : List Str := ["term"]
def p__law_is_ended : List Str := ["term"]
def n__law_same : List Str := ["actual", "due", "k"]
def p__law_same : List Str := ["actual", "due"]
def n__law_choose : List Str := ["many", "few", "row", "step", "k"]
def p__law_choose : List Str := ["many", "few"]
def n__law_uses : List Str := ["first", "second", "n", "free", "plane", "total", "many", "few", "ways"]
def p__law_uses : List Str := ["first", "second", "n", "free", "plane"]
def n__law_counts : List Str := ["most", "plane", "found", "n", "free", "here"]
def p__law_counts : List Str := ["most", "plane"]
def n__law_ended_counts : List Str := ["most", "heads", "found", "n", "free"]
def p__law_ended_counts : List Str := ["most"]
def n__law_is_plane : List Str := ["term", "names", "first", "second", "free"]
def p__law_is_plane : List Str := ["term", "names"]
def n_law : List Str := ["script", "feed", "every", "plane", "ended", "n", "step", "turn", "terms", "counts", "total", "term", "k"]
def p_law : List Str := ["script"]
def tf : Nat → Option (Str × Nat)
  | 0 => some ("ways_to_choose", 2)
  | 1 => some ("parted_counts", 5)
  | 2 => some ("table_of", 2)
  | 3 => some ("count_terms", 1)
  | 4 => some ("count_plane", 1)
  | 5 => some ("count_ended", 1)
  | 6 => some ("_law_feed", 1)
  | 7 => some ("_law_draw", 2)
  | 8 => some ("_law_parted_names", 1)
  | 9 => some ("_law_terms", 3)
  | 10 => some ("_law_is_ended", 1)
  | 11 => some ("_law_same", 2)
  | 12 => some ("_law_choose", 2)
  | 13 => some ("_law_uses", 5)
  | 14 => some ("_law_counts", 2)
  | 15 => some ("_law_ended_counts", 1)
  | 16 => some ("_law_is_plane", 2)
  | 17 => some ("law", 1)
  | _ => none
def tg : Nat → Option Str
  | _ => none
def tb : Tb := ⟨tf, tg⟩
theorem s_ways_to_choose : FnScope n_ways_to_choose p_ways_to_choose (defScope (top 1)) := ⟨rfl, rfl, rfl, by decide +kernel, rfl, by decide +kernel, by decide +kernel⟩
theorem m_ways_to_choose : mSs tb b_ways_to_choose ⟨n_ways_to_choose, defScope (top 1), fun _ => true⟩ (defBody (top 1)) = true := by decide +kernel
theorem s_parted_counts : FnScope n_parted_counts p_parted_counts (defScope (top 2)) := ⟨rfl, rfl, rfl, by decide +kernel, rfl, by decide +kernel, by decide +kernel⟩
theorem m_parted_counts : mSs tb b_parted_counts ⟨n_parted_counts, defScope (top 2), fun _ => true⟩ (defBody (top 2)) = true := by decide +kernel
theorem s_table_of : FnScope n_table_of p_table_of (defScope (top 3)) := ⟨rfl, rfl, rfl, by decide +kernel, rfl, by decide +kernel, by decide +kernel⟩
theorem m_table_of : mSs tb b_table_of ⟨n_table_of, defScope (top 3), fun _ => true⟩ (defBody (top 3)) = true := by decide +kernel
theorem s_count_terms : FnScope n_count_terms p_count_terms (defScope (top 4)) := ⟨rfl, rfl, rfl, by decide +kernel, rfl, by decide +kernel, by decide +kernel⟩
theorem m_count_terms : mSs tb b_count_terms ⟨n_count_terms, defScope (top 4), fun _ => true⟩ (defBody (top 4)) = true := by decide +kernel
theorem s_count_plane : FnScope n_count_plane p_count_plane (defScope (top 5)) := ⟨rfl, rfl, rfl, by decide +kernel, rfl, by decide +kernel, by decide +kernel⟩
theorem m_count_plane : mSs tb b_count_plane ⟨n_count_plane, defScope (top 5), fun _ => true⟩ (defBody (top 5)) = true := by decide +kernel
theorem s_count_ended : FnScope n_count_ended p_count_ended (defScope (top 6)) := ⟨rfl, rfl, rfl, by decide +kernel, rfl, by decide +kernel, by decide +kernel⟩
theorem m_count_ended : mSs tb b_count_ended ⟨n_count_ended, defScope (top 6), fun _ => true⟩ (defBody (top 6)) = true := by decide +kernel
theorem s__law_feed : FnScope n__law_feed p__law_feed (defScope (top 8)) := ⟨rfl, rfl, rfl, by decide +kernel, rfl, by decide +kernel, by decide +kernel⟩
theorem m__law_feed : mSs tb b__law_feed ⟨n__law_feed, defScope (top 8), fun _ => true⟩ (defBody (top 8)) = true := by decide +kernel
theorem s__law_draw : FnScope n__law_draw p__law_draw (defScope (top 9)) := ⟨rfl, rfl, rfl, by decide +kernel, rfl, by decide +kernel, by decide +kernel⟩
theorem m__law_draw : mSs tb b__law_draw ⟨n__law_draw, defScope (top 9), fun _ => true⟩ (defBody (top 9)) = true := by decide +kernel
theorem s__law_parted_names : FnScope n__law_parted_names p__law_parted_names (defScope (top 10)) := ⟨rfl, rfl, rfl, by decide +kernel, rfl, by decide +kernel, by decide +kernel⟩
theorem m__law_parted_names : mSs tb b__law_parted_names ⟨n__law_parted_names, defScope (top 10), fun _ => true⟩ (defBody (top 10)) = true := by decide +kernel
theorem s__law_terms : FnScope n__law_terms p__law_terms (defScope (top 11)) := ⟨rfl, rfl, rfl, by decide +kernel, rfl, by decide +kernel, by decide +kernel⟩
theorem m__law_terms : mSs tb b__law_terms ⟨n__law_terms, defScope (top 11), fun _ => true⟩ (defBody (top 11)) = true := by decide +kernel
theorem s__law_is_ended : FnScope n__law_is_ended p__law_is_ended (defScope (top 12)) := ⟨rfl, rfl, rfl, by decide +kernel, rfl, by decide +kernel, by decide +kernel⟩
theorem m__law_is_ended : mSs tb b__law_is_ended ⟨n__law_is_ended, defScope (top 12), fun _ => true⟩ (defBody (top 12)) = true := by decide +kernel
theorem s__law_same : FnScope n__law_same p__law_same (defScope (top 13)) := ⟨rfl, rfl, rfl, by decide +kernel, rfl, by decide +kernel, by decide +kernel⟩
theorem m__law_same : mSs tb b__law_same ⟨n__law_same, defScope (top 13), fun _ => true⟩ (defBody (top 13)) = true := by decide +kernel
theorem s__law_choose : FnScope n__law_choose p__law_choose (defScope (top 14)) := ⟨rfl, rfl, rfl, by decide +kernel, rfl, by decide +kernel, by decide +kernel⟩
theorem m__law_choose : mSs tb b__law_choose ⟨n__law_choose, defScope (top 14), fun _ => true⟩ (defBody (top 14)) = true := by decide +kernel
theorem s__law_uses : FnScope n__law_uses p__law_uses (defScope (top 15)) := ⟨rfl, rfl, rfl, by decide +kernel, rfl, by decide +kernel, by decide +kernel⟩
theorem m__law_uses : mSs tb b__law_uses ⟨n__law_uses, defScope (top 15), fun _ => true⟩ (defBody (top 15)) = true := by decide +kernel
theorem s__law_counts : FnScope n__law_counts p__law_counts (defScope (top 16)) := ⟨rfl, rfl, rfl, by decide +kernel, rfl, by decide +kernel, by decide +kernel⟩
theorem m__law_counts : mSs tb b__law_counts ⟨n__law_counts, defScope (top 16), fun _ => true⟩ (defBody (top 16)) = true := by decide +kernel
theorem s__law_ended_counts : FnScope n__law_ended_counts p__law_ended_counts (defScope (top 17)) := ⟨rfl, rfl, rfl, by decide +kernel, rfl, by decide +kernel, by decide +kernel⟩
theorem m__law_ended_counts : mSs tb b__law_ended_counts ⟨n__law_ended_counts, defScope (top 17), fun _ => true⟩ (defBody (top 17)) = true := by decide +kernel
theorem s__law_is_plane : FnScope n__law_is_plane p__law_is_plane (defScope (top 18)) := ⟨rfl, rfl, rfl, by decide +kernel, rfl, by decide +kernel, by decide +kernel⟩
theorem m__law_is_plane : mSs tb b__law_is_plane ⟨n__law_is_plane, defScope (top 18), fun _ => true⟩ (defBody (top 18)) = true := by decide +kernel
theorem s_law : FnScope n_law p_law (defScope (top 19)) := ⟨rfl, rfl, rfl, by decide +kernel, rfl, by decide +kernel, by decide +kernel⟩
theorem m_law : mSs tb b_law ⟨n_law, defScope (top 19), fun _ => true⟩ (defBody (top 19)) = true := by decide +kernel
section
variable {K : PySem.W.Frag} {mg : Str → Option Value}
theorem ents
    (d0 : Def K mg "ways_to_choose" (top 1))
    (d1 : Def K mg "parted_counts" (top 2))
    (d2 : Def K mg "table_of" (top 3))
    (d3 : Def K mg "count_terms" (top 4))
    (d4 : Def K mg "count_plane" (top 5))
    (d5 : Def K mg "count_ended" (top 6))
    (d6 : Def K mg "_law_feed" (top 8))
    (d7 : Def K mg "_law_draw" (top 9))
    (d8 : Def K mg "_law_parted_names" (top 10))
    (d9 : Def K mg "_law_terms" (top 11))
    (d10 : Def K mg "_law_is_ended" (top 12))
    (d11 : Def K mg "_law_same" (top 13))
    (d12 : Def K mg "_law_choose" (top 14))
    (d13 : Def K mg "_law_uses" (top 15))
    (d14 : Def K mg "_law_counts" (top 16))
    (d15 : Def K mg "_law_ended_counts" (top 17))
    (d16 : Def K mg "_law_is_plane" (top 18))
    (d17 : Def K mg "law" (top 19))
    : ∀ f x n, tb.fn f = some (x, n) → Ent tb pg K mg f x n
  | 0, x, n, e => by
    cases e
    obtain ⟨fa, fd, F, hm⟩ := d0.ex
    exact ⟨top 1, n_ways_to_choose, p_ways_to_choose, b_ways_to_choose, fa, fd, rfl, rfl, s_ways_to_choose, m_ways_to_choose, F, F.binds (ps := p_ways_to_choose) (fun _ _ _ _ _ _ us hl => match us, hl with | [_, _], _ => rfl), hm⟩
  | 1, x, n, e => by
    cases e
    obtain ⟨fa, fd, F, hm⟩ := d1.ex
    exact ⟨top 2, n_parted_counts, p_parted_counts, b_parted_counts, fa, fd, rfl, rfl, s_parted_counts, m_parted_counts, F, F.binds (ps := p_parted_counts) (fun _ _ _ _ _ _ us hl => match us, hl with | [_, _, _, _, _], _ => rfl), hm⟩
  | 2, x, n, e => by
    cases e
    obtain ⟨fa, fd, F, hm⟩ := d2.ex
    exact ⟨top 3, n_table_of, p_table_of, b_table_of, fa, fd, rfl, rfl, s_table_of, m_table_of, F, F.binds (ps := p_table_of) (fun _ _ _ _ _ _ us hl => match us, hl with | [_, _], _ => rfl), hm⟩
  | 3, x, n, e => by
    cases e
    obtain ⟨fa, fd, F, hm⟩ := d3.ex
    exact ⟨top 4, n_count_terms, p_count_terms, b_count_terms, fa, fd, rfl, rfl, s_count_terms, m_count_terms, F, F.binds (ps := p_count_terms) (fun _ _ _ _ _ _ us hl => match us, hl with | [_], _ => rfl), hm⟩
  | 4, x, n, e => by
    cases e
    obtain ⟨fa, fd, F, hm⟩ := d4.ex
    exact ⟨top 5, n_count_plane, p_count_plane, b_count_plane, fa, fd, rfl, rfl, s_count_plane, m_count_plane, F, F.binds (ps := p_count_plane) (fun _ _ _ _ _ _ us hl => match us, hl with | [_], _ => rfl), hm⟩
  | 5, x, n, e => by
    cases e
    obtain ⟨fa, fd, F, hm⟩ := d5.ex
    exact ⟨top 6, n_count_ended, p_count_ended, b_count_ended, fa, fd, rfl, rfl, s_count_ended, m_count_ended, F, F.binds (ps := p_count_ended) (fun _ _ _ _ _ _ us hl => match us, hl with | [_], _ => rfl), hm⟩
  | 6, x, n, e => by
    cases e
    obtain ⟨fa, fd, F, hm⟩ := d6.ex
    exact ⟨top 8, n__law_feed, p__law_feed, b__law_feed, fa, fd, rfl, rfl, s__law_feed, m__law_feed, F, F.binds (ps := p__law_feed) (fun _ _ _ _ _ _ us hl => match us, hl with | [_], _ => rfl), hm⟩
  | 7, x, n, e => by
    cases e
    obtain ⟨fa, fd, F, hm⟩ := d7.ex
    exact ⟨top 9, n__law_draw, p__law_draw, b__law_draw, fa, fd, rfl, rfl, s__law_draw, m__law_draw, F, F.binds (ps := p__law_draw) (fun _ _ _ _ _ _ us hl => match us, hl with | [_, _], _ => rfl), hm⟩
  | 8, x, n, e => by
    cases e
    obtain ⟨fa, fd, F, hm⟩ := d8.ex
    exact ⟨top 10, n__law_parted_names, p__law_parted_names, b__law_parted_names, fa, fd, rfl, rfl, s__law_parted_names, m__law_parted_names, F, F.binds (ps := p__law_parted_names) (fun _ _ _ _ _ _ us hl => match us, hl with | [_], _ => rfl), hm⟩
  | 9, x, n, e => by
    cases e
    obtain ⟨fa, fd, F, hm⟩ := d9.ex
    exact ⟨top 11, n__law_terms, p__law_terms, b__law_terms, fa, fd, rfl, rfl, s__law_terms, m__law_terms, F, F.binds (ps := p__law_terms) (fun _ _ _ _ _ _ us hl => match us, hl with | [_, _, _], _ => rfl), hm⟩
  | 10, x, n, e => by
    cases e
    obtain ⟨fa, fd, F, hm⟩ := d10.ex
    exact ⟨top 12, n__law_is_ended, p__law_is_ended, b__law_is_ended, fa, fd, rfl, rfl, s__law_is_ended, m__law_is_ended, F, F.binds (ps := p__law_is_ended) (fun _ _ _ _ _ _ us hl => match us, hl with | [_], _ => rfl), hm⟩
  | 11, x, n, e => by
    cases e
    obtain ⟨fa, fd, F, hm⟩ := d11.ex
    exact ⟨top 13, n__law_same, p__law_same, b__law_same, fa, fd, rfl, rfl, s__law_same, m__law_same, F, F.binds (ps := p__law_same) (fun _ _ _ _ _ _ us hl => match us, hl with | [_, _], _ => rfl), hm⟩
  | 12, x, n, e => by
    cases e
    obtain ⟨fa, fd, F, hm⟩ := d12.ex
    exact ⟨top 14, n__law_choose, p__law_choose, b__law_choose, fa, fd, rfl, rfl, s__law_choose, m__law_choose, F, F.binds (ps := p__law_choose) (fun _ _ _ _ _ _ us hl => match us, hl with | [_, _], _ => rfl), hm⟩
  | 13, x, n, e => by
    cases e
    obtain ⟨fa, fd, F, hm⟩ := d13.ex
    exact ⟨top 15, n__law_uses, p__law_uses, b__law_uses, fa, fd, rfl, rfl, s__law_uses, m__law_uses, F, F.binds (ps := p__law_uses) (fun _ _ _ _ _ _ us hl => match us, hl with | [_, _, _, _, _], _ => rfl), hm⟩
  | 14, x, n, e => by
    cases e
    obtain ⟨fa, fd, F, hm⟩ := d14.ex
    exact ⟨top 16, n__law_counts, p__law_counts, b__law_counts, fa, fd, rfl, rfl, s__law_counts, m__law_counts, F, F.binds (ps := p__law_counts) (fun _ _ _ _ _ _ us hl => match us, hl with | [_, _], _ => rfl), hm⟩
  | 15, x, n, e => by
    cases e
    obtain ⟨fa, fd, F, hm⟩ := d15.ex
    exact ⟨top 17, n__law_ended_counts, p__law_ended_counts, b__law_ended_counts, fa, fd, rfl, rfl, s__law_ended_counts, m__law_ended_counts, F, F.binds (ps := p__law_ended_counts) (fun _ _ _ _ _ _ us hl => match us, hl with | [_], _ => rfl), hm⟩
  | 16, x, n, e => by
    cases e
    obtain ⟨fa, fd, F, hm⟩ := d16.ex
    exact ⟨top 18, n__law_is_plane, p__law_is_plane, b__law_is_plane, fa, fd, rfl, rfl, s__law_is_plane, m__law_is_plane, F, F.binds (ps := p__law_is_plane) (fun _ _ _ _ _ _ us hl => match us, hl with | [_, _], _ => rfl), hm⟩
  | 17, x, n, e => by
    cases e
    obtain ⟨fa, fd, F, hm⟩ := d17.ex
    exact ⟨top 19, n_law, p_law, b_law, fa, fd, rfl, rfl, s_law, m_law, F, F.binds (ps := p_law) (fun _ _ _ _ _ _ us hl => match us, hl with | [_], _ => rfl), hm⟩
  | n + 18, x, k, e => by cases e
theorem fin {h : Heap} (X : K.In h) (G : h.Ns mainGlobals mg)
    (d0 : Def K mg "ways_to_choose" (top 1))
    (d1 : Def K mg "parted_counts" (top 2))
    (d2 : Def K mg "table_of" (top 3))
    (d3 : Def K mg "count_terms" (top 4))
    (d4 : Def K mg "count_plane" (top 5))
    (d5 : Def K mg "count_ended" (top 6))
    (d6 : Def K mg "_law_feed" (top 8))
    (d7 : Def K mg "_law_draw" (top 9))
    (d8 : Def K mg "_law_parted_names" (top 10))
    (d9 : Def K mg "_law_terms" (top 11))
    (d10 : Def K mg "_law_is_ended" (top 12))
    (d11 : Def K mg "_law_same" (top 13))
    (d12 : Def K mg "_law_choose" (top 14))
    (d13 : Def K mg "_law_uses" (top 15))
    (d14 : Def K mg "_law_counts" (top 16))
    (d15 : Def K mg "_law_ended_counts" (top 17))
    (d16 : Def K mg "_law_is_plane" (top 18))
    (d17 : Def K mg "law" (top 19))
    (z0 : PySem.W.nsIn K mainGlobals "range" = some none)
    (z1 : PySem.W.nsIn K mainGlobals "isinstance" = some none)
    (z2 : PySem.W.nsIn K mainGlobals "list" = some none)
    (z3 : PySem.W.nsIn K mainGlobals "tuple" = some none)
    (z4 : PySem.W.nsIn K mainGlobals "str" = some none)
    (z5 : PySem.W.nsIn K mainGlobals "int" = some none)
    (z6 : PySem.W.nsIn K mainGlobals "bool" = some none)
    (z7 : PySem.W.nsIn K mainGlobals "len" = some none)
    (z8 : PySem.W.nsIn K mainGlobals "abs" = some none)
    (z9 : PySem.W.nsIn K mainGlobals "sum" = some none)
    (z10 : PySem.W.nsIn K mainGlobals "all" = some none)
    (z11 : PySem.W.nsIn K mainGlobals "any" = some none)
    : Def K mg "law" (top 19) ∧ (∀ f x n, tb.fn f = some (x, n) → Ent tb pg K mg f x n) ∧ (∀ x ∈ bNames, mg x = none) ∧ ∀ g x, tb.gl g = some x → ∃ u v d, mg x = some u ∧ RelV v u ∧ pg.glob g = some d ∧ ∀ own m H, RD K own m H d v := by
  have y0 := PySem.W.mg_none_of X G z0
  have y1 := PySem.W.mg_none_of X G z1
  have y2 := PySem.W.mg_none_of X G z2
  have y3 := PySem.W.mg_none_of X G z3
  have y4 := PySem.W.mg_none_of X G z4
  have y5 := PySem.W.mg_none_of X G z5
  have y6 := PySem.W.mg_none_of X G z6
  have y7 := PySem.W.mg_none_of X G z7
  have y8 := PySem.W.mg_none_of X G z8
  have y9 := PySem.W.mg_none_of X G z9
  have y10 := PySem.W.mg_none_of X G z10
  have y11 := PySem.W.mg_none_of X G z11
  refine ⟨d17, ents d0 d1 d2 d3 d4 d5 d6 d7 d8 d9 d10 d11 d12 d13 d14 d15 d16 d17, fun x hx => ?_, fun g x e => by cases e⟩
  simp only [bNames, List.mem_cons, List.not_mem_nil, or_false] at hx
  rcases hx with rfl | rfl | rfl | rfl | rfl | rfl | rfl | rfl | rfl | rfl | rfl | rfl
  · exact y0
  · exact y1
  · exact y2
  · exact y3
  · exact y4
  · exact y5
  · exact y6
  · exact y7
  · exact y8
  · exact y9
  · exact y10
  · exact y11
end
end K83
namespace K83
open Px
theorem txt : Txt pg
  | 0, fn, e => by cases e; exact ⟨b_ways_to_choose, rfl⟩
  | 1, fn, e => by cases e; exact ⟨b_parted_counts, rfl⟩
  | 2, fn, e => by cases e; exact ⟨b_table_of, rfl⟩
  | 3, fn, e => by cases e; exact ⟨b_count_terms, rfl⟩
  | 4, fn, e => by cases e; exact ⟨b_count_plane, rfl⟩
  | 5, fn, e => by cases e; exact ⟨b_count_ended, rfl⟩
  | 6, fn, e => by cases e; exact ⟨b__law_feed, rfl⟩
  | 7, fn, e => by cases e; exact ⟨b__law_draw, rfl⟩
  | 8, fn, e => by cases e; exact ⟨b__law_parted_names, rfl⟩
  | 9, fn, e => by cases e; exact ⟨b__law_terms, rfl⟩
  | 10, fn, e => by cases e; exact ⟨b__law_is_ended, rfl⟩
  | 11, fn, e => by cases e; exact ⟨b__law_same, rfl⟩
  | 12, fn, e => by cases e; exact ⟨b__law_choose, rfl⟩
  | 13, fn, e => by cases e; exact ⟨b__law_uses, rfl⟩
  | 14, fn, e => by cases e; exact ⟨b__law_counts, rfl⟩
  | 15, fn, e => by cases e; exact ⟨b__law_ended_counts, rfl⟩
  | 16, fn, e => by cases e; exact ⟨b__law_is_plane, rfl⟩
  | 17, fn, e => by cases e; exact ⟨b_law, rfl⟩
  | n + 18, fn, e => by cases e
end K83
namespace K83
open Px
abbrev dep : Nat := 20
abbrev li (l : List Int) : D := .lst false (l.map .int)
def vE : List Int := [1, 5, 60, 1105, 27120, 828250, 30220800]
def vN : List Int := [1, 3, 26, 367, 7142, 176766, 5304356]
def vP : List Int := [1, 4, 32, 336, 4096, 54912, 786432]
def w1 : D := (.lst false [(.tup [(.str [102, 117, 110]), (.str [97]), (.tup [(.str [118, 97, 114]), (.str [97])])])])
def w2 : D := (.lst false [(.tup [(.str [102, 117, 110]), (.str [97]), (.tup [(.str [102, 117, 110]), (.str [98]), (.tup [(.str [117, 115, 101]), (.tup [(.str [118, 97, 114]), (.str [97])]), (.tup [(.str [118, 97, 114]), (.str [98])])])])]), (.tup [(.str [102, 117, 110]), (.str [97]), (.tup [(.str [102, 117, 110]), (.str [98]), (.tup [(.str [117, 115, 101]), (.tup [(.str [118, 97, 114]), (.str [98])]), (.tup [(.str [118, 97, 114]), (.str [97])])])])]), (.tup [(.str [102, 117, 110]), (.str [97]), (.tup [(.str [117, 115, 101]), (.tup [(.str [118, 97, 114]), (.str [97])]), (.tup [(.str [102, 117, 110]), (.str [98]), (.tup [(.str [118, 97, 114]), (.str [98])])])])]), (.tup [(.str [102, 117, 110]), (.str [97]), (.tup [(.str [117, 115, 101]), (.tup [(.str [102, 117, 110]), (.str [98]), (.tup [(.str [118, 97, 114]), (.str [98])])]), (.tup [(.str [118, 97, 114]), (.str [97])])])]), (.tup [(.str [117, 115, 101]), (.tup [(.str [102, 117, 110]), (.str [97]), (.tup [(.str [118, 97, 114]), (.str [97])])]), (.tup [(.str [102, 117, 110]), (.str [98]), (.tup [(.str [118, 97, 114]), (.str [98])])])])])
def w3 : D := (.lst false [(.tup [(.str [102, 117, 110]), (.str [97]), (.tup [(.str [102, 117, 110]), (.str [98]), (.tup [(.str [102, 117, 110]), (.str [99]), (.tup [(.str [117, 115, 101]), (.tup [(.str [118, 97, 114]), (.str [97])]), (.tup [(.str [117, 115, 101]), (.tup [(.str [118, 97, 114]), (.str [98])]), (.tup [(.str [118, 97, 114]), (.str [99])])])])])])]), (.tup [(.str [102, 117, 110]), (.str [97]), (.tup [(.str [102, 117, 110]), (.str [98]), (.tup [(.str [102, 117, 110]), (.str [99]), (.tup [(.str [117, 115, 101]), (.tup [(.str [118, 97, 114]), (.str [97])]), (.tup [(.str [117, 115, 101]), (.tup [(.str [118, 97, 114]), (.str [99])]), (.tup [(.str [118, 97, 114]), (.str [98])])])])])])]), (.tup [(.str [102, 117, 110]), (.str [97]), (.tup [(.str [102, 117, 110]), (.str [98]), (.tup [(.str [102, 117, 110]), (.str [99]), (.tup [(.str [117, 115, 101]), (.tup [(.str [118, 97, 114]), (.str [98])]), (.tup [(.str [117, 115, 101]), (.tup [(.str [118, 97, 114]), (.str [97])]), (.tup [(.str [118, 97, 114]), (.str [99])])])])])])]), (.tup [(.str [102, 117, 110]), (.str [97]), (.tup [(.str [102, 117, 110]), (.str [98]), (.tup [(.str [102, 117, 110]), (.str [99]), (.tup [(.str [117, 115, 101]), (.tup [(.str [118, 97, 114]), (.str [98])]), (.tup [(.str [117, 115, 101]), (.tup [(.str [118, 97, 114]), (.str [99])]), (.tup [(.str [118, 97, 114]), (.str [97])])])])])])]), (.tup [(.str [102, 117, 110]), (.str [97]), (.tup [(.str [102, 117, 110]), (.str [98]), (.tup [(.str [102, 117, 110]), (.str [99]), (.tup [(.str [117, 115, 101]), (.tup [(.str [118, 97, 114]), (.str [99])]), (.tup [(.str [117, 115, 101]), (.tup [(.str [118, 97, 114]), (.str [97])]), (.tup [(.str [118, 97, 114]), (.str [98])])])])])])]), (.tup [(.str [102, 117, 110]), (.str [97]), (.tup [(.str [102, 117, 110]), (.str [98]), (.tup [(.str [102, 117, 110]), (.str [99]), (.tup [(.str [117, 115, 101]), (.tup [(.str [118, 97, 114]), (.str [99])]), (.tup [(.str [117, 115, 101]), (.tup [(.str [118, 97, 114]), (.str [98])]), (.tup [(.str [118, 97, 114]), (.str [97])])])])])])]), (.tup [(.str [102, 117, 110]), (.str [97]), (.tup [(.str [102, 117, 110]), (.str [98]), (.tup [(.str [102, 117, 110]), (.str [99]), (.tup [(.str [117, 115, 101]), (.tup [(.str [117, 115, 101]), (.tup [(.str [118, 97, 114]), (.str [97])]), (.tup [(.str [118, 97, 114]), (.str [98])])]), (.tup [(.str [118, 97, 114]), (.str [99])])])])])]), (.tup [(.str [102, 117, 110]), (.str [97]), (.tup [(.str [102, 117, 110]), (.str [98]), (.tup [(.str [102, 117, 110]), (.str [99]), (.tup [(.str [117, 115, 101]), (.tup [(.str [117, 115, 101]), (.tup [(.str [118, 97, 114]), (.str [98])]), (.tup [(.str [118, 97, 114]), (.str [97])])]), (.tup [(.str [118, 97, 114]), (.str [99])])])])])]), (.tup [(.str [102, 117, 110]), (.str [97]), (.tup [(.str [102, 117, 110]), (.str [98]), (.tup [(.str [102, 117, 110]), (.str [99]), (.tup [(.str [117, 115, 101]), (.tup [(.str [117, 115, 101]), (.tup [(.str [118, 97, 114]), (.str [97])]), (.tup [(.str [118, 97, 114]), (.str [99])])]), (.tup [(.str [118, 97, 114]), (.str [98])])])])])]), (.tup [(.str [102, 117, 110]), (.str [97]), (.tup [(.str [102, 117, 110]), (.str [98]), (.tup [(.str [102, 117, 110]), (.str [99]), (.tup [(.str [117, 115, 101]), (.tup [(.str [117, 115, 101]), (.tup [(.str [118, 97, 114]), (.str [99])]), (.tup [(.str [118, 97, 114]), (.str [97])])]), (.tup [(.str [118, 97, 114]), (.str [98])])])])])]), (.tup [(.str [102, 117, 110]), (.str [97]), (.tup [(.str [102, 117, 110]), (.str [98]), (.tup [(.str [102, 117, 110]), (.str [99]), (.tup [(.str [117, 115, 101]), (.tup [(.str [117, 115, 101]), (.tup [(.str [118, 97, 114]), (.str [98])]), (.tup [(.str [118, 97, 114]), (.str [99])])]), (.tup [(.str [118, 97, 114]), (.str [97])])])])])]), (.tup [(.str [102, 117, 110]), (.str [97]), (.tup [(.str [102, 117, 110]), (.str [98]), (.tup [(.str [102, 117, 110]), (.str [99]), (.tup [(.str [117, 115, 101]), (.tup [(.str [117, 115, 101]), (.tup [(.str [118, 97, 114]), (.str [99])]), (.tup [(.str [118, 97, 114]), (.str [98])])]), (.tup [(.str [118, 97, 114]), (.str [97])])])])])]), (.tup [(.str [102, 117, 110]), (.str [97]), (.tup [(.str [102, 117, 110]), (.str [98]), (.tup [(.str [117, 115, 101]), (.tup [(.str [118, 97, 114]), (.str [97])]), (.tup [(.str [102, 117, 110]), (.str [99]), (.tup [(.str [117, 115, 101]), (.tup [(.str [118, 97, 114]), (.str [98])]), (.tup [(.str [118, 97, 114]), (.str [99])])])])])])]), (.tup [(.str [102, 117, 110]), (.str [97]), (.tup [(.str [102, 117, 110]), (.str [98]), (.tup [(.str [117, 115, 101]), (.tup [(.str [118, 97, 114]), (.str [97])]), (.tup [(.str [102, 117, 110]), (.str [99]), (.tup [(.str [117, 115, 101]), (.tup [(.str [118, 97, 114]), (.str [99])]), (.tup [(.str [118, 97, 114]), (.str [98])])])])])])]), (.tup [(.str [102, 117, 110]), (.str [97]), (.tup [(.str [102, 117, 110]), (.str [98]), (.tup [(.str [117, 115, 101]), (.tup [(.str [118, 97, 114]), (.str [97])]), (.tup [(.str [117, 115, 101]), (.tup [(.str [118, 97, 114]), (.str [98])]), (.tup [(.str [102, 117, 110]), (.str [99]), (.tup [(.str [118, 97, 114]), (.str [99])])])])])])]), (.tup [(.str [102, 117, 110]), (.str [97]), (.tup [(.str [102, 117, 110]), (.str [98]), (.tup [(.str [117, 115, 101]), (.tup [(.str [118, 97, 114]), (.str [97])]), (.tup [(.str [117, 115, 101]), (.tup [(.str [102, 117, 110]), (.str [99]), (.tup [(.str [118, 97, 114]), (.str [99])])]), (.tup [(.str [118, 97, 114]), (.str [98])])])])])]), (.tup [(.str [102, 117, 110]), (.str [97]), (.tup [(.str [102, 117, 110]), (.str [98]), (.tup [(.str [117, 115, 101]), (.tup [(.str [118, 97, 114]), (.str [98])]), (.tup [(.str [102, 117, 110]), (.str [99]), (.tup [(.str [117, 115, 101]), (.tup [(.str [118, 97, 114]), (.str [97])]), (.tup [(.str [118, 97, 114]), (.str [99])])])])])])]), (.tup [(.str [102, 117, 110]), (.str [97]), (.tup [(.str [102, 117, 110]), (.str [98]), (.tup [(.str [117, 115, 101]), (.tup [(.str [118, 97, 114]), (.str [98])]), (.tup [(.str [102, 117, 110]), (.str [99]), (.tup [(.str [117, 115, 101]), (.tup [(.str [118, 97, 114]), (.str [99])]), (.tup [(.str [118, 97, 114]), (.str [97])])])])])])]), (.tup [(.str [102, 117, 110]), (.str [97]), (.tup [(.str [102, 117, 110]), (.str [98]), (.tup [(.str [117, 115, 101]), (.tup [(.str [118, 97, 114]), (.str [98])]), (.tup [(.str [117, 115, 101]), (.tup [(.str [118, 97, 114]), (.str [97])]), (.tup [(.str [102, 117, 110]), (.str [99]), (.tup [(.str [118, 97, 114]), (.str [99])])])])])])]), (.tup [(.str [102, 117, 110]), (.str [97]), (.tup [(.str [102, 117, 110]), (.str [98]), (.tup [(.str [117, 115, 101]), (.tup [(.str [118, 97, 114]), (.str [98])]), (.tup [(.str [117, 115, 101]), (.tup [(.str [102, 117, 110]), (.str [99]), (.tup [(.str [118, 97, 114]), (.str [99])])]), (.tup [(.str [118, 97, 114]), (.str [97])])])])])]), (.tup [(.str [102, 117, 110]), (.str [97]), (.tup [(.str [102, 117, 110]), (.str [98]), (.tup [(.str [117, 115, 101]), (.tup [(.str [102, 117, 110]), (.str [99]), (.tup [(.str [118, 97, 114]), (.str [99])])]), (.tup [(.str [117, 115, 101]), (.tup [(.str [118, 97, 114]), (.str [97])]), (.tup [(.str [118, 97, 114]), (.str [98])])])])])]), (.tup [(.str [102, 117, 110]), (.str [97]), (.tup [(.str [102, 117, 110]), (.str [98]), (.tup [(.str [117, 115, 101]), (.tup [(.str [102, 117, 110]), (.str [99]), (.tup [(.str [118, 97, 114]), (.str [99])])]), (.tup [(.str [117, 115, 101]), (.tup [(.str [118, 97, 114]), (.str [98])]), (.tup [(.str [118, 97, 114]), (.str [97])])])])])]), (.tup [(.str [102, 117, 110]), (.str [97]), (.tup [(.str [102, 117, 110]), (.str [98]), (.tup [(.str [117, 115, 101]), (.tup [(.str [117, 115, 101]), (.tup [(.str [118, 97, 114]), (.str [97])]), (.tup [(.str [118, 97, 114]), (.str [98])])]), (.tup [(.str [102, 117, 110]), (.str [99]), (.tup [(.str [118, 97, 114]), (.str [99])])])])])]), (.tup [(.str [102, 117, 110]), (.str [97]), (.tup [(.str [102, 117, 110]), (.str [98]), (.tup [(.str [117, 115, 101]), (.tup [(.str [117, 115, 101]), (.tup [(.str [118, 97, 114]), (.str [98])]), (.tup [(.str [118, 97, 114]), (.str [97])])]), (.tup [(.str [102, 117, 110]), (.str [99]), (.tup [(.str [118, 97, 114]), (.str [99])])])])])]), (.tup [(.str [102, 117, 110]), (.str [97]), (.tup [(.str [102, 117, 110]), (.str [98]), (.tup [(.str [117, 115, 101]), (.tup [(.str [102, 117, 110]), (.str [99]), (.tup [(.str [117, 115, 101]), (.tup [(.str [118, 97, 114]), (.str [97])]), (.tup [(.str [118, 97, 114]), (.str [99])])])]), (.tup [(.str [118, 97, 114]), (.str [98])])])])]), (.tup [(.str [102, 117, 110]), (.str [97]), (.tup [(.str [102, 117, 110]), (.str [98]), (.tup [(.str [117, 115, 101]), (.tup [(.str [102, 117, 110]), (.str [99]), (.tup [(.str [117, 115, 101]), (.tup [(.str [118, 97, 114]), (.str [99])]), (.tup [(.str [118, 97, 114]), (.str [97])])])]), (.tup [(.str [118, 97, 114]), (.str [98])])])])]), (.tup [(.str [102, 117, 110]), (.str [97]), (.tup [(.str [102, 117, 110]), (.str [98]), (.tup [(.str [117, 115, 101]), (.tup [(.str [117, 115, 101]), (.tup [(.str [118, 97, 114]), (.str [97])]), (.tup [(.str [102, 117, 110]), (.str [99]), (.tup [(.str [118, 97, 114]), (.str [99])])])]), (.tup [(.str [118, 97, 114]), (.str [98])])])])]), (.tup [(.str [102, 117, 110]), (.str [97]), (.tup [(.str [102, 117, 110]), (.str [98]), (.tup [(.str [117, 115, 101]), (.tup [(.str [117, 115, 101]), (.tup [(.str [102, 117, 110]), (.str [99]), (.tup [(.str [118, 97, 114]), (.str [99])])]), (.tup [(.str [118, 97, 114]), (.str [97])])]), (.tup [(.str [118, 97, 114]), (.str [98])])])])]), (.tup [(.str [102, 117, 110]), (.str [97]), (.tup [(.str [102, 117, 110]), (.str [98]), (.tup [(.str [117, 115, 101]), (.tup [(.str [102, 117, 110]), (.str [99]), (.tup [(.str [117, 115, 101]), (.tup [(.str [118, 97, 114]), (.str [98])]), (.tup [(.str [118, 97, 114]), (.str [99])])])]), (.tup [(.str [118, 97, 114]), (.str [97])])])])]), (.tup [(.str [102, 117, 110]), (.str [97]), (.tup [(.str [102, 117, 110]), (.str [98]), (.tup [(.str [117, 115, 101]), (.tup [(.str [102, 117, 110]), (.str [99]), (.tup [(.str [117, 115, 101]), (.tup [(.str [118, 97, 114]), (.str [99])]), (.tup [(.str [118, 97, 114]), (.str [98])])])]), (.tup [(.str [118, 97, 114]), (.str [97])])])])]), (.tup [(.str [102, 117, 110]), (.str [97]), (.tup [(.str [102, 117, 110]), (.str [98]), (.tup [(.str [117, 115, 101]), (.tup [(.str [117, 115, 101]), (.tup [(.str [118, 97, 114]), (.str [98])]), (.tup [(.str [102, 117, 110]), (.str [99]), (.tup [(.str [118, 97, 114]), (.str [99])])])]), (.tup [(.str [118, 97, 114]), (.str [97])])])])]), (.tup [(.str [102, 117, 110]), (.str [97]), (.tup [(.str [102, 117, 110]), (.str [98]), (.tup [(.str [117, 115, 101]), (.tup [(.str [117, 115, 101]), (.tup [(.str [102, 117, 110]), (.str [99]), (.tup [(.str [118, 97, 114]), (.str [99])])]), (.tup [(.str [118, 97, 114]), (.str [98])])]), (.tup [(.str [118, 97, 114]), (.str [97])])])])]), (.tup [(.str [102, 117, 110]), (.str [97]), (.tup [(.str [117, 115, 101]), (.tup [(.str [118, 97, 114]), (.str [97])]), (.tup [(.str [102, 117, 110]), (.str [98]), (.tup [(.str [102, 117, 110]), (.str [99]), (.tup [(.str [117, 115, 101]), (.tup [(.str [118, 97, 114]), (.str [98])]), (.tup [(.str [118, 97, 114]), (.str [99])])])])])])]), (.tup [(.str [102, 117, 110]), (.str [97]), (.tup [(.str [117, 115, 101]), (.tup [(.str [118, 97, 114]), (.str [97])]), (.tup [(.str [102, 117, 110]), (.str [98]), (.tup [(.str [102, 117, 110]), (.str [99]), (.tup [(.str [117, 115, 101]), (.tup [(.str [118, 97, 114]), (.str [99])]), (.tup [(.str [118, 97, 114]), (.str [98])])])])])])]), (.tup [(.str [102, 117, 110]), (.str [97]), (.tup [(.str [117, 115, 101]), (.tup [(.str [118, 97, 114]), (.str [97])]), (.tup [(.str [102, 117, 110]), (.str [98]), (.tup [(.str [117, 115, 101]), (.tup [(.str [118, 97, 114]), (.str [98])]), (.tup [(.str [102, 117, 110]), (.str [99]), (.tup [(.str [118, 97, 114]), (.str [99])])])])])])]), (.tup [(.str [102, 117, 110]), (.str [97]), (.tup [(.str [117, 115, 101]), (.tup [(.str [118, 97, 114]), (.str [97])]), (.tup [(.str [102, 117, 110]), (.str [98]), (.tup [(.str [117, 115, 101]), (.tup [(.str [102, 117, 110]), (.str [99]), (.tup [(.str [118, 97, 114]), (.str [99])])]), (.tup [(.str [118, 97, 114]), (.str [98])])])])])]), (.tup [(.str [102, 117, 110]), (.str [97]), (.tup [(.str [117, 115, 101]), (.tup [(.str [118, 97, 114]), (.str [97])]), (.tup [(.str [117, 115, 101]), (.tup [(.str [102, 117, 110]), (.str [98]), (.tup [(.str [118, 97, 114]), (.str [98])])]), (.tup [(.str [102, 117, 110]), (.str [99]), (.tup [(.str [118, 97, 114]), (.str [99])])])])])]), (.tup [(.str [102, 117, 110]), (.str [97]), (.tup [(.str [117, 115, 101]), (.tup [(.str [102, 117, 110]), (.str [98]), (.tup [(.str [118, 97, 114]), (.str [98])])]), (.tup [(.str [102, 117, 110]), (.str [99]), (.tup [(.str [117, 115, 101]), (.tup [(.str [118, 97, 114]), (.str [97])]), (.tup [(.str [118, 97, 114]), (.str [99])])])])])]), (.tup [(.str [102, 117, 110]), (.str [97]), (.tup [(.str [117, 115, 101]), (.tup [(.str [102, 117, 110]), (.str [98]), (.tup [(.str [118, 97, 114]), (.str [98])])]), (.tup [(.str [102, 117, 110]), (.str [99]), (.tup [(.str [117, 115, 101]), (.tup [(.str [118, 97, 114]), (.str [99])]), (.tup [(.str [118, 97, 114]), (.str [97])])])])])]), (.tup [(.str [102, 117, 110]), (.str [97]), (.tup [(.str [117, 115, 101]), (.tup [(.str [102, 117, 110]), (.str [98]), (.tup [(.str [118, 97, 114]), (.str [98])])]), (.tup [(.str [117, 115, 101]), (.tup [(.str [118, 97, 114]), (.str [97])]), (.tup [(.str [102, 117, 110]), (.str [99]), (.tup [(.str [118, 97, 114]), (.str [99])])])])])]), (.tup [(.str [102, 117, 110]), (.str [97]), (.tup [(.str [117, 115, 101]), (.tup [(.str [102, 117, 110]), (.str [98]), (.tup [(.str [118, 97, 114]), (.str [98])])]), (.tup [(.str [117, 115, 101]), (.tup [(.str [102, 117, 110]), (.str [99]), (.tup [(.str [118, 97, 114]), (.str [99])])]), (.tup [(.str [118, 97, 114]), (.str [97])])])])]), (.tup [(.str [102, 117, 110]), (.str [97]), (.tup [(.str [117, 115, 101]), (.tup [(.str [102, 117, 110]), (.str [98]), (.tup [(.str [117, 115, 101]), (.tup [(.str [118, 97, 114]), (.str [97])]), (.tup [(.str [118, 97, 114]), (.str [98])])])]), (.tup [(.str [102, 117, 110]), (.str [99]), (.tup [(.str [118, 97, 114]), (.str [99])])])])]), (.tup [(.str [102, 117, 110]), (.str [97]), (.tup [(.str [117, 115, 101]), (.tup [(.str [102, 117, 110]), (.str [98]), (.tup [(.str [117, 115, 101]), (.tup [(.str [118, 97, 114]), (.str [98])]), (.tup [(.str [118, 97, 114]), (.str [97])])])]), (.tup [(.str [102, 117, 110]), (.str [99]), (.tup [(.str [118, 97, 114]), (.str [99])])])])]), (.tup [(.str [102, 117, 110]), (.str [97]), (.tup [(.str [117, 115, 101]), (.tup [(.str [117, 115, 101]), (.tup [(.str [118, 97, 114]), (.str [97])]), (.tup [(.str [102, 117, 110]), (.str [98]), (.tup [(.str [118, 97, 114]), (.str [98])])])]), (.tup [(.str [102, 117, 110]), (.str [99]), (.tup [(.str [118, 97, 114]), (.str [99])])])])]), (.tup [(.str [102, 117, 110]), (.str [97]), (.tup [(.str [117, 115, 101]), (.tup [(.str [117, 115, 101]), (.tup [(.str [102, 117, 110]), (.str [98]), (.tup [(.str [118, 97, 114]), (.str [98])])]), (.tup [(.str [118, 97, 114]), (.str [97])])]), (.tup [(.str [102, 117, 110]), (.str [99]), (.tup [(.str [118, 97, 114]), (.str [99])])])])]), (.tup [(.str [102, 117, 110]), (.str [97]), (.tup [(.str [117, 115, 101]), (.tup [(.str [102, 117, 110]), (.str [98]), (.tup [(.str [102, 117, 110]), (.str [99]), (.tup [(.str [117, 115, 101]), (.tup [(.str [118, 97, 114]), (.str [98])]), (.tup [(.str [118, 97, 114]), (.str [99])])])])]), (.tup [(.str [118, 97, 114]), (.str [97])])])]), (.tup [(.str [102, 117, 110]), (.str [97]), (.tup [(.str [117, 115, 101]), (.tup [(.str [102, 117, 110]), (.str [98]), (.tup [(.str [102, 117, 110]), (.str [99]), (.tup [(.str [117, 115, 101]), (.tup [(.str [118, 97, 114]), (.str [99])]), (.tup [(.str [118, 97, 114]), (.str [98])])])])]), (.tup [(.str [118, 97, 114]), (.str [97])])])]), (.tup [(.str [102, 117, 110]), (.str [97]), (.tup [(.str [117, 115, 101]), (.tup [(.str [102, 117, 110]), (.str [98]), (.tup [(.str [117, 115, 101]), (.tup [(.str [118, 97, 114]), (.str [98])]), (.tup [(.str [102, 117, 110]), (.str [99]), (.tup [(.str [118, 97, 114]), (.str [99])])])])]), (.tup [(.str [118, 97, 114]), (.str [97])])])]), (.tup [(.str [102, 117, 110]), (.str [97]), (.tup [(.str [117, 115, 101]), (.tup [(.str [102, 117, 110]), (.str [98]), (.tup [(.str [117, 115, 101]), (.tup [(.str [102, 117, 110]), (.str [99]), (.tup [(.str [118, 97, 114]), (.str [99])])]), (.tup [(.str [118, 97, 114]), (.str [98])])])]), (.tup [(.str [118, 97, 114]), (.str [97])])])]), (.tup [(.str [102, 117, 110]), (.str [97]), (.tup [(.str [117, 115, 101]), (.tup [(.str [117, 115, 101]), (.tup [(.str [102, 117, 110]), (.str [98]), (.tup [(.str [118, 97, 114]), (.str [98])])]), (.tup [(.str [102, 117, 110]), (.str [99]), (.tup [(.str [118, 97, 114]), (.str [99])])])]), (.tup [(.str [118, 97, 114]), (.str [97])])])]), (.tup [(.str [117, 115, 101]), (.tup [(.str [102, 117, 110]), (.str [97]), (.tup [(.str [118, 97, 114]), (.str [97])])]), (.tup [(.str [102, 117, 110]), (.str [98]), (.tup [(.str [102, 117, 110]), (.str [99]), (.tup [(.str [117, 115, 101]), (.tup [(.str [118, 97, 114]), (.str [98])]), (.tup [(.str [118, 97, 114]), (.str [99])])])])])]), (.tup [(.str [117, 115, 101]), (.tup [(.str [102, 117, 110]), (.str [97]), (.tup [(.str [118, 97, 114]), (.str [97])])]), (.tup [(.str [102, 117, 110]), (.str [98]), (.tup [(.str [102, 117, 110]), (.str [99]), (.tup [(.str [117, 115, 101]), (.tup [(.str [118, 97, 114]), (.str [99])]), (.tup [(.str [118, 97, 114]), (.str [98])])])])])]), (.tup [(.str [117, 115, 101]), (.tup [(.str [102, 117, 110]), (.str [97]), (.tup [(.str [118, 97, 114]), (.str [97])])]), (.tup [(.str [102, 117, 110]), (.str [98]), (.tup [(.str [117, 115, 101]), (.tup [(.str [118, 97, 114]), (.str [98])]), (.tup [(.str [102, 117, 110]), (.str [99]), (.tup [(.str [118, 97, 114]), (.str [99])])])])])]), (.tup [(.str [117, 115, 101]), (.tup [(.str [102, 117, 110]), (.str [97]), (.tup [(.str [118, 97, 114]), (.str [97])])]), (.tup [(.str [102, 117, 110]), (.str [98]), (.tup [(.str [117, 115, 101]), (.tup [(.str [102, 117, 110]), (.str [99]), (.tup [(.str [118, 97, 114]), (.str [99])])]), (.tup [(.str [118, 97, 114]), (.str [98])])])])]), (.tup [(.str [117, 115, 101]), (.tup [(.str [102, 117, 110]), (.str [97]), (.tup [(.str [118, 97, 114]), (.str [97])])]), (.tup [(.str [117, 115, 101]), (.tup [(.str [102, 117, 110]), (.str [98]), (.tup [(.str [118, 97, 114]), (.str [98])])]), (.tup [(.str [102, 117, 110]), (.str [99]), (.tup [(.str [118, 97, 114]), (.str [99])])])])]), (.tup [(.str [117, 115, 101]), (.tup [(.str [102, 117, 110]), (.str [97]), (.tup [(.str [102, 117, 110]), (.str [98]), (.tup [(.str [117, 115, 101]), (.tup [(.str [118, 97, 114]), (.str [97])]), (.tup [(.str [118, 97, 114]), (.str [98])])])])]), (.tup [(.str [102, 117, 110]), (.str [99]), (.tup [(.str [118, 97, 114]), (.str [99])])])]), (.tup [(.str [117, 115, 101]), (.tup [(.str [102, 117, 110]), (.str [97]), (.tup [(.str [102, 117, 110]), (.str [98]), (.tup [(.str [117, 115, 101]), (.tup [(.str [118, 97, 114]), (.str [98])]), (.tup [(.str [118, 97, 114]), (.str [97])])])])]), (.tup [(.str [102, 117, 110]), (.str [99]), (.tup [(.str [118, 97, 114]), (.str [99])])])]), (.tup [(.str [117, 115, 101]), (.tup [(.str [102, 117, 110]), (.str [97]), (.tup [(.str [117, 115, 101]), (.tup [(.str [118, 97, 114]), (.str [97])]), (.tup [(.str [102, 117, 110]), (.str [98]), (.tup [(.str [118, 97, 114]), (.str [98])])])])]), (.tup [(.str [102, 117, 110]), (.str [99]), (.tup [(.str [118, 97, 114]), (.str [99])])])]), (.tup [(.str [117, 115, 101]), (.tup [(.str [102, 117, 110]), (.str [97]), (.tup [(.str [117, 115, 101]), (.tup [(.str [102, 117, 110]), (.str [98]), (.tup [(.str [118, 97, 114]), (.str [98])])]), (.tup [(.str [118, 97, 114]), (.str [97])])])]), (.tup [(.str [102, 117, 110]), (.str [99]), (.tup [(.str [118, 97, 114]), (.str [99])])])]), (.tup [(.str [117, 115, 101]), (.tup [(.str [117, 115, 101]), (.tup [(.str [102, 117, 110]), (.str [97]), (.tup [(.str [118, 97, 114]), (.str [97])])]), (.tup [(.str [102, 117, 110]), (.str [98]), (.tup [(.str [118, 97, 114]), (.str [98])])])]), (.tup [(.str [102, 117, 110]), (.str [99]), (.tup [(.str [118, 97, 114]), (.str [99])])])])])
def T : Tab := [(3, [.int 1], .int 1),
  (3, [.int 2], .int 5),
  (3, [.int 3], .int 60),
  (3, [.int 4], .int 1105),
  (3, [.int 5], .int 27120),
  (3, [.int 6], .int 828250),
  (3, [.int 7], .int 30220800),
  (5, [.int 1], .int 1),
  (5, [.int 2], .int 3),
  (5, [.int 3], .int 26),
  (5, [.int 4], .int 367),
  (5, [.int 5], .int 7142),
  (5, [.int 6], .int 176766),
  (5, [.int 7], .int 5304356),
  (4, [.int 1], .int 1),
  (4, [.int 2], .int 4),
  (4, [.int 3], .int 32),
  (4, [.int 4], .int 336),
  (4, [.int 5], .int 4096),
  (4, [.int 6], .int 54912),
  (4, [.int 7], .int 786432),
  (14, [.int 7, .bl false], li vE),
  (14, [.int 7, .bl true], li vP),
  (15, [.int 7], li vN),
  (9, [.int 1, .lst true [], .int 0], w1),
  (9, [.int 2, .lst true [], .int 0], w2),
  (9, [.int 3, .lst true [], .int 0], w3)]
theorem t0 : okT pg dep (3, [.int 1], .int 1) = true := by decide +kernel
theorem t1 : okT pg dep (3, [.int 2], .int 5) = true := by decide +kernel
theorem t2 : okT pg dep (3, [.int 3], .int 60) = true := by decide +kernel
theorem t3 : okT pg dep (3, [.int 4], .int 1105) = true := by decide +kernel
theorem t4 : okT pg dep (3, [.int 5], .int 27120) = true := by decide +kernel
theorem t5 : okT pg dep (3, [.int 6], .int 828250) = true := by decide +kernel
theorem t6 : okT pg dep (3, [.int 7], .int 30220800) = true := by decide +kernel
theorem t7 : okT pg dep (5, [.int 1], .int 1) = true := by decide +kernel
theorem t8 : okT pg dep (5, [.int 2], .int 3) = true := by decide +kernel
theorem t9 : okT pg dep (5, [.int 3], .int 26) = true := by decide +kernel
theorem t10 : okT pg dep (5, [.int 4], .int 367) = true := by decide +kernel
theorem t11 : okT pg dep (5, [.int 5], .int 7142) = true := by decide +kernel
theorem t12 : okT pg dep (5, [.int 6], .int 176766) = true := by decide +kernel
theorem t13 : okT pg dep (5, [.int 7], .int 5304356) = true := by decide +kernel
theorem t14 : okT pg dep (4, [.int 1], .int 1) = true := by decide +kernel
theorem t15 : okT pg dep (4, [.int 2], .int 4) = true := by decide +kernel
theorem t16 : okT pg dep (4, [.int 3], .int 32) = true := by decide +kernel
theorem t17 : okT pg dep (4, [.int 4], .int 336) = true := by decide +kernel
theorem t18 : okT pg dep (4, [.int 5], .int 4096) = true := by decide +kernel
theorem t19 : okT pg dep (4, [.int 6], .int 54912) = true := by decide +kernel
theorem t20 : okT pg dep (4, [.int 7], .int 786432) = true := by decide +kernel
theorem t21 : okT pg dep (14, [.int 7, .bl false], li vE) = true := by decide +kernel
theorem t22 : okT pg dep (14, [.int 7, .bl true], li vP) = true := by decide +kernel
theorem t23 : okT pg dep (15, [.int 7], li vN) = true := by decide +kernel
theorem t24 : okT pg dep (9, [.int 1, .lst true [], .int 0], w1) = true := by decide +kernel
theorem t25 : okT pg dep (9, [.int 2, .lst true [], .int 0], w2) = true := by decide +kernel
theorem t26 : okT pg dep (9, [.int 3, .lst true [], .int 0], w3) = true := by decide +kernel
theorem T_ok : ∀ e ∈ T, okT pg dep e = true := List.forall_mem_cons.mpr ⟨t0, List.forall_mem_cons.mpr ⟨t1, List.forall_mem_cons.mpr ⟨t2, List.forall_mem_cons.mpr ⟨t3, List.forall_mem_cons.mpr ⟨t4, List.forall_mem_cons.mpr ⟨t5, List.forall_mem_cons.mpr ⟨t6, List.forall_mem_cons.mpr ⟨t7, List.forall_mem_cons.mpr ⟨t8, List.forall_mem_cons.mpr ⟨t9, List.forall_mem_cons.mpr ⟨t10, List.forall_mem_cons.mpr ⟨t11, List.forall_mem_cons.mpr ⟨t12, List.forall_mem_cons.mpr ⟨t13, List.forall_mem_cons.mpr ⟨t14, List.forall_mem_cons.mpr ⟨t15, List.forall_mem_cons.mpr ⟨t16, List.forall_mem_cons.mpr ⟨t17, List.forall_mem_cons.mpr ⟨t18, List.forall_mem_cons.mpr ⟨t19, List.forall_mem_cons.mpr ⟨t20, List.forall_mem_cons.mpr ⟨t21, List.forall_mem_cons.mpr ⟨t22, List.forall_mem_cons.mpr ⟨t23, List.forall_mem_cons.mpr ⟨t24, List.forall_mem_cons.mpr ⟨t25, List.forall_mem_cons.mpr ⟨t26, fun _ h => absurd h List.not_mem_nil⟩⟩⟩⟩⟩⟩⟩⟩⟩⟩⟩⟩⟩⟩⟩⟩⟩⟩⟩⟩⟩⟩⟩⟩⟩⟩⟩
def B : List (Nat × D) := [(1, .ref 1), (2, li vE), (3, li vP), (4, li vN)]
def rest1 : ISs := dropS 1 b_law
def turnB : ISs := match dropS 5 rest1 with
  | .cons (.for _ _ b) _ => b
  | _ => .nil
def turn2 : ISs := dropS 1 turnB
def last : ISs := dropS 6 rest1
theorem seg1 : chkN (evSs (tabG pg dep T) (takeS 5 rest1) (only 13 [(1, .ref 1)]) (List.replicate 2 .hid)) (endOk 13 B 88) = true := by decide +kernel
theorem segT (L : Nat) (hL : L = 88 ∨ L = 90 ∨ L = 92) (v : Int) (h0 : 0 ≤ v) (h7 : v < 7) : chkN (evSs (tabG pg dep T) (takeS 1 turn2) (only 13 ((5, .int (1 + v)) :: B)) (List.replicate L .hid)) (endOk 13 B (L + 2)) = true := by
  have hv : v = 0 ∨ v = 1 ∨ v = 2 ∨ v = 3 ∨ v = 4 ∨ v = 5 ∨ v = 6 := by omega
  rcases hL with rfl | rfl | rfl <;> rcases hv with rfl | rfl | rfl | rfl | rfl | rfl | rfl <;> decide +kernel
theorem segL : chkR (evSs (tabG pg dep T) last (only 13 B) (List.replicate 94 .hid)) (.bl true) = true := by decide +kernel
theorem turn {ns : List Int} (hl : ns.length ≤ 63) {L : Nat} (hL : L = 88 ∨ L = 90 ∨ L = 92) {σ : Sl} {h : Hq} (S : St 13 B ns L σ h) : ∃ σ' h', St 13 B ns (L + 2) σ' h' ∧ evSs (gmOf pg dep) turnB σ h = .ok (.nx σ') h' := by
  obtain ⟨v, h1, v0, v7, S1, e⟩ := S.draw (P := pg) (f := 7) (j := 1) (m := 7) (k := 19) rfl List.mem_cons_self hl (by decide) (by decide)
  have S2 := S1.set (j := 5) (x := .int (1 + v)) (by decide) (by decide)
  obtain ⟨σ', h', S3, _, e3⟩ := S2.seg (B' := B) (L' := L + 2) txt T_ok 1 turn2 (segT L hL v v0 v7)
  refine ⟨σ', h', S3, ?_⟩
  have ea : evS (gmOf pg dep) (.asg (.name 5) (.op .add (.int 1) (.call 7 (.cons (.v 1) (.cons (.int 7) .nil))))) σ h = .ok (.nx (σ.set 5 (some (.int (1 + v))))) h1 := sAsgN (eOp eC e addS)
  exact sCn ea e3
theorem plain : ∀ ns : List Int, ns.length ≤ 63 → ∃ h', run pg (dep + 1) 17 [.scr ns] [] = .ok (.bl true) h' := fun ns hl => by
  obtain ⟨σ1, h1, S1, e1⟩ := St.begin (P := pg) (n := 13) (ns := ns) (f := 6) (j := 1) (k := 19) (rest := rest1) rfl (by decide) (by decide)
  obtain ⟨σ2, h2, S2, _, e2⟩ := S1.seg (B' := B) (L' := 88) txt T_ok 5 rest1 seg1
  have lift : ∀ {L : Nat} {σ : Sl} {h : Hq} (x : D), St 13 B ns L σ h → St 13 B ns L (σ.set 7 (some x)) h := fun x S => (S.set (j := 7) (x := x) (by decide) (by decide)).less fun e he => List.mem_cons_of_mem _ he
  obtain ⟨σ3, h3, S3, e3⟩ := turn hl (.inl rfl) (lift (.int 0) S2)
  obtain ⟨σ4, h4, S4, e4⟩ := turn hl (.inr (.inl rfl)) (lift (.int 1) S3)
  obtain ⟨σ5, h5, S5, e5⟩ := turn hl (.inr (.inr rfl)) (lift (.int 2) S4)
  have ef : evS (gmOf pg dep) (.for (.rg1 (.int 3)) (.name 7) turnB) σ2 h2 = .ok (.nx σ5) h5 := by
    show forSeq (gN 7) (evSs (gmOf pg dep) turnB) [.int 0, .int 1, .int 2] σ2 h2 = _
    rw [forSeq_nx rfl e3, forSeq_nx rfl e4, forSeq_nx rfl e5]
    rfl
  obtain ⟨h6, e6⟩ := S5.ret txt T_ok last segL
  refine ⟨h6, run_rt rfl rfl (e1.trans (e2.trans ?_))⟩
  exact sCn ef e6
end K83
open PySem PySem.W PyProof.Rows
set_option maxRecDepth 100000 in
set_option maxHeartbeats 0 in
theorem PySem.Challenge.cw_oncelinks_k83_whole_counts_of_terms_holds : PySem.Challenge.rw_oncelinks_k83_whole_counts_of_terms.Holds := by
  w_on; o_law; k_head; (case hw => w_witness2)
  k_fill
  refine Px.walk (l := PySem.Challenge.rw_oncelinks_k83_whole_counts_of_terms) K83.pg K83.tb (fun _ _ => none) K83.dep 17 (K83.top 19) K83.n_law K83.b_law rfl rfl ⟨rfl, by decide, by decide⟩ (fun w h Y => PySem.W.kIn_of Y) rfl K83.s_law K83.m_law (fun _ _ _ _ _ _ _ => rfl) ?F K83.plain
  case F =>
    intro w mg fa h KX G hmg
    refine' K83.fin KX G ?d0 ?d1 ?d2 ?d3 ?d4 ?d5 ?d6 ?d7 ?d8 ?d9 ?d10 ?d11 ?d12 ?d13 ?d14 ?d15 ?d16 ?d17 ?z0 ?z1 ?z2 ?z3 ?z4 ?z5 ?z6 ?z7 ?z8 ?z9 ?z10 ?z11
    case d0 =>
      refine' Px.def_mk KX G ?a ?l ?c ?k
      (case a => k_is); (case l => k_is); (case c => k_is); (case k => k_is)
    case d1 =>
      refine' Px.def_mk KX G ?a ?l ?c ?k
      (case a => k_is); (case l => k_is); (case c => k_is); (case k => k_is)
    case d2 =>
      refine' Px.def_mk KX G ?a ?l ?c ?k
      (case a => k_is); (case l => k_is); (case c => k_is); (case k => k_is)
    case d3 =>
      refine' Px.def_mk KX G ?a ?l ?c ?k
      (case a => k_is); (case l => k_is); (case c => k_is); (case k => k_is)
    case d4 =>
      refine' Px.def_mk KX G ?a ?l ?c ?k
      (case a => k_is); (case l => k_is); (case c => k_is); (case k => k_is)
    case d5 =>
      refine' Px.def_mk KX G ?a ?l ?c ?k
      (case a => k_is); (case l => k_is); (case c => k_is); (case k => k_is)
    case d6 =>
      refine' Px.def_mk KX G ?a ?l ?c ?k
      (case a => k_is); (case l => k_is); (case c => k_is); (case k => k_is)
    case d7 =>
      refine' Px.def_mk KX G ?a ?l ?c ?k
      (case a => k_is); (case l => k_is); (case c => k_is); (case k => k_is)
    case d8 =>
      refine' Px.def_mk KX G ?a ?l ?c ?k
      (case a => k_is); (case l => k_is); (case c => k_is); (case k => k_is)
    case d9 =>
      refine' Px.def_mk KX G ?a ?l ?c ?k
      (case a => k_is); (case l => k_is); (case c => k_is); (case k => k_is)
    case d10 =>
      refine' Px.def_mk KX G ?a ?l ?c ?k
      (case a => k_is); (case l => k_is); (case c => k_is); (case k => k_is)
    case d11 =>
      refine' Px.def_mk KX G ?a ?l ?c ?k
      (case a => k_is); (case l => k_is); (case c => k_is); (case k => k_is)
    case d12 =>
      refine' Px.def_mk KX G ?a ?l ?c ?k
      (case a => k_is); (case l => k_is); (case c => k_is); (case k => k_is)
    case d13 =>
      refine' Px.def_mk KX G ?a ?l ?c ?k
      (case a => k_is); (case l => k_is); (case c => k_is); (case k => k_is)
    case d14 =>
      refine' Px.def_mk KX G ?a ?l ?c ?k
      (case a => k_is); (case l => k_is); (case c => k_is); (case k => k_is)
    case d15 =>
      refine' Px.def_mk KX G ?a ?l ?c ?k
      (case a => k_is); (case l => k_is); (case c => k_is); (case k => k_is)
    case d16 =>
      refine' Px.def_mk KX G ?a ?l ?c ?k
      (case a => k_is); (case l => k_is); (case c => k_is); (case k => k_is)
    case d17 =>
      refine' Px.def_mk KX G ?a ?l ?c ?k
      (case a => k_is); (case l => k_is); (case c => k_is); (case k => k_is)
    (case z0 => k_is)
    (case z1 => k_is)
    (case z2 => k_is)
    (case z3 => k_is)
    (case z4 => k_is)
    (case z5 => k_is)
    (case z6 => k_is)
    (case z7 => k_is)
    (case z8 => k_is)
    (case z9 => k_is)
    (case z10 => k_is)
    (case z11 => k_is)
