import PyProof.Rows.All
import Wide.All
import OpenK.AllK
import Wide.FinOn
import PyProof.EqAt
import PyProof.EqKinds
import PyProof.TupleCall
import HandS.ForMost
import HandS.ForExc
import HandS.CallSlots
import HandS.IsInst
import KE.KTupSum
import HandS.TupAny
import HandS.TupMul
import HandS.Style
import HandS.Text
import KE.KSortTupG
import PyProof.Rows.SortWalk
import HandS.Walk
import HandS.Keys
import HandS.Zip
import HandS.TryOnly
import KE.GoesEnum
import KE.GoesZip
import KE.GoesMore
import HandS.Codes
import HandS.WordsExc
import HandS.Ends
import PySem.Challenge.RW_gatehold_k31_bills_whole_shares
/-! GCore: plain values, a small heap of changeable things, and what the program's text computes over them. -/
namespace G

/-- data that nobody changes -/
inductive D where
  | non | bl (b : Bool) | int (i : Int) | str (s : List Nat) | tup (xs : List D) | lst (xs : List D) | fn (k : Nat) | scr (xs : List D)

/-- a value: data, a changeable thing by its number, or a caught error -/
inductive W where
  | d (x : D) | ref (n : Nat) | exn (k : Nat) (ds : List D)

/-- a changeable thing; lk: it is walked just now -/
inductive Cell where
  | dead
  | lst (lk : Bool) (xs : List W)
  | dct (lk : Bool) (kvs : List (D × W))
  | ins (c : Nat) (fs : List (Nat × W))

abbrev S := List Cell
abbrev Lo := List (Option W)

inductive R (α : Type) where
  | ok (a : α) (h : S)
  | exc (k : Nat) (ds : List D) (h : S)
  | bad

def R.bind {α β : Type} (r : R α) (f : α → S → R β) : R β := match r with
  | .ok a h => f a h
  | .exc k ds h => .exc k ds h
  | .bad => .bad
def ofO {α : Type} (h : S) : Option α → R α
  | some a => .ok a h
  | none => .bad

@[simp] theorem bind_ok {α β : Type} (a : α) (h : S) (f : α → S → R β) : (R.ok a h).bind f = f a h := rfl
@[simp] theorem bind_exc {α β : Type} (k : Nat) (ds : List D) (h : S) (f : α → S → R β) : (R.exc k ds h : R α).bind f = .exc k ds h := rfl
@[simp] theorem bind_bad {α β : Type} (f : α → S → R β) : (R.bad : R α).bind f = .bad := rfl
@[simp] theorem ofO_some {α : Type} (h : S) (a : α) : ofO h (some a) = .ok a h := rfl
@[simp] theorem ofO_none {α : Type} (h : S) : ofO h (none : Option α) = .bad := rfl

/-! ### data by themselves -/
mutual
def eqd : D → D → Bool
  | .non, .non => true
  | .bl a, .bl b => a == b
  | .bl a, .int j => (if a then 1 else 0) == j
  | .int i, .bl b => i == (if b then 1 else 0)
  | .int i, .int j => i == j
  | .str x, .str y => x == y
  | .tup xs, .tup ys => eqds xs ys
  | .lst xs, .lst ys => eqds xs ys
  | _, _ => false
def eqds : List D → List D → Bool
  | [], [] => true
  | x :: xs, y :: ys => eqd x y && eqds xs ys
  | _, _ => false
end
-- none, bools, numbers, texts
def flat : D → Bool
  | .non | .bl _ | .int _ | .str _ => true
  | _ => false
-- data of a depth, texts of plain signs
mutual
def deep : Nat → D → Bool
  | _, .non => true
  | _, .bl _ => true
  | _, .int _ => true
  | _, .str s => s.all (· < 128)
  | 0, .tup _ => false
  | 0, .lst _ => false
  | n + 1, .tup xs => deeps n xs
  | n + 1, .lst xs => deeps n xs
  | _, .fn _ => false
  | _, .scr _ => false
def deeps : Nat → List D → Bool
  | _, [] => true
  | n, x :: xs => deep n x && deeps n xs
end
def big : Nat := 16777216
def big64 : Nat := 18446744073709551616

/-- kinds that isinstance asks for -/
inductive Ty where
  | int | bool | str | tup | lst
def isTy : Ty → D → Bool
  | .int, .int _ => true
  | .int, .bl _ => true
  | .bool, .bl _ => true
  | .str, .str _ => true
  | .tup, .tup _ => true
  | .lst, .lst _ => true
  | _, _ => false
def notFn : D → Bool
  | .fn _ => false
  | .scr _ => false
  | _ => true

def intsOf : List D → Option (List Int)
  | [] => some []
  | .int i :: r => (intsOf r).map (i :: ·)
  | _ :: _ => none
def blsOf : List D → Option (List Bool)
  | [] => some []
  | .bl b :: r => (blsOf r).map (b :: ·)
  | _ :: _ => none
def strsOf : List D → Option (List (List Nat))
  | [] => some []
  | .str b :: r => (strsOf r).map (b :: ·)
  | _ :: _ => none

def seqD : D → Option (List D)
  | .tup xs => some xs
  | .lst xs => some xs
  | _ => none

/-- a place of a row, from behind where it is below nought -/
def atZ {α : Type} (xs : List α) (i : Int) : Option α :=
  if 0 ≤ i then xs[i.toNat]? else if -(xs.length : Int) ≤ i then xs[(i + xs.length).toNat]? else none
def ixZ (n : Nat) (i : Int) : Option Nat :=
  if 0 ≤ i then (if i < n then some i.toNat else none) else if -(n : Int) ≤ i then some (i + n).toNat else none
/-- the bound of a slice -/
def cutZ (n d : Nat) : Option Int → Nat
  | none => d
  | some i => if 0 ≤ i then min i.toNat n else (i + n).toNat
def cutL {α : Type} (xs : List α) (lo hi : Option Int) : List α :=
  (xs.drop (cutZ xs.length 0 lo)).take (cutZ xs.length xs.length hi - cutZ xs.length 0 lo)

/-! ### order of rows of numbers and texts -/
def ltN : List Nat → List Nat → Bool
  | [], [] => false
  | [], _ :: _ => true
  | _ :: _, [] => false
  | a :: x, b :: y => if a == b then ltN x y else a < b
/-- of two members -/
def ltI : D → D → Bool
  | .int i, .int j => decide (i < j)
  | .int _, .str _ => true
  | .str x, .str y => decide (x < y)
  | _, _ => false
/-- of two rows -/
def ltL : List D → List D → Bool
  | [], [] => false
  | [], _ :: _ => true
  | _ :: _, [] => false
  | a :: x, b :: y => ltI a b || (!ltI b a && ltL x y)
def ltB : D → D → Bool
  | .tup x, .tup y => ltL x y
  | a, b => ltI a b
/-- sorting by putting in, equal ones in their turn -/
def putIn (lt : D → D → Bool) (x : D) : List D → List D
  | [] => [x]
  | y :: r => if lt x y then x :: y :: r else y :: putIn lt x r
def srt (lt : D → D → Bool) (xs : List D) : List D := xs.foldl (fun acc x => putIn lt x acc) []
/-- the kinds of a row's members: numbers, texts -/
def kds : List D → Option (List Bool)
  | [] => some []
  | .int _ :: r => (kds r).map (false :: ·)
  | .str _ :: r => (kds r).map (true :: ·)
  | _ :: _ => none
def rowOf : D → List D
  | .tup ds => ds
  | _ => []
/-- rows of the same kinds -/
def fitT (ks : List Bool) : D → Bool
  | .tup ds => decide (kds ds = some ks)
  | _ => false
def kdsOf : D → Option (List Bool)
  | .tup ds => kds ds
  | _ => none
def fitS : List D → Bool
  | [] => true
  | x :: r => match kdsOf x with
    | some (k :: ks) => (x :: r).all (fitT (k :: ks))
    | _ => false

/-! ### operations -/
inductive O1 where
  | len | toTup | toLst | sum | all | any | int1 | neg | notv | isk (ts : List Ty) | isNon | notNon | srt
inductive O2 where
  | add | sub | mul | fdiv | mod | pow | shl | shr | band | bor
  | eq | ne | lt | le | gt | ge | inn | nin | ix | max2 | min2

def op1 : O1 → D → Option D
  | .len, .str s => if s.length ≤ big then some (.int s.length) else none
  | .len, .tup xs => some (.int xs.length)
  | .len, .lst xs => some (.int xs.length)
  | .len, .scr xs => some (.int xs.length)
  | .toTup, .tup xs => some (.tup xs)
  | .toTup, .lst xs => some (.tup xs)
  | .toLst, .tup xs => some (.lst xs)
  | .toLst, .lst xs => some (.lst xs)
  | .sum, .tup xs => (intsOf xs).map fun ns => .int ns.sum
  | .sum, .lst xs => (intsOf xs).map fun ns => .int ns.sum
  | .all, .lst xs => (blsOf xs).map fun bs => .bl (bs.all id)
  | .any, .lst xs => (blsOf xs).map fun bs => .bl (bs.any id)
  | .int1, .int i => some (.int i)
  | .int1, .bl b => some (.int (if b then 1 else 0))
  | .neg, .int i => some (.int (-i))
  | .notv, .bl b => some (.bl (!b))
  | .isk ts, x => if notFn x then some (.bl (ts.any (isTy · x))) else none
  | .isNon, .non => some (.bl true)
  | .isNon, .fn _ => none
  | .isNon, .scr _ => none
  | .isNon, _ => some (.bl false)
  | .notNon, .non => some (.bl false)
  | .notNon, .fn _ => none
  | .notNon, .scr _ => none
  | .notNon, _ => some (.bl true)
  | .srt, .lst xs => if fitS xs then some (.lst (srt ltB xs)) else none
  | _, _ => none
/-- what it gives is a new list -/
def new1 : O1 → Bool
  | .toLst | .srt => true
  | _ => false

def bNot (x : Int) : Int := -x - 1
def bAnd (x y : Int) : Int := match decide (0 ≤ x), decide (0 ≤ y) with
  | true, true => ((x.toNat &&& y.toNat : Nat) : Int)
  | true, false => x - ((x.toNat &&& (bNot y).toNat : Nat) : Int)
  | false, true => y - ((y.toNat &&& (bNot x).toNat : Nat) : Int)
  | false, false => bNot (((bNot x).toNat ||| (bNot y).toNat : Nat) : Int)
def bOr (x y : Int) : Int := bNot (bAnd (bNot x) (bNot y))
def inD (x : D) : List D → Bool
  | [] => false
  | y :: r => eqd y x || inD x r

def sign1 : D → Option Nat
  | .str [c] => some c
  | _ => none
def opIn (x : D) : D → Option Bool
  | .str z => (sign1 x).map fun c => z.contains c
  | .tup ys => if flat x && ys.all flat then some (inD x ys) else none
  | .lst ys => if flat x && ys.all flat then some (inD x ys) else none
  | _ => none

def op2 : O2 → D → D → Option D
  | .add, .int i, .int j => some (.int (i + j))
  | .add, .str x, .str y => if x.length + y.length ≤ big then some (.str (x ++ y)) else none
  | .add, .tup x, .tup y => if x.length + y.length ≤ big then some (.tup (x ++ y)) else none
  | .add, .lst x, .lst y => if x.length + y.length ≤ big then some (.lst (x ++ y)) else none
  | .sub, .int i, .int j => some (.int (i - j))
  | .mul, .int i, .int j => if i.natAbs < big64 || j.natAbs < big64 then some (.int (i * j)) else none
  | .mul, .tup x, .int k => if 1 ≤ k && k ≤ 1000 && x.length ≤ 1000 && !x.isEmpty then some (.tup (List.replicate k.toNat x).flatten) else none
  | .mul, .lst x, .int k => if 0 ≤ k && k ≤ 1000 && x.length ≤ 1000 then some (.lst (List.replicate k.toNat x).flatten) else none
  | .fdiv, .int i, .int j => if j != 0 && j.natAbs < 1073741824 then some (.int (i.fdiv j)) else none
  | .mod, .int i, .int j => if j != 0 then some (.int (i.fmod j)) else none
  | .pow, .int i, .int j => if 0 ≤ j && j ≤ 1000000 && i.natAbs < 18446744073709551616 then some (.int (i ^ j.toNat)) else none
  | .shl, .int i, .int j => if 0 ≤ j && j ≤ 1000000 && i.natAbs < 18446744073709551616 then some (.int (i * 2 ^ j.toNat)) else none
  | .shr, .int i, .int j => if 0 ≤ j then some (.int (i / 2 ^ j.toNat)) else none
  | .band, .int i, .int j => some (.int (bAnd i j))
  | .bor, .int i, .int j => some (.int (bOr i j))
  | .eq, x, y => if (flat x && flat y) || (deep 40 x && deep 40 y) then some (.bl (eqd x y)) else none
  | .ne, x, y => if (flat x && flat y) || (deep 40 x && deep 40 y) then some (.bl (!eqd x y)) else none
  | .lt, .int i, .int j => some (.bl (decide (i < j)))
  | .le, .int i, .int j => some (.bl (decide (i ≤ j)))
  | .gt, .int i, .int j => some (.bl (decide (j < i)))
  | .ge, .int i, .int j => some (.bl (decide (j ≤ i)))
  | .lt, .str x, .str y => some (.bl (ltN x y))
  | .gt, .str x, .str y => some (.bl (ltN y x))
  | .le, .str x, .str y => some (.bl (!ltN y x))
  | .ge, .str x, .str y => some (.bl (!ltN x y))
  | .inn, x, y => (opIn x y).map D.bl
  | .nin, x, y => (opIn x y).map fun b => .bl (!b)
  | .ix, .tup xs, .int i => atZ xs i
  | .ix, .lst xs, .int i => atZ xs i
  | .ix, .str s, .int i => if s.length ≤ big then (atZ s i).map fun c => .str [c] else none
  | .max2, .int i, .int j => some (.int (if j > i then j else i))
  | .min2, .int i, .int j => some (.int (if j < i then j else i))
  | _, _, _ => none
def new2 : O2 → D → Bool
  | .add, .lst _ => true
  | .mul, .lst _ => true
  | _, _ => false

def opS : D → Option Int → Option Int → Option D
  | .tup xs, lo, hi => some (.tup (cutL xs lo hi))
  | .lst xs, lo, hi => some (.lst (cutL xs lo hi))
  | .scr xs, lo, hi => some (.lst (cutL xs lo hi))
  | .str s, lo, hi => if s.length ≤ big then some (.str (cutL s lo hi)) else none
  | _, _, _ => none

def newS : D → Bool
  | .lst _ => true
  | .scr _ => true
  | _ => false

/-! ### changeable things -/
def allD : List W → Option (List D)
  | [] => some []
  | .d x :: r => (allD r).map (x :: ·)
  | _ :: _ => none
/-- a value read as data -/
def vw (h : S) : W → Option D
  | .d x => some x
  | .ref n => match h[n]? with
    | some (.lst _ xs) => (allD xs).map D.lst
    | _ => none
  | .exn _ _ => none
def putNew (h : S) (c : Cell) : R W := .ok (.ref h.length) (h ++ [c])
/-- data as they are, or a new list -/
def fin (mt new : Bool) (x : D) (h : S) : R W := match mt with
  | false => .ok (.d x) h
  | true => match new, x with
    | true, .lst xs => putNew h (.lst false (xs.map W.d))
    | _, _ => .bad

def truth (h : S) : W → Option Bool
  | .d .non => some false
  | .d (.bl b) => some b
  | .d (.int i) => some (i != 0)
  | .d (.str s) => if s.length ≤ big then some (!s.isEmpty) else none
  | .d (.tup xs) => some (!xs.isEmpty)
  | .d (.lst xs) => some (!xs.isEmpty)
  | .d (.scr xs) => some (!xs.isEmpty)
  | .ref n => match h[n]? with
    | some (.lst _ xs) => some (!xs.isEmpty)
    | _ => none
  | _ => none
/-- md: only whether it is true is asked -/
def asked (md : Bool) (w : W) (h : S) : R W := match md with
  | false => .ok w h
  | true => (ofO h (truth h w)).bind fun b h => .ok (.d (.bl b)) h

def getL (h : S) (n : Nat) : Option (List W) := match h[n]? with
  | some (.lst _ xs) => some xs
  | _ => none
def getM (h : S) (n : Nat) : Option (List W) := match h[n]? with
  | some (.lst false xs) => some xs
  | _ => none

def getLW (h : S) : W → Option (List W)
  | .ref n => getL h n
  | _ => none
def runO1 (o : O1) (mt : Bool) (a : W) (h : S) : R W := (ofO h (vw h a)).bind fun x h => (ofO h (op1 o x)).bind fun z h => fin mt (new1 o) z h
def runO2 (o : O2) (mt : Bool) (a b : W) (h : S) : R W := match o, a, b with
  | .ix, .ref n, .d (.int i) => (ofO h (getL h n)).bind fun xs h => ofO h (atZ xs i)
  | o, a, b => (ofO h (vw h a)).bind fun x h => (ofO h (vw h b)).bind fun y h => (ofO h (op2 o x y)).bind fun z h => fin mt (new2 o x) z h
def intW : W → Option Int
  | .d (.int i) => some i
  | _ => none
def addI : W → W → Option W
  | .d (.int i), .d (.int j) => some (.d (.int (i + j)))
  | _, _ => none
def asD : W → Option D
  | .d x => some x
  | _ => none

/-! ### the text -/
mutual
inductive Ex where
  | var (i : Nat) | non | bl (b : Bool) | int (i : Int) | str (s : List Nat)
  | glb (k : Nat)
  | o1 (o : O1) (mt : Bool) (a : Ex) | o2 (o : O2) (mt : Bool) (a b : Ex)
  | and1 (a : Ex) | andc (a b : Ex) | or1 (a : Ex) | orc (a b : Ex) | not (a : Ex)
  | ifx (t a b : Ex)
  | tup (es : Exs) | lst (mt : Bool) (es : Exs)
  | slc (mt : Bool) (a : Ex) (lo hi : Oe)
  | call (k : Nat) (es : Exs)
  | comp (mt : Bool) (own : List Nat) (e : Ex) (tg : Tg) (it : It)
  | compc (mt : Bool) (own : List Nat) (e : Ex) (tg : Tg) (it : It) (t : Ex)
  | app (a b : Ex)
  | pop (a : Ex)
  | frz (a : Ex)
inductive Exs where
  | nil | cons (a : Ex) (r : Exs)
inductive Oe where
  | no | yes (a : Ex)
inductive It where
  | seq (a : Ex) | rng1 (a : Ex) | rng2 (a b : Ex) | enu (a : Ex) | zip (a b : Ex) | enz (a b : Ex)
inductive Tg where
  | nm (i : Nat) | tp (ts : Tgs) | sub (a i : Ex)
inductive Tgs where
  | nil | cons (t : Tg) (r : Tgs)
end
mutual
inductive St where
  | asg (tg : Tg) (e : Ex)
  | lcs (i : Nat) (e : Ex)
  | par (i j : Nat) (a b : Ex)
  | aug (i : Nat) (e : Ex)
  | augS (a i e : Ex)
  | ifs (t : Ex) (a b : Sts)
  | for (tg : Tg) (it : It) (b : Sts)
  | whl (fuel : Nat) (t : Ex) (b : Sts)
  | ret (e : Ex) | retN | brk | cnt | pass
  | expr (e : Ex)
  | rais (k : Nat) (es : Exs)
  | nev
inductive Sts where
  | nil | cons (s : St) (r : Sts)
end

def lenT : Tgs → Nat
  | .nil => 0
  | .cons _ r => lenT r + 1
structure Calls where
  fn : Nat → List W → S → R W
  glb : Nat → Option D

def wipe (σ : Lo) : List Nat → Lo
  | [] => σ
  | v :: vs => (wipe σ vs).set v none
/-- things that are walked -/
def lockOne (h : S) (n : Nat) : S := match h[n]? with
  | some (.lst false xs) => h.set n (.lst true xs)
  | _ => h
def openOne (h : S) (n : Nat) : S := match h[n]? with
  | some (.lst true xs) => h.set n (.lst false xs)
  | _ => h
def isOpen (h : S) (w : W) : List Nat := match w with
  | .ref n => match h[n]? with
    | some (.lst false _) => [n]
    | _ => []
  | _ => []
def lockAll (h : S) (ns : List Nat) : S := ns.foldl lockOne h
def openAll (h : S) (ns : List Nat) : S := ns.foldl openOne h
/-- what is walked: its members, and what is to be locked meanwhile -/
def itemsOf (h : S) : W → Option (List W)
  | .d (.tup xs) => some (xs.map W.d)
  | .d (.lst xs) => some (xs.map W.d)
  | .d (.scr xs) => some (xs.map W.d)
  | .d (.str s) => some (s.map fun c => W.d (.str [c]))
  | .ref n => getL h n
  | _ => none
def rngOf (i j : Int) : List W := (List.range (j - i).toNat).map fun k => W.d (.int (i + (k : Nat)))
def small62 (i : Int) : Bool := i.natAbs < 4611686018427387904
def enumOf : Nat → List D → List W
  | _, [] => []
  | k, x :: r => W.d (.tup [.int (k : Nat), x]) :: enumOf (k + 1) r
def zipOf : List D → List D → List D
  | x :: xs, y :: ys => .tup [x, y] :: zipOf xs ys
  | _, _ => []
def seqV (h : S) (w : W) : Option (List D) := (vw h w).bind seqD

def openR {α : Type} (ns : List Nat) : R α → R α
  | .ok a h => .ok a (openAll h ns)
  | .exc k ds h => .exc k ds (openAll h ns)
  | .bad => .bad

/-- no error comes out -/
def calm {α : Type} : R α → R α
  | .ok a h => .ok a h
  | _ => .bad
/-- the members of a comprehension, one behind the other -/
def compGo (step : W → S → R (Option D)) : List W → S → R (List D)
  | [], h => .ok [] h
  | x :: r, h => (calm (step x h)).bind fun o h => (compGo step r h).bind fun ds h => .ok (match o with
    | some d => d :: ds
    | none => ds) h

mutual
def ev (C : Calls) : Ex → Bool → Lo → S → R W
  | .var i, md, σ, h => (ofO h ((σ[i]?).bind id)).bind (asked md)
  | .non, md, _, h => asked md (.d .non) h
  | .bl b, md, _, h => asked md (.d (.bl b)) h
  | .int i, md, _, h => asked md (.d (.int i)) h
  | .str s, md, _, h => asked md (.d (.str s)) h
  | .glb k, md, _, h => (ofO h (C.glb k)).bind fun x h => asked md (.d x) h
  | .o1 o mt a, md, σ, h => ((ev C a false σ h).bind (runO1 o mt)).bind (asked md)
  | .o2 o mt a b, md, σ, h => ((ev C a false σ h).bind fun x h => (ev C b false σ h).bind (runO2 o mt x)).bind (asked md)
  | .and1 a, md, σ, h => ev C a md σ h
  | .andc a b, md, σ, h => (ev C a md σ h).bind fun x h => match x with
    | .d (.bl true) => ev C b md σ h
    | .d (.bl false) => .ok (.d (.bl false)) h
    | _ => .bad
  | .or1 a, md, σ, h => ev C a md σ h
  | .orc a b, md, σ, h => (ev C a md σ h).bind fun x h => match x with
    | .d (.bl false) => ev C b md σ h
    | .d (.bl true) => .ok (.d (.bl true)) h
    | _ => .bad
  | .not a, md, σ, h => (ev C a md σ h).bind fun x h => match x with
    | .d (.bl b) => .ok (.d (.bl (!b))) h
    | _ => .bad
  | .ifx t a b, md, σ, h => (ev C t true σ h).bind fun x h => match x with
    | .d (.bl true) => ev C a md σ h
    | .d (.bl false) => ev C b md σ h
    | _ => .bad
  | .tup es, md, σ, h => ((evs C es σ h).bind fun ws h => (ofO h (allD ws)).bind fun ds h => if ds.length ≤ big then .ok (.d (.tup ds)) h else .bad).bind (asked md)
  | .lst mt es, md, σ, h => ((evs C es σ h).bind fun ws h => if ws.length ≤ big then (match mt with
      | true => putNew h (.lst false ws)
      | false => (ofO h (allD ws)).bind fun ds h => .ok (.d (.lst ds)) h) else .bad).bind (asked md)
  | .slc mt a lo hi, md, σ, h => ((ev C a false σ h).bind fun x h => (evo C lo σ h).bind fun l h => (evo C hi σ h).bind fun u h =>
      (ofO h (vw h x)).bind fun y h => (ofO h (opS y l u)).bind fun z h => fin mt (newS y) z h).bind (asked md)
  | .call k es, md, σ, h => ((evs C es σ h).bind (C.fn k)).bind (asked md)
  | .comp mt own e tg it, md, σ, h => ((evit C it σ h).bind fun (p : List W × List Nat) h =>
      openR p.2 ((compGo (fun x h => (stg C tg x (wipe σ own) h).bind fun σ h => (ev C e false σ h).bind fun y h => (ofO h (asD y)).bind fun d h => .ok (some d) h) p.1 (lockAll h p.2)).bind fun ds h =>
        if ds.length ≤ big then fin mt true (.lst ds) h else .bad)).bind (asked md)
  | .compc mt own e tg it t, md, σ, h => ((evit C it σ h).bind fun (p : List W × List Nat) h =>
      openR p.2 ((compGo (fun x h => (stg C tg x (wipe σ own) h).bind fun σ h => (ev C t true σ h).bind fun c h => match c with
        | .d (.bl true) => (ev C e false σ h).bind fun y h => (ofO h (asD y)).bind fun d h => .ok (some d) h
        | .d (.bl false) => .ok none h
        | _ => .bad) p.1 (lockAll h p.2)).bind fun ds h =>
        if ds.length ≤ big then fin mt true (.lst ds) h else .bad)).bind (asked md)
  | .app a b, md, σ, h => ((ev C a false σ h).bind fun x h => (ofO h (getLW h x)).bind fun _ h => (ev C b false σ h).bind fun y h => match x with
    | .ref n => (ofO h (getM h n)).bind fun xs h => if xs.length < big then .ok (.d .non) (h.set n (.lst false (xs ++ [y]))) else .bad
    | _ => .bad).bind (asked md)
  | .pop a, md, σ, h => ((ev C a false σ h).bind fun x h => match x with
    | .ref n => (ofO h (getM h n)).bind fun xs h => match xs.getLast? with
      | some y => .ok y (h.set n (.lst false xs.dropLast))
      | none => .bad
    | _ => .bad).bind (asked md)
  | .frz a, md, σ, h => match md with
    | true => .bad
    | false => (ev C a false σ h).bind fun x h => match x with
      | .ref n => (ofO h (getM h n)).bind fun xs h => (ofO h (allD xs)).bind fun ds h => .ok (.d (.lst ds)) (h.set n .dead)
      | _ => .bad
def evs (C : Calls) : Exs → Lo → S → R (List W)
  | .nil, _, h => .ok [] h
  | .cons a r, σ, h => (ev C a false σ h).bind fun x h => (evs C r σ h).bind fun xs h => .ok (x :: xs) h
def evo (C : Calls) : Oe → Lo → S → R (Option Int)
  | .no, _, h => .ok none h
  | .yes a, σ, h => (ev C a false σ h).bind fun x h => (ofO h (intW x)).bind fun i h => .ok (some i) h
def evit (C : Calls) : It → Lo → S → R (List W × List Nat)
  | .seq a, σ, h => (ev C a false σ h).bind fun x h => (ofO h (itemsOf h x)).bind fun xs h => .ok (xs, isOpen h x) h
  | .rng1 a, σ, h => (ev C a false σ h).bind fun x h => (ofO h (intW x)).bind fun i h => if small62 i then .ok (rngOf 0 i, []) h else .bad
  | .rng2 a b, σ, h => (ev C a false σ h).bind fun x h => (ev C b false σ h).bind fun y h => (ofO h (intW x)).bind fun i h => (ofO h (intW y)).bind fun j h =>
      if small62 i && small62 j then .ok (rngOf i j, []) h else .bad
  | .enu a, σ, h => (ev C a false σ h).bind fun x h => (ofO h (seqV h x)).bind fun xs h => .ok (enumOf 0 xs, isOpen h x) h
  | .zip a b, σ, h => (ev C a false σ h).bind fun x h => (ev C b false σ h).bind fun y h => (ofO h (seqV h x)).bind fun xs h => (ofO h (seqV h y)).bind fun ys h =>
      .ok ((zipOf xs ys).map W.d, isOpen h x ++ isOpen h y) h
  | .enz a b, σ, h => (ev C a false σ h).bind fun x h => (ev C b false σ h).bind fun y h => (ofO h (seqV h x)).bind fun xs h => (ofO h (seqV h y)).bind fun ys h =>
      .ok (enumOf 0 (zipOf xs ys), isOpen h x ++ isOpen h y) h
/-- a value goes to a target -/
def stg (C : Calls) : Tg → W → Lo → S → R Lo
  | .nm i, w, σ, h => .ok (σ.set i (some w)) h
  | .tp ts, w, σ, h => match w with
    | .d (.tup xs) => if xs.length = lenT ts then stgs C ts (xs.map W.d) σ h else .bad
    | .d (.lst xs) => if xs.length = lenT ts then stgs C ts (xs.map W.d) σ h else .bad
    | _ => .bad
  | .sub a i, w, σ, h => (ev C a false σ h).bind fun x h => (ev C i false σ h).bind fun y h => match x with
    | .ref n => (ofO h (intW y)).bind fun k h => (ofO h (getM h n)).bind fun xs h => (ofO h (ixZ xs.length k)).bind fun j h =>
        .ok σ (h.set n (.lst false (xs.set j w)))
    | _ => .bad
def stgs (C : Calls) : Tgs → List W → Lo → S → R Lo
  | .nil, [], σ, h => .ok σ h
  | .cons t r, w :: ws, σ, h => (stg C t w σ h).bind fun σ h => stgs C r ws σ h
  | _, _, _, _ => .bad
end

inductive Fl where
  | nx (σ : Lo) | rt (w : W) | bk (σ : Lo) | ct (σ : Lo)

/-- the turns of a for -/
def forGo (step : W → Lo → S → R Fl) : List W → Lo → S → R Fl
  | [], σ, h => .ok (.nx σ) h
  | x :: r, σ, h => (step x σ h).bind fun f h => match f with
    | .nx σ => forGo step r σ h
    | .ct σ => forGo step r σ h
    | .bk σ => .ok (.nx σ) h
    | .rt w => .ok (.rt w) h
def whlGo (test : Lo → S → R W) (body : Lo → S → R Fl) : Nat → Lo → S → R Fl
  | 0, _, _ => .bad
  | n + 1, σ, h => (test σ h).bind fun c h => match c with
    | .d (.bl false) => .ok (.nx σ) h
    | .d (.bl true) => (body σ h).bind fun f h => match f with
      | .nx σ => whlGo test body n σ h
      | .ct σ => whlGo test body n σ h
      | .bk σ => .ok (.nx σ) h
      | .rt w => .ok (.rt w) h
    | _ => .bad

mutual
def ex (C : Calls) : St → Lo → S → R Fl
  | .asg tg e, σ, h => (ev C e false σ h).bind fun w h => (stg C tg w σ h).bind fun σ h => .ok (.nx σ) h
  | .lcs i e, σ, h => (ev C e false σ h).bind fun w h => .ok (.nx (σ.set i (some w))) h
  | .par i j a b, σ, h => (ev C a false σ h).bind fun x h => (ev C b false σ h).bind fun y h => .ok (.nx ((σ.set i (some x)).set j (some y))) h
  | .aug i e, σ, h => (ofO h ((σ[i]?).bind id)).bind fun x h => (ev C e false σ h).bind fun y h => (ofO h (addI x y)).bind fun z h => .ok (.nx (σ.set i (some z))) h
  | .augS a i e, σ, h => (ev C a false σ h).bind fun x h => (ev C i false σ h).bind fun k h => match x with
      | .ref n => (ofO h (intW k)).bind fun k h => (ofO h (getL h n)).bind fun xs h => (ofO h (atZ xs k)).bind fun old h => (ev C e false σ h).bind fun y h => (ofO h (addI old y)).bind fun z h =>
        (ofO h (getM h n)).bind fun xs h => (ofO h (ixZ xs.length k)).bind fun j h => .ok (.nx σ) (h.set n (.lst false (xs.set j z)))
      | _ => .bad
  | .ifs t a b, σ, h => (ev C t true σ h).bind fun c h => match c with
    | .d (.bl true) => exs C a σ h
    | .d (.bl false) => exs C b σ h
    | _ => .bad
  | .for tg it b, σ, h => (evit C it σ h).bind fun (p : List W × List Nat) h =>
      openR p.2 (forGo (fun x σ h => (stg C tg x σ h).bind fun σ h => exs C b σ h) p.1 σ (lockAll h p.2))
  | .whl n t b, σ, h => whlGo (fun σ h => ev C t true σ h) (fun σ h => exs C b σ h) n σ h
  | .ret e, σ, h => (ev C e false σ h).bind fun w h => .ok (.rt w) h
  | .retN, _, h => .ok (.rt (.d .non)) h
  | .brk, σ, h => .ok (.bk σ) h
  | .cnt, σ, h => .ok (.ct σ) h
  | .pass, σ, h => .ok (.nx σ) h
  | .expr e, σ, h => (ev C e false σ h).bind fun _ h => .ok (.nx σ) h
  | .rais k es, σ, h => (evs C es σ h).bind fun ws h => (ofO h (allD ws)).bind fun ds h => .exc k ds h
  | .nev, _, _ => .bad
def exs (C : Calls) : Sts → Lo → S → R Fl
  | .nil, σ, h => .ok (.nx σ) h
  | .cons s r, σ, h => (ex C s σ h).bind fun f h => match f with
    | .nx σ => exs C r σ h
    | f => .ok f h
end

/-- a def: its parameters, how many names it has, its defaults, its body -/
structure Fn where
  nPar : Nat
  nLoc : Nat
  dfl : List D
  body : Sts
structure Prog where
  fns : List Fn
  glbs : List D

/-- numbers below n alone -/
def lowW (n : Nat) : W → Bool
  | .d _ => true
  | .ref k => k < n
  | .exn _ _ => true
def lowC (n : Nat) : Cell → Bool
  | .dead => true
  | .lst _ xs => xs.all (lowW n)
  | .dct _ kvs => kvs.all fun p => lowW n p.2
  | .ins _ fs => fs.all fun p => lowW n p.2
/-- what was made within the call and nobody knows goes -/
def sweep (n : Nat) (h : S) : S := match h.length == n with
  | true => h
  | false => if (h.take n).all (lowC n) then h.take n else h
def leave (n : Nat) (w : W) (h : S) : R W := match w with
  | .d x => .ok (.d x) (sweep n h)
  | w => .ok w h

/-- the arguments, the last ones by their defaults -/
def fill (f : Fn) (ws : List W) : List W := ws ++ (f.dfl.drop (f.dfl.length - (f.nPar - ws.length))).map W.d
def runFn (P : Prog) : Nat → Nat → List W → S → R W
  | 0, _, _, _ => .bad
  | n + 1, k, ws, h => match P.fns[k]? with
    | none => .bad
    | some f =>
      if (fill f ws).length = f.nPar then
        match exs ⟨runFn P n, fun k => P.glbs[k]?⟩ f.body ((fill f ws).map some ++ List.replicate (f.nLoc - f.nPar) none) h with
        | .ok (.rt w) h1 => leave h.length w h1
        | .ok (.nx _) h1 => leave h.length (.d .non) h1
        | .ok _ _ => .bad
        | .exc k ds h1 => .exc k ds (sweep h.length h1)
        | .bad => .bad
      else .bad
end G

/-! what is walked stays as it is, whatever is computed meanwhile -/
set_option linter.all false
namespace G
def Kept (h h1 : S) : Prop := ∀ (n : Nat) xs, h[n]? = some (.lst true xs) → h1[n]? = some (.lst true xs)
theorem Kept.refl (h : S) : Kept h h := fun _ _ e => e
theorem Kept.trans {a b c : S} (x : Kept a b) (y : Kept b c) : Kept a c := fun n xs e => y n xs (x n xs e)
def KR {α : Type} (h : S) : R α → Prop
  | .ok _ h1 => Kept h h1
  | .exc _ _ h1 => Kept h h1
  | .bad => True
theorem KR.mono {α : Type} {h h1 : S} (k : Kept h h1) : ∀ {r : R α}, KR h1 r → KR h r
  | .ok _ _, x => k.trans x
  | .exc _ _ _, x => k.trans x
  | .bad, _ => trivial
theorem KR.bind {α β : Type} {h : S} {r : R α} {f : α → S → R β} (a : KR h r) (b : ∀ x h1, r = .ok x h1 → KR h1 (f x h1)) : KR h (r.bind f) := by
  cases r with
  | ok x h1 => exact (b x h1 rfl).mono a
  | exc k ds h1 => exact a
  | bad => trivial
theorem KR.ofO {α : Type} (h : S) (o : Option α) : KR h (ofO h o) := by cases o <;> first | trivial | exact Kept.refl h
theorem KR.ok {α : Type} (h : S) (a : α) : KR h (.ok a h) := Kept.refl h
theorem KR.ite {α : Type} {h : S} {c : Prop} [Decidable c] {a b : R α} (x : KR h a) (y : KR h b) : KR h (if c then a else b) := by split <;> assumption
theorem KR.bad {α : Type} (h : S) : KR h (.bad : R α) := trivial
theorem kept_app (h l : S) : Kept h (h ++ l) := fun n xs e => by
  rw [List.getElem?_append_left (List.getElem?_eq_some_iff.mp e).1]; exact e
theorem kept_set {h : S} {n : Nat} {c : Cell} (u : ∀ xs, h[n]? ≠ some (.lst true xs)) : Kept h (h.set n c) := fun k xs e => by
  by_cases z : n = k
  · subst z; exact absurd e (u xs)
  · rw [List.getElem?_set_ne z]; exact e
theorem getM_free {h : S} {n : Nat} {xs : List W} (e : getM h n = some xs) : ∀ ys, h[n]? ≠ some (.lst true ys) := fun ys q => by
  unfold getM at e
  rw [q] at e; cases e
theorem kr_fin (mt nw : Bool) (x : D) (h : S) : KR h (fin mt nw x h) := by
  unfold fin
  cases mt with
  | false => exact Kept.refl h
  | true =>
    cases nw with
    | false => trivial
    | true => cases x <;> first | trivial | exact kept_app _ _
theorem kr_asked (md : Bool) (w : W) (h : S) : KR h (asked md w h) := by
  cases md with
  | false => exact Kept.refl h
  | true => exact (KR.ofO h _).bind fun x h1 _ => Kept.refl h1
theorem kr_O1 (o : O1) (mt : Bool) (a : W) (h : S) : KR h (runO1 o mt a h) := (KR.ofO h _).bind fun x h1 _ => (KR.ofO h1 _).bind fun z h2 _ => kr_fin _ _ _ _
theorem kr_O2 (o : O2) (mt : Bool) (a b : W) (h : S) : KR h (runO2 o mt a b h) := by
  unfold runO2
  split
  · exact (KR.ofO h _).bind fun x h1 _ => KR.ofO h1 _
  · exact (KR.ofO h _).bind fun x h1 _ => (KR.ofO h1 _).bind fun z h2 _ => (KR.ofO h2 _).bind fun z h3 _ => kr_fin _ _ _ _
/-! ### locks -/
theorem kept_lockOne (h : S) (n : Nat) : Kept h (lockOne h n) := by
  unfold lockOne
  split
  · rename_i xs e
    exact kept_set fun ys q => by rw [e] at q; cases q
  · exact Kept.refl h
theorem kept_lockAll : ∀ (ns : List Nat) (h : S), Kept h (lockAll h ns)
  | [], h => Kept.refl h
  | n :: r, h => (kept_lockOne h n).trans (kept_lockAll r (lockOne h n))
theorem openOne_at {h : S} {n k : Nat} {xs : List W} (z : n ≠ k) (e : h[k]? = some (.lst true xs)) : (openOne h n)[k]? = some (.lst true xs) := by
  unfold openOne
  split
  · rw [List.getElem?_set_ne z]; exact e
  · exact e
theorem openAll_at : ∀ (ns : List Nat) {h : S} {k : Nat} {xs : List W}, k ∉ ns → h[k]? = some (.lst true xs) → (openAll h ns)[k]? = some (.lst true xs)
  | [], _, _, _, _, e => e
  | n :: r, h, k, xs, z, e => by
    have z1 : n ≠ k := fun q => z (by rw [q]; exact List.mem_cons_self)
    exact openAll_at r (fun q => z (List.mem_cons_of_mem _ q)) (openOne_at z1 e)
theorem kr_open {α : Type} {h h1 : S} {ns : List Nat} {r : R α} (u : ∀ n ∈ ns, ∀ xs, h[n]? ≠ some (.lst true xs)) (k : Kept h h1) (x : KR h1 r) : KR h (openR ns r) := by
  have core : ∀ h2, Kept h1 h2 → Kept h (openAll h2 ns) := fun h2 k2 n xs e => openAll_at ns (fun q => u n q xs e) (k2 n xs (k n xs e))
  cases r with
  | ok a h2 => exact core h2 x
  | exc a b h2 => exact core h2 x
  | bad => trivial
theorem isOpen_free (h : S) (w : W) : ∀ n ∈ isOpen h w, ∀ xs, h[n]? ≠ some (.lst true xs) := fun n hn xs e => by
  unfold isOpen at hn
  cases w with
  | ref k =>
    simp only [] at hn
    split at hn
    · rename_i q
      have : n = k := by simpa using hn
      subst this
      rw [q] at e; cases e
    · cases hn
  | d x => cases hn
  | exn a b => cases hn
theorem kr_calm {α : Type} {h : S} {r : R α} (x : KR h r) : KR h (calm r) := by cases r <;> first | exact x | trivial
theorem kr_comp {step : W → S → R (Option D)} (hs : ∀ x h, KR h (step x h)) : ∀ (xs : List W) (h : S), KR h (compGo step xs h)
  | [], h => Kept.refl h
  | x :: r, h => (kr_calm (hs x h)).bind fun o h1 _ => (kr_comp hs r h1).bind fun ds h2 _ => Kept.refl h2
theorem kr_for {step : W → Lo → S → R Fl} (hs : ∀ x σ h, KR h (step x σ h)) : ∀ (xs : List W) (σ : Lo) (h : S), KR h (forGo step xs σ h)
  | [], σ, h => Kept.refl h
  | x :: r, σ, h => (hs x σ h).bind fun f h1 _ => by
    cases f with
    | nx σ => exact kr_for hs r σ h1
    | ct σ => exact kr_for hs r σ h1
    | bk σ => exact Kept.refl h1
    | rt w => exact Kept.refl h1
theorem kr_whl {t : Lo → S → R W} {b : Lo → S → R Fl} (ht : ∀ σ h, KR h (t σ h)) (hb : ∀ σ h, KR h (b σ h)) : ∀ (n : Nat) (σ : Lo) (h : S), KR h (whlGo t b n σ h)
  | 0, _, _ => trivial
  | n + 1, σ, h => (ht σ h).bind fun c h1 _ => by
    split
    · exact Kept.refl h1
    · exact (hb σ h1).bind fun f h2 _ => by
        cases f with
        | nx σ => exact kr_whl ht hb n σ h2
        | ct σ => exact kr_whl ht hb n σ h2
        | bk σ => exact Kept.refl h2
        | rt w => exact Kept.refl h2
    · trivial
def KC (C : Calls) : Prop := ∀ k ws h, KR h (C.fn k ws h)
section
variable {C : Calls} (kc : KC C)
include kc
-- what iterators lock was free
def OpenP (h : S) (p : List W × List Nat) : Prop := ∀ n ∈ p.2, ∀ xs, h[n]? ≠ some (.lst true xs)
theorem ask_of {md : Bool} {h : S} {r : R W} (x : KR h r) : KR h (r.bind (asked md)) := x.bind fun w h1 _ => kr_asked md w h1
mutual
theorem kr_ev : ∀ (e : Ex) (md : Bool) (σ : Lo) (h : S), KR h (ev C e md σ h)
  | .var i, md, σ, h => by unfold ev; exact (KR.ofO h _).bind fun w h1 _ => kr_asked md w h1
  | .non, md, σ, h => by unfold ev; exact kr_asked _ _ _
  | .bl b, md, σ, h => by unfold ev; exact kr_asked _ _ _
  | .int b, md, σ, h => by unfold ev; exact kr_asked _ _ _
  | .str b, md, σ, h => by unfold ev; exact kr_asked _ _ _
  | .glb k, md, σ, h => by unfold ev; exact (KR.ofO h _).bind fun w h1 _ => kr_asked md _ h1
  | .o1 o mt a, md, σ, h => by unfold ev; exact ((kr_ev a false σ h).bind fun w h1 _ => kr_O1 _ _ _ _).bind fun w h1 _ => kr_asked md _ h1
  | .o2 o mt a b, md, σ, h => by unfold ev; exact ((kr_ev a false σ h).bind fun w h1 _ => (kr_ev b false σ h1).bind fun w h2 _ => kr_O2 _ _ _ _ _).bind fun w h1 _ => kr_asked md _ h1
  | .and1 a, md, σ, h => by unfold ev; exact kr_ev a md σ h
  | .or1 a, md, σ, h => by unfold ev; exact kr_ev a md σ h
  | .andc a b, md, σ, h => by
    unfold ev
    exact (kr_ev a md σ h).bind fun w h1 _ => by
      split
      · exact kr_ev b md σ h1
      · exact Kept.refl h1
      · trivial
  | .orc a b, md, σ, h => by
    unfold ev
    exact (kr_ev a md σ h).bind fun w h1 _ => by
      split
      · exact kr_ev b md σ h1
      · exact Kept.refl h1
      · trivial
  | .not a, md, σ, h => by
    unfold ev
    exact (kr_ev a md σ h).bind fun w h1 _ => by
      split
      · exact Kept.refl h1
      · trivial
  | .ifx t a b, md, σ, h => by
    unfold ev
    exact (kr_ev t true σ h).bind fun w h1 _ => by
      split
      · exact kr_ev a md σ h1
      · exact kr_ev b md σ h1
      · trivial
  | .tup es, md, σ, h => by unfold ev; exact ((kr_evs es σ h).bind fun w h1 _ => (KR.ofO h1 _).bind fun ds h2 _ => KR.ite (KR.ok h2 _) (KR.bad h2)).bind fun w h1 _ => kr_asked md _ h1
  | .lst mt es, md, σ, h => by
    unfold ev
    exact ((kr_evs es σ h).bind fun w h1 _ => KR.ite (by
      cases mt with
      | true => exact kept_app _ _
      | false => exact (KR.ofO h1 _).bind fun ds h2 _ => Kept.refl h2) (KR.bad h1)).bind fun w h1 _ => kr_asked md _ h1
  | .slc mt a lo hi, md, σ, h => by
    unfold ev
    exact ((kr_ev a false σ h).bind fun x h1 _ => (kr_evo lo σ h1).bind fun l h2 _ => (kr_evo hi σ h2).bind fun u h3 _ => (KR.ofO h3 _).bind fun y h4 _ => (KR.ofO h4 _).bind fun z h5 _ => kr_fin _ _ _ _).bind fun w h1 _ => kr_asked md _ h1
  | .call k es, md, σ, h => by unfold ev; exact ((kr_evs es σ h).bind fun ws h1 _ => kc k ws h1).bind fun w h1 _ => kr_asked md _ h1
  | .comp mt own e tg it, md, σ, h => by
    unfold ev
    refine ((kr_evit it σ h).1.bind fun p h1 q => ?_).bind fun w h1 _ => kr_asked md _ h1
    refine kr_open ((kr_evit it σ h).2 p h1 q) (kept_lockAll _ _) ((kr_comp (fun x h => ?_) _ _).bind fun ds h2 _ => KR.ite (kr_fin _ _ _ _) (KR.bad _))
    exact (kr_stg tg x _ h).bind fun σ h2 _ => (kr_ev e false σ h2).bind fun y h3 _ => (KR.ofO h3 _).bind fun d h4 _ => Kept.refl h4
  | .compc mt own e tg it t, md, σ, h => by
    unfold ev
    refine ((kr_evit it σ h).1.bind fun p h1 q => ?_).bind fun w h1 _ => kr_asked md _ h1
    refine kr_open ((kr_evit it σ h).2 p h1 q) (kept_lockAll _ _) ((kr_comp (fun x h => ?_) _ _).bind fun ds h2 _ => KR.ite (kr_fin _ _ _ _) (KR.bad _))
    refine (kr_stg tg x _ h).bind fun σ h2 _ => (kr_ev t true σ h2).bind fun c h2 _ => ?_
    split
    · exact (kr_ev e false σ h2).bind fun y h3 _ => (KR.ofO h3 _).bind fun d h4 _ => Kept.refl h4
    · exact Kept.refl h2
    · trivial
  | .app a b, md, σ, h => by
    unfold ev
    refine ((kr_ev a false σ h).bind fun x h1 _ => (KR.ofO h1 _).bind fun _ h1 _ => (kr_ev b false σ h1).bind fun y h2 _ => ?_).bind fun w h1 _ => kr_asked md _ h1
    cases x with
    | ref n =>
      refine (KR.ofO h2 _).bind fun xs h3 q => ?_
      cases e : getM h2 n with
      | none => rw [e] at q; cases q
      | some ys =>
        rw [e] at q; cases q
        exact KR.ite (kept_set (getM_free e)) (KR.bad _)
    | d x => trivial
    | exn a b => trivial
  | .pop a, md, σ, h => by
    unfold ev
    refine ((kr_ev a false σ h).bind fun x h2 _ => ?_).bind fun w h1 _ => kr_asked md _ h1
    cases x with
    | ref n =>
      refine (KR.ofO h2 _).bind fun xs h3 q => ?_
      cases e : getM h2 n with
      | none => rw [e] at q; cases q
      | some ys =>
        rw [e] at q; cases q
        split
        · exact kept_set (getM_free e)
        · trivial
    | d x => trivial
    | exn a b => trivial
  | .frz a, true, σ, h => by unfold ev; trivial
  | .frz a, false, σ, h => by
    unfold ev
    refine (kr_ev a false σ h).bind fun x h2 _ => ?_
    cases x with
    | ref n =>
      refine (KR.ofO h2 _).bind fun xs h3 q => ?_
      cases e : getM h2 n with
      | none => rw [e] at q; cases q
      | some ys =>
        rw [e] at q; cases q
        exact (KR.ofO _ _).bind fun ds h4 q2 => by
          cases e2 : allD xs with
          | none => rw [e2] at q2; cases q2
          | some zs => rw [e2] at q2; cases q2; exact kept_set (getM_free e)
    | d x => trivial
    | exn a b => trivial
theorem kr_evs : ∀ (e : Exs) (σ : Lo) (h : S), KR h (evs C e σ h)
  | .nil, σ, h => by unfold evs; exact Kept.refl h
  | .cons a r, σ, h => by unfold evs; exact (kr_ev a false σ h).bind fun x h1 _ => (kr_evs r σ h1).bind fun xs h2 _ => Kept.refl h2
theorem kr_evo : ∀ (e : Oe) (σ : Lo) (h : S), KR h (evo C e σ h)
  | .no, σ, h => by unfold evo; exact Kept.refl h
  | .yes a, σ, h => by unfold evo; exact (kr_ev a false σ h).bind fun x h1 _ => (KR.ofO h1 _).bind fun xs h2 _ => Kept.refl h2
theorem kr_evit : ∀ (e : It) (σ : Lo) (h : S), KR h (evit C e σ h) ∧ ∀ p h1, evit C e σ h = .ok p h1 → OpenP h1 p
  | .seq a, σ, h => by
    unfold evit
    refine ⟨(kr_ev a false σ h).bind fun x h1 _ => (KR.ofO h1 _).bind fun xs h2 _ => Kept.refl h2, fun p h1 q => ?_⟩
    cases e : ev C a false σ h with
    | ok x h2 =>
      rw [e] at q
      simp only [bind_ok] at q
      cases e2 : itemsOf h2 x with
      | none => rw [e2] at q; cases q
      | some xs => rw [e2] at q; cases q; exact isOpen_free _ _
    | exc a b c => rw [e] at q; cases q
    | bad => rw [e] at q; cases q
  | .rng1 a, σ, h => by
    unfold evit
    refine ⟨(kr_ev a false σ h).bind fun x h1 _ => (KR.ofO h1 _).bind fun xs h2 _ => KR.ite (KR.ok h2 _) (KR.bad h2), fun p h1 q => ?_⟩
    cases e : ev C a false σ h with
    | ok x h2 =>
      rw [e] at q
      simp only [bind_ok] at q
      cases e2 : intW x with
      | none => rw [e2] at q; cases q
      | some xs =>
        rw [e2] at q
        simp only [ofO_some, bind_ok] at q
        split at q
        · cases q; exact fun n hn => nomatch hn
        · cases q
    | exc a b c => rw [e] at q; cases q
    | bad => rw [e] at q; cases q
  | .rng2 a b, σ, h => by
    unfold evit
    refine ⟨(kr_ev a false σ h).bind fun x h1 _ => (kr_ev b false σ h1).bind fun y h1 _ => (KR.ofO h1 _).bind fun xs h2 _ => (KR.ofO h2 _).bind fun ys h2 _ => KR.ite (KR.ok h2 _) (KR.bad h2), fun p h1 q => ?_⟩
    cases e : ev C a false σ h with
    | ok x h2 =>
      rw [e] at q
      simp only [bind_ok] at q
      cases e0 : ev C b false σ h2 with
      | ok y h3 =>
        rw [e0] at q
        simp only [bind_ok] at q
        cases e2 : intW x with
        | none => rw [e2] at q; cases q
        | some xs =>
          rw [e2] at q
          simp only [ofO_some, bind_ok] at q
          cases e3 : intW y with
          | none => rw [e3] at q; cases q
          | some ys =>
            rw [e3] at q
            simp only [ofO_some, bind_ok] at q
            split at q
            · cases q; exact fun n hn => nomatch hn
            · cases q
      | exc a b c => rw [e0] at q; cases q
      | bad => rw [e0] at q; cases q
    | exc a b c => rw [e] at q; cases q
    | bad => rw [e] at q; cases q
  | .enu a, σ, h => by
    unfold evit
    refine ⟨(kr_ev a false σ h).bind fun x h1 _ => (KR.ofO h1 _).bind fun xs h2 _ => Kept.refl h2, fun p h1 q => ?_⟩
    cases e : ev C a false σ h with
    | ok x h2 =>
      rw [e] at q
      simp only [bind_ok] at q
      cases e2 : seqV h2 x with
      | none => rw [e2] at q; cases q
      | some xs => rw [e2] at q; cases q; exact isOpen_free _ _
    | exc a b c => rw [e] at q; cases q
    | bad => rw [e] at q; cases q
  | .zip a b, σ, h => by
    unfold evit
    refine ⟨(kr_ev a false σ h).bind fun x h1 _ => (kr_ev b false σ h1).bind fun y h1 _ => (KR.ofO h1 _).bind fun xs h2 _ => (KR.ofO h2 _).bind fun ys h2 _ => Kept.refl h2, fun p h1 q => ?_⟩
    cases e : ev C a false σ h with
    | ok x h2 =>
      rw [e] at q
      simp only [bind_ok] at q
      cases e0 : ev C b false σ h2 with
      | ok y h3 =>
        rw [e0] at q
        simp only [bind_ok] at q
        cases e2 : seqV h3 x with
        | none => rw [e2] at q; cases q
        | some xs =>
          rw [e2] at q
          simp only [ofO_some, bind_ok] at q
          cases e3 : seqV h3 y with
          | none => rw [e3] at q; cases q
          | some ys =>
            rw [e3] at q
            cases q
            exact fun n hn => (List.mem_append.mp hn).elim (isOpen_free _ _ n) (isOpen_free _ _ n)
      | exc a b c => rw [e0] at q; cases q
      | bad => rw [e0] at q; cases q
    | exc a b c => rw [e] at q; cases q
    | bad => rw [e] at q; cases q
  | .enz a b, σ, h => by
    unfold evit
    refine ⟨(kr_ev a false σ h).bind fun x h1 _ => (kr_ev b false σ h1).bind fun y h1 _ => (KR.ofO h1 _).bind fun xs h2 _ => (KR.ofO h2 _).bind fun ys h2 _ => Kept.refl h2, fun p h1 q => ?_⟩
    cases e : ev C a false σ h with
    | ok x h2 =>
      rw [e] at q
      simp only [bind_ok] at q
      cases e0 : ev C b false σ h2 with
      | ok y h3 =>
        rw [e0] at q
        simp only [bind_ok] at q
        cases e2 : seqV h3 x with
        | none => rw [e2] at q; cases q
        | some xs =>
          rw [e2] at q
          simp only [ofO_some, bind_ok] at q
          cases e3 : seqV h3 y with
          | none => rw [e3] at q; cases q
          | some ys =>
            rw [e3] at q
            cases q
            exact fun n hn => (List.mem_append.mp hn).elim (isOpen_free _ _ n) (isOpen_free _ _ n)
      | exc a b c => rw [e0] at q; cases q
      | bad => rw [e0] at q; cases q
    | exc a b c => rw [e] at q; cases q
    | bad => rw [e] at q; cases q
theorem kr_stg : ∀ (t : Tg) (w : W) (σ : Lo) (h : S), KR h (stg C t w σ h)
  | .nm i, w, σ, h => by unfold stg; exact Kept.refl h
  | .tp ts, w, σ, h => by
    unfold stg
    split
    · exact KR.ite (kr_stgs ts _ σ h) (KR.bad h)
    · exact KR.ite (kr_stgs ts _ σ h) (KR.bad h)
    · trivial
  | .sub a i, w, σ, h => by
    unfold stg
    refine (kr_ev a false σ h).bind fun x h1 _ => (kr_ev i false σ h1).bind fun y h2 _ => ?_
    cases x with
    | ref n =>
      refine (KR.ofO h2 _).bind fun k h3 q0 => (KR.ofO h3 _).bind fun xs h4 q => ?_
      cases e : getM h3 n with
      | none => rw [e] at q; cases q
      | some ys =>
        rw [e] at q; cases q
        exact (KR.ofO _ _).bind fun j h5 q2 => by
          cases e2 : ixZ xs.length k with
          | none => rw [e2] at q2; cases q2
          | some j => rw [e2] at q2; cases q2; exact kept_set (getM_free e)
    | d x => trivial
    | exn a b => trivial
theorem kr_stgs : ∀ (t : Tgs) (w : List W) (σ : Lo) (h : S), KR h (stgs C t w σ h)
  | .nil, [], σ, h => by unfold stgs; exact Kept.refl h
  | .nil, _ :: _, σ, h => by unfold stgs; trivial
  | .cons t r, [], σ, h => by unfold stgs; trivial
  | .cons t r, w :: ws, σ, h => by unfold stgs; exact (kr_stg t w σ h).bind fun σ h1 _ => kr_stgs r ws σ h1
end
theorem kr_put {h2 : S} {x : W} {k : W} {z : W} {σ : Lo} : KR h2 (match x with
      | .ref n => (ofO h2 (intW k)).bind fun k h => (ofO h (getM h n)).bind fun xs h => (ofO h (ixZ xs.length k)).bind fun j h => .ok (.nx σ) (h.set n (.lst false (xs.set j z)))
      | _ => .bad : R Fl) := by
  cases x with
  | ref n =>
    refine (KR.ofO h2 _).bind fun k h3 q0 => (KR.ofO h3 _).bind fun xs h4 q => ?_
    cases e : getM h3 n with
    | none => rw [e] at q; cases q
    | some ys =>
      rw [e] at q; cases q
      exact (KR.ofO _ _).bind fun j h5 q2 => by
        cases e2 : ixZ xs.length k with
        | none => rw [e2] at q2; cases q2
        | some j => rw [e2] at q2; cases q2; exact kept_set (getM_free e)
  | d x => trivial
  | exn a b => trivial
mutual
theorem kr_ex : ∀ (s : St) (σ : Lo) (h : S), KR h (ex C s σ h)
  | .asg tg e, σ, h => by unfold ex; exact (kr_ev kc e false σ h).bind fun w h1 _ => (kr_stg kc tg w σ h1).bind fun σ h2 _ => Kept.refl h2
  | .lcs i e, σ, h => by unfold ex; exact (kr_ev kc e false σ h).bind fun w h1 _ => Kept.refl h1
  | .par i j a b, σ, h => by unfold ex; exact (kr_ev kc a false σ h).bind fun x h1 _ => (kr_ev kc b false σ h1).bind fun y h2 _ => Kept.refl h2
  | .aug i e, σ, h => by unfold ex; exact (KR.ofO h _).bind fun x h1 _ => (kr_ev kc e false σ h1).bind fun y h2 _ => (KR.ofO h2 _).bind fun z h3 _ => Kept.refl h3
  | .augS a i e, σ, h => by
    unfold ex
    refine (kr_ev kc a false σ h).bind fun x h1 _ => (kr_ev kc i false σ h1).bind fun k h2 _ => ?_
    cases x with
    | ref n =>
      exact (KR.ofO h2 _).bind fun k h3 _ => (KR.ofO h3 _).bind fun xs h4 _ => (KR.ofO h4 _).bind fun old h5 _ => (kr_ev kc e false σ h5).bind fun y h6 _ => (KR.ofO h6 _).bind fun z h7 _ => by
        cases e1 : getM h7 n with
        | none => trivial
        | some xs =>
          refine (KR.ofO h7 _).bind fun ys h8 q => ?_
          cases q
          refine (KR.ofO h7 _).bind fun j h9 q => ?_
          have : h9 = h7 := by
            cases q2 : ixZ xs.length k with
            | none => rw [q2] at q; cases q
            | some j => rw [q2] at q; cases q; rfl
          subst this
          exact kept_set (getM_free e1)
    | d x => trivial
    | exn a b => trivial
  | .ifs t a b, σ, h => by
    unfold ex
    exact (kr_ev kc t true σ h).bind fun c h1 _ => by
      split
      · exact kr_exs a σ h1
      · exact kr_exs b σ h1
      · trivial
  | .for tg it b, σ, h => by
    unfold ex
    refine (kr_evit kc it σ h).1.bind fun p h1 q => ?_
    exact kr_open ((kr_evit kc it σ h).2 p h1 q) (kept_lockAll _ _) (kr_for (fun x σ h => (kr_stg kc tg x σ h).bind fun σ h2 _ => kr_exs b σ h2) _ _ _)
  | .whl n t b, σ, h => by unfold ex; exact kr_whl (fun σ h => kr_ev kc t true σ h) (fun σ h => kr_exs b σ h) n σ h
  | .ret e, σ, h => by unfold ex; exact (kr_ev kc e false σ h).bind fun w h1 _ => Kept.refl h1
  | .retN, σ, h => by unfold ex; exact Kept.refl h
  | .brk, σ, h => by unfold ex; exact Kept.refl h
  | .cnt, σ, h => by unfold ex; exact Kept.refl h
  | .pass, σ, h => by unfold ex; exact Kept.refl h
  | .expr e, σ, h => by unfold ex; exact (kr_ev kc e false σ h).bind fun w h1 _ => Kept.refl h1
  | .rais k es, σ, h => by
    unfold ex
    exact (kr_evs kc es σ h).bind fun ws h1 _ => (KR.ofO h1 _).bind fun ds h2 _ => Kept.refl h2
  | .nev, σ, h => trivial
theorem kr_exs : ∀ (s : Sts) (σ : Lo) (h : S), KR h (exs C s σ h)
  | .nil, σ, h => by unfold exs; exact Kept.refl h
  | .cons s r, σ, h => by
    unfold exs
    exact (kr_ex s σ h).bind fun f h1 _ => by
      cases f with
      | nx σ => exact kr_exs r σ h1
      | rt w => exact Kept.refl h1
      | bk σ => exact Kept.refl h1
      | ct σ => exact Kept.refl h1
end
end
theorem kept_sweep {h h1 : S} (k : Kept h h1) : Kept h (sweep h.length h1) := fun n xs e => by
  unfold sweep
  have hl := (List.getElem?_eq_some_iff.mp e).1
  split
  · exact k n xs e
  · split
    · rw [List.getElem?_take_of_lt hl]; exact k n xs e
    · exact k n xs e
theorem kr_run (P : Prog) : ∀ n, KC ⟨runFn P n, fun k => P.glbs[k]?⟩
  | 0 => fun k ws h => trivial
  | n + 1 => fun k ws h => by
    show KR h (runFn P (n + 1) k ws h)
    unfold runFn
    cases P.fns[k]? with
    | none => trivial
    | some f =>
      simp only []
      refine KR.ite ?_ (KR.bad _)
      have b := kr_exs (kr_run P n) f.body ((fill f ws).map some ++ List.replicate (f.nLoc - f.nPar) none) h
      split
      · rename_i w h1 e
        rw [e] at b
        unfold leave
        split
        · exact kept_sweep b
        · exact b
      · rename_i σ h1 e
        rw [e] at b
        exact kept_sweep b
      · trivial
      · rename_i e
        rw [e] at b
        exact kept_sweep b
      · trivial
end G

set_option linter.all false
set_option Elab.async false
set_option maxRecDepth 100000
namespace G
open PySem L2

abbrev HV := L2.V
/-- where each changeable thing stands; none: it is no longer told -/
structure LM where
  l : List (Option Addr)
  r : List Addr
/-- told by number, or kept aside -/
def live (m : LM) (a : Addr) : Prop := (∃ n : Nat, m.l[n]? = some (some a)) ∨ a ∈ m.r
abbrev still (m : LM) (a : Addr) : Prop := ¬ live m a

/-- the script -/
def SK (K : PySem.W.Frag) (H : Hp) (a : Addr) (ys : List HV) : Prop :=
  (∃ o, H a = some (.frz o (.lst ys))) ∨ ∃ (o : Obj) (its : Array Value) (n : Nat), K.lookup a = some o ∧ o.cls = .type "list" ∧ o.dict = none ∧ o.data = .seq its n ∧ its.size ≤ sizeLine ∧ Vals ys its.toList
theorem SK.sq {K : PySem.W.Frag} {H : Hp} {a : Addr} {ys : List HV} (h : SK K H a ys) : SqL K H a ys := h.elim (fun q => .inl (.inr q)) .inr
/-- a list that is read and stays: told apart by p -/
def SL (p : Addr → Prop) (H : Hp) (a : Addr) (ys : List HV) : Prop := H a = some (.lst ys) ∧ p a
theorem SL.sq {K : PySem.W.Frag} {p : Addr → Prop} {H : Hp} {a : Addr} {ys : List HV} (h : SL p H a ys) : SqL K H a ys := .of h.1
theorem SL.imp {p q : Addr → Prop} {H : Hp} {a : Addr} {ys : List HV} (hp : ∀ a, p a → q a) (h : SL p H a ys) : SL q H a ys := ⟨h.1, hp a h.2⟩
mutual
def RD (K : PySem.W.Frag) (fa : Nat → Addr) (p : Addr → Prop) (H : Hp) : D → HV → Prop
  | .non, v => v = .non
  | .bl b, v => v = .bl b
  | .int i, v => v = .int i
  | .str s, v => v = .str ⟨s.toArray⟩
  | .tup xs, v => ∃ a ys, v = .ref a ∧ SqT K H a ys ∧ RDs K fa p H xs ys
  | .lst xs, v => ∃ a ys, v = .ref a ∧ SL p H a ys ∧ RDs K fa p H xs ys
  | .fn k, v => v = .ref (fa k)
  | .scr xs, v => ∃ a ys, v = .ref a ∧ SK K H a ys ∧ RDs K fa p H xs ys
def RDs (K : PySem.W.Frag) (fa : Nat → Addr) (p : Addr → Prop) (H : Hp) : List D → List HV → Prop
  | [], ys => ys = []
  | x :: xs, ys => ∃ y r, ys = y :: r ∧ RD K fa p H x y ∧ RDs K fa p H xs r
end
section
variable {K : PySem.W.Frag} {fa : Nat → Addr} {p q : Addr → Prop} {H H' : Hp}
theorem RDs.length : ∀ {xs : List D} {ys : List HV}, RDs K fa p H xs ys → xs.length = ys.length
  | [], ys, h => by
    have e : ys = [] := h
    subst e; rfl
  | x :: xs, ys, h => by
    obtain ⟨y, r, e, _, t⟩ := h
    subst e
    have := RDs.length t
    simp [this]
theorem RDs.get : ∀ {xs : List D} {ys : List HV} {i : Nat} {x : D}, RDs K fa p H xs ys → xs[i]? = some x → ∃ y, ys[i]? = some y ∧ RD K fa p H x y
  | [], _, _, _, _, e => by simp at e
  | x :: xs, ys, 0, z, h, e => by
    obtain ⟨y, r, e1, h1, t⟩ := h
    subst e1
    simp at e; subst e
    exact ⟨y, rfl, h1⟩
  | x :: xs, ys, i + 1, z, h, e => by
    obtain ⟨y, r, e1, h1, t⟩ := h
    subst e1
    obtain ⟨y', h2, h3⟩ := RDs.get (i := i) t (by simpa using e)
    exact ⟨y', by simpa using h2, h3⟩
theorem RDs.app : ∀ {xs xs' : List D} {ys ys' : List HV}, RDs K fa p H xs ys → RDs K fa p H xs' ys' → RDs K fa p H (xs ++ xs') (ys ++ ys')
  | [], _, ys, _, h, h' => by
    have e : ys = [] := h
    subst e; exact h'
  | x :: xs, _, ys, _, h, h' => by
    obtain ⟨y, r, e, h1, t⟩ := h
    subst e
    exact ⟨y, r ++ _, rfl, h1, RDs.app t h'⟩
theorem RDs.one {x : D} {y : HV} (h : RD K fa p H x y) : RDs K fa p H [x] [y] := ⟨y, [], rfl, h, rfl⟩
theorem RDs.drop : ∀ (n : Nat) {xs : List D} {ys : List HV}, RDs K fa p H xs ys → RDs K fa p H (xs.drop n) (ys.drop n)
  | 0, _, _, h => h
  | n + 1, [], ys, h => by
    have e : ys = [] := h
    subst e; exact rfl
  | n + 1, x :: xs, ys, h => by
    obtain ⟨y, r, e, h1, t⟩ := h
    subst e
    exact RDs.drop n t
theorem RDs.take : ∀ (n : Nat) {xs : List D} {ys : List HV}, RDs K fa p H xs ys → RDs K fa p H (xs.take n) (ys.take n)
  | 0, _, _, h => by simp [RDs]
  | n + 1, [], ys, h => by
    have e : ys = [] := h
    subst e; exact rfl
  | n + 1, x :: xs, ys, h => by
    obtain ⟨y, r, e, h1, t⟩ := h
    subst e
    exact ⟨y, r.take n, rfl, h1, RDs.take n t⟩
theorem RDs.cutL {xs : List D} {ys : List HV} (lo hi : Option Int) (h : RDs K fa p H xs ys) : RDs K fa p H (cutL xs lo hi) (G.cutL ys lo hi) := by
  unfold G.cutL
  rw [h.length]
  exact RDs.take _ (RDs.drop _ h)
theorem RDs.rep {xs : List D} {ys : List HV} (h : RDs K fa p H xs ys) : ∀ n : Nat, RDs K fa p H (List.replicate n xs).flatten (List.replicate n ys).flatten
  | 0 => rfl
  | n + 1 => by
    rw [List.replicate_succ, List.replicate_succ, List.flatten_cons, List.flatten_cons]
    exact h.app (RDs.rep h n)
mutual
theorem RD.imp (hp : ∀ a, p a → q a) : ∀ (x : D) (v : HV), RD K fa p H x v → RD K fa q H x v
  | .non, v, h => h
  | .bl b, v, h => h
  | .int i, v, h => h
  | .str s, v, h => h
  | .tup xs, v, h => by
    obtain ⟨a, ys, e, h1, h2⟩ := h
    exact ⟨a, ys, e, h1, RDs.imp hp xs ys h2⟩
  | .lst xs, v, h => by
    obtain ⟨a, ys, e, h1, h2⟩ := h
    exact ⟨a, ys, e, h1.imp hp, RDs.imp hp xs ys h2⟩
  | .fn k, v, h => h
  | .scr xs, v, h => by
    obtain ⟨a, ys, e, h1, h2⟩ := h
    exact ⟨a, ys, e, h1, RDs.imp hp xs ys h2⟩
theorem RDs.imp (hp : ∀ a, p a → q a) : ∀ (xs : List D) (ys : List HV), RDs K fa p H xs ys → RDs K fa q H xs ys
  | [], _, h => h
  | x :: xs, ys, h => by
    obtain ⟨y, r, e, h1, t⟩ := h
    exact ⟨y, r, e, RD.imp hp x y h1, RDs.imp hp xs r t⟩
end
mutual
/-- what is read stands on where its tuples and lists do -/
theorem RD.go (ht : ∀ a ys, SqT K H a ys → SqT K H' a ys) (hl : ∀ a ys, SL p H a ys → SL q H' a ys) (hk : ∀ a ys, SK K H a ys → SK K H' a ys) : ∀ (x : D) (v : HV), RD K fa p H x v → RD K fa q H' x v
  | .non, v, h => h
  | .bl b, v, h => h
  | .int i, v, h => h
  | .str s, v, h => h
  | .tup xs, v, h => by
    obtain ⟨a, ys, e, h1, h2⟩ := h
    exact ⟨a, ys, e, ht a ys h1, RDs.go ht hl hk xs ys h2⟩
  | .lst xs, v, h => by
    obtain ⟨a, ys, e, h1, h2⟩ := h
    exact ⟨a, ys, e, hl a ys h1, RDs.go ht hl hk xs ys h2⟩
  | .fn k, v, h => h
  | .scr xs, v, h => by
    obtain ⟨a, ys, e, h1, h2⟩ := h
    exact ⟨a, ys, e, hk a ys h1, RDs.go ht hl hk xs ys h2⟩
theorem RDs.go (ht : ∀ a ys, SqT K H a ys → SqT K H' a ys) (hl : ∀ a ys, SL p H a ys → SL q H' a ys) (hk : ∀ a ys, SK K H a ys → SK K H' a ys) : ∀ (xs : List D) (ys : List HV), RDs K fa p H xs ys → RDs K fa q H' xs ys
  | [], _, h => h
  | x :: xs, ys, h => by
    obtain ⟨y, r, e, h1, t⟩ := h
    exact ⟨y, r, e, RD.go ht hl hk x y h1, RDs.go ht hl hk xs r t⟩
end
end

/-! ### values, things, heaps -/
def WR (K : PySem.W.Frag) (fa : Nat → Addr) (m : LM) (H : Hp) : W → HV → Prop
  | .d x, v => RD K fa (still m) H x v
  | .ref n, v => n < m.l.length ∧ ∀ a, m.l[n]? = some (some a) → v = .ref a
  | .exn _ _, _ => False
def WRs (K : PySem.W.Frag) (fa : Nat → Addr) (m : LM) (H : Hp) : List W → List HV → Prop := Paired (WR K fa m H)
def CR (K : PySem.W.Frag) (fa : Nat → Addr) (m : LM) (H : Hp) : Cell → Option Addr → Prop
  | .dead, o => o = none
  | .lst _ xs, o => ∃ a ys, o = some a ∧ H a = some (.lst ys) ∧ WRs K fa m H xs ys
  | .dct _ _, _ => False
  | .ins _ _, _ => False
structure Lk (K : PySem.W.Frag) (fa : Nat → Addr) (m : LM) (h : S) (H : Hp) : Prop where
  len : m.l.length = h.length
  inj : ∀ (i j : Nat) (a : Addr), m.l[i]? = some (some a) → m.l[j]? = some (some a) → i = j
  dis : ∀ (i : Nat) (a : Addr), m.l[i]? = some (some a) → a ∉ m.r
  rsv : ∀ a ∈ m.r, ∃ ys, H a = some (.lst ys)
  cell : ∀ (n : Nat) (c : Cell), h[n]? = some c → ∃ o, m.l[n]? = some o ∧ CR K fa m H c o
structure Step (m : LM) (H : Hp) (m1 : LM) (H1 : Hp) : Prop where
  len : m.l.length ≤ m1.l.length
  live : ∀ (n : Nat) (a : Addr), n < m.l.length → m1.l[n]? = some (some a) → m.l[n]? = some (some a)
  keep : ∀ (a : Addr) (o : HO), H a = some o → ¬ G.live m a → H1 a = some o ∧ ¬ G.live m1 a
  res : m1.r = m.r
  same : ∀ a ∈ m.r, ∀ o, H a = some o → H1 a = some o

section
variable {K : PySem.W.Frag} {fa : Nat → Addr} {m m1 m2 : LM} {h h1 : S} {H H1 H2 : Hp}
theorem Step.refl : Step m H m H := ⟨Nat.le_refl _, fun _ _ _ e => e, fun _ _ e n => ⟨e, n⟩, rfl, fun _ _ _ e => e⟩
theorem Step.trans (a : Step m H m1 H1) (b : Step m1 H1 m2 H2) : Step m H m2 H2 :=
  ⟨Nat.le_trans a.len b.len, fun n c hn e => a.live n c hn (b.live n c (Nat.lt_of_lt_of_le hn a.len) e), fun c o e n => b.keep c o (a.keep c o e n).1 (a.keep c o e n).2, b.res.trans a.res, fun c hc o e => b.same c (a.res ▸ hc) o (a.same c hc o e)⟩
theorem Step.new {p : Addr} {o : HO} (hp : H p = none) : Step m H m (upd H p o) :=
  ⟨Nat.le_refl _, fun _ _ _ e => e, fun a u e n => ⟨by rw [upd_ne (ne_of_none e hp)]; exact e, n⟩, rfl, fun a _ u e => by rw [upd_ne (ne_of_none e hp)]; exact e⟩
theorem Step.alloc {p : Addr} {o : HO} (hp : H p = none) : Step m H ⟨m.l ++ [some p], m.r⟩ (upd H p o) := by
  refine ⟨by simp, fun n a hn e => ?_, fun a u e n => ⟨by rw [upd_ne (ne_of_none e hp)]; exact e, ?_⟩, rfl, fun a _ u e => by rw [upd_ne (ne_of_none e hp)]; exact e⟩
  · rw [List.getElem?_append_left hn] at e; exact e
  · rintro (⟨k, hk⟩ | hk)
    case inr => exact n (.inr hk)
    by_cases hn : k < m.l.length
    · rw [List.getElem?_append_left hn] at hk; exact n (.inl ⟨k, hk⟩)
    · rw [List.getElem?_append_right (Nat.le_of_not_lt hn)] at hk
      have : k - m.l.length = 0 := by
        cases z : k - m.l.length with
        | zero => rfl
        | succ j => rw [z] at hk; simp at hk
      rw [this] at hk
      simp at hk
      exact ne_of_none e hp hk.symm
theorem Step.write {n : Nat} {p : Addr} {o : HO} (lk : Lk K fa m h H) (hn : m.l[n]? = some (some p)) : Step m H m (upd H p o) :=
  ⟨Nat.le_refl _, fun _ _ _ e => e, fun a u e k => ⟨by rw [upd_ne (fun z => k (.inl ⟨n, by rw [z]; exact hn⟩))]; exact e, k⟩, rfl, fun a ha u e => by rw [upd_ne (fun z : a = p => lk.dis n p hn (z ▸ ha))]; exact e⟩
theorem Step.kill {n : Nat} : Step m H ⟨m.l.set n none, m.r⟩ H := by
  refine ⟨by simp, fun k a hk e => ?_, fun a o e nl => ⟨e, ?_⟩, rfl, fun _ _ _ e => e⟩
  · by_cases z : n = k
    · subst z; rw [List.getElem?_set_self hk] at e; cases e
    · rw [List.getElem?_set_ne z] at e; exact e
  · rintro (⟨k, hk⟩ | hk)
    case inr => exact nl (.inr hk)
    by_cases z : n = k
    · subst z
      by_cases hl : n < m.l.length
      · rw [List.getElem?_set_self hl] at hk; cases hk
      · rw [List.getElem?_eq_none (by simpa using hl)] at hk; cases hk
    · rw [List.getElem?_set_ne z] at hk; exact nl (.inl ⟨k, hk⟩)
theorem Step.cut (st : Step m H m1 H1) : Step m H ⟨m1.l.take m.l.length, m1.r⟩ H1 := by
  refine ⟨by rw [List.length_take]; exact Nat.le_min.mpr ⟨Nat.le_refl _, st.len⟩, fun n a hn e => ?_, fun a o e nl => ⟨(st.keep a o e nl).1, ?_⟩, st.res, st.same⟩
  · rw [List.getElem?_take_of_lt hn] at e; exact st.live n a hn e
  · rintro (⟨k, hk⟩ | hk)
    case inr => exact (st.keep a o e nl).2 (.inr hk)
    by_cases z : k < m.l.length
    · rw [List.getElem?_take_of_lt z] at hk; exact (st.keep a o e nl).2 (.inl ⟨k, hk⟩)
    · rw [List.getElem?_eq_none (by rw [List.length_take]; omega)] at hk; cases hk

/-- what stands at a live address -/
theorem Lk.at (lk : Lk K fa m h H) {a : Addr} (l : live m a) : ∃ ys : List HV, H a = some (.lst ys) := by
  rcases l with ⟨n, hn⟩ | l
  case inr => exact lk.rsv a l
  have hl : n < h.length := by rw [← lk.len]; exact (List.getElem?_eq_some_iff.mp hn).1
  obtain ⟨o, ho, cr⟩ := lk.cell n h[n] (by simp [hl])
  rw [hn] at ho
  cases ho
  cases hc : h[n] with
  | dead => rw [hc] at cr; cases (show some a = none from cr)
  | lst b xs =>
    rw [hc] at cr
    obtain ⟨a', ys, e, e2, _⟩ := cr
    cases e
    exact ⟨ys, e2⟩
  | dct b kvs => rw [hc] at cr; exact False.elim cr
  | ins c fs => rw [hc] at cr; exact False.elim cr
theorem Lk.notT (lk : Lk K fa m h H) {a : Addr} {u : HO} (e : H a = some u) (ne : ∀ ys, u ≠ .lst ys) : ¬ live m a := fun l => by
  obtain ⟨ys, e2⟩ := lk.at l
  rw [e] at e2; cases e2
  exact ne _ rfl
/-- .. whatever is kept aside by then -/
structure StepW (m : LM) (H : Hp) (m1 : LM) (H1 : Hp) : Prop where
  live : ∀ (n : Nat) (a : Addr), n < m.l.length → m1.l[n]? = some (some a) → m.l[n]? = some (some a)
  keep : ∀ (a : Addr) (o : HO), H a = some o → ¬ G.live m a → H1 a = some o ∧ ¬ G.live m1 a
theorem Step.w (st : Step m H m1 H1) : StepW m H m1 H1 := ⟨st.live, st.keep⟩
theorem StepW.sqT (lk : Lk K fa m h H) (st : StepW m H m1 H1) {a : Addr} {ys : List HV} (s : SqT K H a ys) : SqT K H1 a ys := by
  rcases s with (s | ⟨o, s⟩) | s
  · exact .inl (.inl (st.keep a _ s (lk.notT s fun _ z => nomatch z)).1)
  · exact .inl (.inr ⟨o, (st.keep a _ s (lk.notT s fun _ z => nomatch z)).1⟩)
  · exact .inr s
theorem StepW.sqL (st : StepW m H m1 H1) {a : Addr} {ys : List HV} (s : SL (still m) H a ys) : SL (still m1) H1 a ys := st.keep a _ s.1 s.2
theorem StepW.sk (lk : Lk K fa m h H) (st : StepW m H m1 H1) {a : Addr} {ys : List HV} (s : SK K H a ys) : SK K H1 a ys := by
  rcases s with ⟨o, s⟩ | s
  · exact .inl ⟨o, (st.keep a _ s (lk.notT s fun _ z => nomatch z)).1⟩
  · exact .inr s
theorem RDs.stepW (lk : Lk K fa m h H) (st : StepW m H m1 H1) {x : List D} {v : List HV} (r : RDs K fa (still m) H x v) : RDs K fa (still m1) H1 x v :=
  RDs.go (fun _ _ s => st.sqT lk s) (fun _ _ s => st.sqL s) (fun _ _ s => st.sk lk s) x v r
theorem RD.step (lk : Lk K fa m h H) (st : Step m H m1 H1) {x : D} {v : HV} (r : RD K fa (still m) H x v) : RD K fa (still m1) H1 x v :=
  RD.go (fun _ _ s => st.w.sqT lk s) (fun _ _ s => st.w.sqL s) (fun _ _ s => st.w.sk lk s) x v r
theorem RDs.step (lk : Lk K fa m h H) (st : Step m H m1 H1) {x : List D} {v : List HV} (r : RDs K fa (still m) H x v) : RDs K fa (still m1) H1 x v := r.stepW lk st.w
theorem sqT_go (lk : Lk K fa m h H) (st : Step m H m1 H1) {a : Addr} {ys : List HV} (s : SqT K H a ys) : SqT K H1 a ys := st.w.sqT lk s
theorem sqL_go (st : Step m H m1 H1) {a : Addr} {ys : List HV} (s : SL (still m) H a ys) : SL (still m1) H1 a ys := st.w.sqL s
theorem sk_go (lk : Lk K fa m h H) (st : Step m H m1 H1) {a : Addr} {ys : List HV} (s : SK K H a ys) : SK K H1 a ys := st.w.sk lk s
theorem WR.step (lk : Lk K fa m h H) (st : Step m H m1 H1) {x : W} {v : HV} (r : WR K fa m H x v) : WR K fa m1 H1 x v := by
  cases x with
  | d x => exact RD.step lk st r
  | ref n => exact ⟨Nat.lt_of_lt_of_le r.1 st.len, fun a e => r.2 a (st.live n a r.1 e)⟩
  | exn k ds => exact r
theorem WRs.step (lk : Lk K fa m h H) (st : Step m H m1 H1) {x : List W} {v : List HV} (r : WRs K fa m H x v) : WRs K fa m1 H1 x v :=
  Paired.mapP r fun _ _ q => WR.step lk st q
theorem WRs.length {x : List W} {v : List HV} (r : WRs K fa m H x v) : x.length = v.length := Paired.length r
theorem CR.step (lk : Lk K fa m h H) (st : Step m H m1 H1) {c : Cell} {o : Option Addr} (r : CR K fa m H c o) (k : ∀ a, o = some a → ∀ ys, H a = some (.lst ys) → H1 a = some (.lst ys)) : CR K fa m1 H1 c o := by
  cases c with
  | dead => exact r
  | lst b xs =>
    obtain ⟨a, ys, e, e2, w⟩ := r
    exact ⟨a, ys, e, k a e ys e2, w.step lk st⟩
  | dct b kvs => exact r
  | ins c fs => exact r
/-- something new that is not told -/
theorem Lk.new (lk : Lk K fa m h H) {p : Addr} {o : HO} (hp : H p = none) : Lk K fa m h (upd H p o) :=
  ⟨lk.len, lk.inj, lk.dis, fun a ha => let ⟨ys, e⟩ := lk.rsv a ha; ⟨ys, by rw [upd_ne (ne_of_none e hp)]; exact e⟩, fun n c e => by
    obtain ⟨u, hu, cr⟩ := lk.cell n c e
    exact ⟨u, hu, cr.step lk (Step.new hp) fun a _ ys q => by rw [upd_ne (ne_of_none q hp)]; exact q⟩⟩
/-- a new list that may change -/
theorem Lk.alloc (lk : Lk K fa m h H) {p : Addr} {xs : List W} {ys : List HV} {b : Bool} (hp : H p = none) (w : WRs K fa m H xs ys) : Lk K fa ⟨m.l ++ [some p], m.r⟩ (h ++ [.lst b xs]) (upd H p (.lst ys)) := by
  have st : Step m H ⟨m.l ++ [some p], m.r⟩ (upd H p (.lst ys)) := Step.alloc hp
  have nl : ∀ i : Nat, m.l[i]? ≠ some (some p) := fun i e => by
    obtain ⟨zs, e2⟩ := lk.at (.inl ⟨i, e⟩)
    rw [hp] at e2; cases e2
  refine ⟨by simp [lk.len], fun i j a hi hj => ?_, fun i a hi => ?_, fun a ha => let ⟨ys, e⟩ := lk.rsv a ha; ⟨ys, by rw [upd_ne (ne_of_none e hp)]; exact e⟩, fun n c e => ?_⟩
  · by_cases a1 : i < m.l.length
    · rw [List.getElem?_append_left a1] at hi
      by_cases a2 : j < m.l.length
      · rw [List.getElem?_append_left a2] at hj; exact lk.inj i j a hi hj
      · rw [List.getElem?_append_right (Nat.le_of_not_lt a2)] at hj
        have z := List.mem_of_getElem? hj
        simp at z; subst z
        exact absurd hi (nl i)
    · rw [List.getElem?_append_right (Nat.le_of_not_lt a1)] at hi
      have z := List.mem_of_getElem? hi
      simp at z; subst z
      by_cases a2 : j < m.l.length
      · rw [List.getElem?_append_left a2] at hj; exact absurd hj (nl j)
      · have l1 := (List.getElem?_eq_some_iff.mp hi).1
        rw [List.getElem?_append_right (Nat.le_of_not_lt a2)] at hj
        have l2 := (List.getElem?_eq_some_iff.mp hj).1
        simp at l1 l2
        omega
  · by_cases a1 : i < m.l.length
    · rw [List.getElem?_append_left a1] at hi; exact lk.dis i a hi
    · rw [List.getElem?_append_right (Nat.le_of_not_lt a1)] at hi
      have z := List.mem_of_getElem? hi
      simp at z; subst z
      intro ha
      obtain ⟨ys, e⟩ := lk.rsv a ha
      rw [hp] at e; cases e
  · by_cases a1 : n < h.length
    · rw [List.getElem?_append_left a1] at e
      obtain ⟨u, hu, cr⟩ := lk.cell n c e
      refine ⟨u, by rw [List.getElem?_append_left (by rw [lk.len]; exact a1)]; exact hu, cr.step lk st fun a _ zs q => by rw [upd_ne (ne_of_none q hp)]; exact q⟩
    · rw [List.getElem?_append_right (Nat.le_of_not_lt a1)] at e
      have l1 := (List.getElem?_eq_some_iff.mp e).1
      have z := List.mem_of_getElem? e
      simp at z l1; subst z
      have n0 : n = m.l.length := by rw [lk.len]; omega
      subst n0
      exact ⟨some p, by simp, p, ys, rfl, upd_same, w.step lk st⟩
/-- a told list is written -/
theorem Lk.write (lk : Lk K fa m h H) {n : Nat} {p : Addr} {xs : List W} {ys : List HV} {b : Bool} (hn : m.l[n]? = some (some p)) (w : WRs K fa m H xs ys) : Lk K fa m (h.set n (.lst b xs)) (upd H p (.lst ys)) := by
  have st : Step m H m (upd H p (.lst ys)) := Step.write lk hn
  refine ⟨by simp [lk.len], lk.inj, lk.dis, fun a ha => let ⟨zs, e⟩ := lk.rsv a ha; ⟨zs, st.same a ha _ e⟩, fun k c e => ?_⟩
  by_cases z : n = k
  · subst z
    have hl : n < h.length := by rw [← lk.len]; exact (List.getElem?_eq_some_iff.mp hn).1
    rw [List.getElem?_set_self hl] at e
    cases e
    exact ⟨some p, hn, p, ys, rfl, upd_same, w.step lk st⟩
  · rw [List.getElem?_set_ne z] at e
    obtain ⟨u, hu, cr⟩ := lk.cell k c e
    refine ⟨u, hu, cr.step lk st fun a ea zs q => ?_⟩
    rw [upd_ne]
    · exact q
    · intro y
      subst y; subst ea
      exact z (lk.inj n k a hn hu)
/-- only marked otherwise -/
theorem Lk.mark (lk : Lk K fa m h H) {n : Nat} {b b' : Bool} {xs : List W} (e0 : h[n]? = some (.lst b xs)) : Lk K fa m (h.set n (.lst b' xs)) H := by
  refine ⟨by simp [lk.len], lk.inj, lk.dis, lk.rsv, fun k c e => ?_⟩
  by_cases z : n = k
  · subst z
    rw [List.getElem?_set_self (List.getElem?_eq_some_iff.mp e0).1] at e
    cases e
    obtain ⟨o, ho, cr⟩ := lk.cell n _ e0
    exact ⟨o, ho, cr⟩
  · rw [List.getElem?_set_ne z] at e
    exact lk.cell k c e
theorem Lk.kill (lk : Lk K fa m h H) (n : Nat) : Lk K fa ⟨m.l.set n none, m.r⟩ (h.set n .dead) H := by
  have back : ∀ (a : Addr) (i : Nat), (m.l.set n none)[i]? = some (some a) → m.l[i]? = some (some a) := fun a i q => by
    by_cases z : n = i
    · subst z
      by_cases hl : n < m.l.length
      · rw [List.getElem?_set_self hl] at q; cases q
      · rw [List.getElem?_eq_none (by simpa using hl)] at q; cases q
    · rw [List.getElem?_set_ne z] at q; exact q
  refine ⟨by simp [lk.len], fun i j a hi hj => lk.inj i j a (back a i hi) (back a j hj), fun i a hi => lk.dis i a (back a i hi), lk.rsv, fun k c e => ?_⟩
  · by_cases z : n = k
    · subst z
      have hl : n < h.length := by have := (List.getElem?_eq_some_iff.mp e).1; simpa using this
      rw [List.getElem?_set_self hl] at e
      cases e
      exact ⟨none, by rw [List.getElem?_set_self (by rw [lk.len]; exact hl)], rfl⟩
    · rw [List.getElem?_set_ne z] at e
      obtain ⟨u, hu, cr⟩ := lk.cell k c e
      exact ⟨u, by rw [List.getElem?_set_ne z]; exact hu, cr.step lk Step.kill fun _ _ _ q => q⟩
theorem lowW_of {n : Nat} : ∀ {xs : List W} {ys : List HV}, WRs K fa m H xs ys → (xs.all (lowW n)) = true → n ≤ m.l.length → WRs K fa ⟨m.l.take n, m.r⟩ H xs ys
  | _, _, .nil, _, _ => .nil
  | _, _, .cons r t, e, hn => by
    rw [List.all_cons, Bool.and_eq_true] at e
    refine .cons ?_ (lowW_of t e.2 hn)
    rename_i x y xs ys
    cases x with
    | d x =>
      exact RD.imp (fun a hs hl => hs (hl.elim (fun ⟨k, hk⟩ => .inl ⟨k, by
        by_cases z : k < n
        · rw [List.getElem?_take_of_lt z] at hk; exact hk
        · rw [List.getElem?_eq_none (by rw [List.length_take]; omega)] at hk; cases hk⟩) .inr)) _ _ r
    | ref k =>
      have hk : k < n := by simpa [lowW] using e.1
      exact ⟨by rw [List.length_take]; omega, fun a q => r.2 a (by rw [List.getElem?_take_of_lt hk] at q; exact q)⟩
    | exn k ds => exact r
theorem Lk.cut (lk : Lk K fa m h H) {n : Nat} (hn : n ≤ h.length) (low : ((h.take n).all (lowC n)) = true) : Lk K fa ⟨m.l.take n, m.r⟩ (h.take n) H := by
  have hm : n ≤ m.l.length := by rw [lk.len]; exact hn
  have back : ∀ (a : Addr) (i : Nat), (m.l.take n)[i]? = some (some a) → m.l[i]? = some (some a) := fun a i q => by
    by_cases z : i < n
    · rw [List.getElem?_take_of_lt z] at q; exact q
    · rw [List.getElem?_eq_none (by rw [List.length_take]; omega)] at q; cases q
  refine ⟨by rw [List.length_take, List.length_take, lk.len], fun i j a hi hj => lk.inj i j a (back a i hi) (back a j hj), fun i a hi => lk.dis i a (back a i hi), lk.rsv, fun k c e => ?_⟩
  · have z : k < n := by
      have := (List.getElem?_eq_some_iff.mp e).1
      rw [List.length_take] at this; omega
    have lc : lowC n c = true := List.all_eq_true.mp low c (List.mem_of_getElem? e)
    rw [List.getElem?_take_of_lt z] at e
    obtain ⟨u, hu, cr⟩ := lk.cell k c e
    refine ⟨u, by rw [List.getElem?_take_of_lt z]; exact hu, ?_⟩
    cases c with
    | dead => exact cr
    | lst b xs =>
      obtain ⟨a, ys, e1, e2, w⟩ := cr
      exact ⟨a, ys, e1, e2, lowW_of w lc hm⟩
    | dct b kvs => exact cr
    | ins c fs => exact cr
/-- a new list is kept aside -/
theorem Lk.aside (lk : Lk K fa m h H) {p : Addr} {ys : List HV} (hp : H p = none) : Lk K fa ⟨m.l, p :: m.r⟩ h (upd H p (.lst ys)) ∧ (∀ x v, WR K fa m H x v → WR K fa ⟨m.l, p :: m.r⟩ (upd H p (.lst ys)) x v) := by
  have lk1 : Lk K fa m h (upd H p (.lst ys)) := lk.new hp
  have st : Step m H m (upd H p (.lst ys)) := Step.new hp
  have up : ∀ x v, WR K fa m H x v → WR K fa ⟨m.l, p :: m.r⟩ (upd H p (.lst ys)) x v := fun x v r => by
    cases x with
    | d x =>
      refine RD.go (fun _ _ s => sqT_go lk st s) (fun a zs s => ?_) (fun _ _ s => sk_go lk st s) x v r
      obtain ⟨e, k⟩ := s
      have ne := ne_of_none e hp
      refine ⟨by rw [upd_ne ne]; exact e, fun hl => ?_⟩
      rcases hl with hl | hl
      · exact k (.inl hl)
      · rcases List.mem_cons.mp hl with z | z
        · exact ne z
        · exact k (.inr z)
    | ref n => exact r
    | exn _ _ => exact r
  refine ⟨⟨lk.len, lk.inj, fun i a hi ha => ?_, fun a ha => ?_, fun n c e => ?_⟩, up⟩
  · rcases List.mem_cons.mp ha with z | z
    · subst z
      obtain ⟨zs, e⟩ := lk.at (.inl ⟨i, hi⟩)
      rw [hp] at e; cases e
    · exact lk.dis i a hi z
  · rcases List.mem_cons.mp ha with z | z
    · subst z; exact ⟨ys, upd_same⟩
    · exact lk1.rsv a z
  · obtain ⟨u, hu, cr⟩ := lk.cell n c e
    refine ⟨u, hu, ?_⟩
    cases c with
    | dead => exact cr
    | lst b xs =>
      obtain ⟨a, zs, e1, e2, w⟩ := cr
      exact ⟨a, zs, e1, by rw [upd_ne (ne_of_none e2 hp)]; exact e2, Paired.mapP w fun _ _ q => up _ _ q⟩
    | dct b kvs => exact cr
    | ins c fs => exact cr
theorem RD.less {p : Addr} {x : D} {v : HV} (r : RD K fa (still ⟨m.l, p :: m.r⟩) H x v) : RD K fa (still m) H x v :=
  RD.imp (fun _ k hl => k (hl.elim .inl fun z => .inr (List.mem_cons_of_mem _ z))) x v r
theorem WR.less {p : Addr} {x : W} {v : HV} (r : WR K fa ⟨m.l, p :: m.r⟩ H x v) : WR K fa m H x v := by
  cases x with
  | d x => exact RD.less r
  | ref n => exact r
  | exn _ _ => exact r
theorem Lk.less {p : Addr} (lk : Lk K fa ⟨m.l, p :: m.r⟩ h H) : Lk K fa m h H := by
  refine ⟨lk.len, lk.inj, fun i a hi ha => lk.dis i a hi (List.mem_cons_of_mem _ ha), fun a ha => lk.rsv a (List.mem_cons_of_mem _ ha), fun n c e => ?_⟩
  obtain ⟨u, hu, cr⟩ := lk.cell n c e
  refine ⟨u, hu, ?_⟩
  cases c with
  | dead => exact cr
  | lst b xs =>
    obtain ⟨a, zs, e1, e2, w⟩ := cr
    exact ⟨a, zs, e1, e2, Paired.mapP w fun _ _ q => q.less⟩
  | dct b kvs => exact cr
  | ins c fs => exact cr
/-- what is kept aside is written -/
theorem Lk.wset {p : Addr} {ys : List HV} (lk : Lk K fa ⟨m.l, p :: m.r⟩ h H) : Lk K fa ⟨m.l, p :: m.r⟩ h (upd H p (.lst ys)) ∧ (∀ x v, RD K fa (still ⟨m.l, p :: m.r⟩) H x v → RD K fa (still ⟨m.l, p :: m.r⟩) (upd H p (.lst ys)) x v) := by
  have lp : live ⟨m.l, p :: m.r⟩ p := .inr (List.mem_cons_self ..)
  have up : ∀ x v, RD K fa (still ⟨m.l, p :: m.r⟩) H x v → RD K fa (still ⟨m.l, p :: m.r⟩) (upd H p (.lst ys)) x v := fun x v r => by
    have nt : ∀ (a : Addr) (u : HO), H a = some u → (∀ ys, u ≠ .lst ys) → a ≠ p := fun a u e ne z => lk.notT e ne (z ▸ lp)
    refine RD.go (fun a zs s => ?_) (fun a zs s => ?_) (fun a zs s => ?_) x v r
    · rcases s with (s | ⟨o, s⟩) | s
      · exact .inl (.inl (by rw [upd_ne (nt a _ s fun _ z => nomatch z)]; exact s))
      · exact .inl (.inr ⟨o, by rw [upd_ne (nt a _ s fun _ z => nomatch z)]; exact s⟩)
      · exact .inr s
    · exact ⟨by rw [upd_ne (fun z : a = p => s.2 (z ▸ lp))]; exact s.1, s.2⟩
    · rcases s with ⟨o, s⟩ | s
      · exact .inl ⟨o, by rw [upd_ne (nt a _ s fun _ z => nomatch z)]; exact s⟩
      · exact .inr s
  refine ⟨⟨lk.len, lk.inj, lk.dis, fun a ha => ?_, fun n c e => ?_⟩, up⟩
  · by_cases z : a = p
    · subst z; exact ⟨ys, upd_same⟩
    · obtain ⟨zs, e⟩ := lk.rsv a ha
      exact ⟨zs, by rw [upd_ne z]; exact e⟩
  · obtain ⟨u, hu, cr⟩ := lk.cell n c e
    refine ⟨u, hu, ?_⟩
    cases c with
    | dead => exact cr
    | lst b xs =>
      obtain ⟨a, zs, e1, e2, w⟩ := cr
      subst e1
      refine ⟨a, zs, rfl, by rw [upd_ne (fun z : a = p => lk.dis n a hu (z ▸ List.mem_cons_self ..))]; exact e2, Paired.mapP w fun x y q => ?_⟩
      cases x with
      | d x => exact up x y q
      | ref n => exact q
      | exn _ _ => exact q
    | dct b kvs => exact cr
    | ins c fs => exact cr
/-- steps beside it, seen from ahead of it -/
theorem Step.aside {p : Addr} {ys : List HV} (hp : H p = none) : Step m H m (upd H p (.lst ys)) := Step.new hp
theorem Step.wide {p : Addr} {l1 : List (Option Addr)} (hp : H p = none) (st : Step m H ⟨l1, m.r⟩ H1) : StepW m H ⟨l1, p :: m.r⟩ H1 :=
  ⟨st.live, fun a u e k => ⟨(st.keep a u e k).1, fun hl => hl.elim (fun z => (st.keep a u e k).2 (.inl z)) fun z => (List.mem_cons.mp z).elim (ne_of_none e hp) fun z => (st.keep a u e k).2 (.inr z)⟩⟩
theorem Step.less {p : Addr} {o : HO} {l1 l2 : List (Option Addr)} (hp : H p = none) (st : Step m H ⟨l1, m.r⟩ H1) (st2 : Step ⟨l1, p :: m.r⟩ H1 ⟨l2, p :: m.r⟩ H2) : Step m H ⟨l2, m.r⟩ (upd H2 p o) := by
  refine ⟨Nat.le_trans st.len st2.len, fun n a hn e => st.live n a hn (st2.live n a (Nat.lt_of_lt_of_le hn st.len) e), fun a u e k => ?_, rfl, fun a ha u e => ?_⟩
  · have ne := ne_of_none e hp
    obtain ⟨e1, k1⟩ := st.keep a u e k
    obtain ⟨e2, k2⟩ := st2.keep a u e1 (fun hl => hl.elim (fun z => k1 (.inl z)) fun z => (List.mem_cons.mp z).elim ne fun z => k1 (.inr z))
    exact ⟨by rw [upd_ne ne]; exact e2, fun hl => k2 (hl.elim .inl fun z => .inr (List.mem_cons_of_mem _ z))⟩
  · rw [upd_ne (ne_of_none e hp)]
    exact st2.same a (List.mem_cons_of_mem _ ha) u (st.same a ha u e)
/-- the swept heap -/
theorem Lk.sweep (lk : Lk K fa m1 h1 H1) (st : Step m H m1 H1) {n : Nat} (hn : m.l.length = n) : ∃ m2, Lk K fa m2 (sweep n h1) H1 ∧ Step m H m2 H1 ∧ ∀ x v, RD K fa (still m1) H1 x v → RD K fa (still m2) H1 x v := by
  subst hn
  unfold G.sweep
  split
  · exact ⟨m1, lk, st, fun _ _ r => r⟩
  · split
    · rename_i e
      refine ⟨⟨m1.l.take m.l.length, m1.r⟩, lk.cut (by rw [← lk.len]; exact st.len) e, st.cut, fun x v r => RD.imp (fun a hs hl => hs (hl.elim (fun ⟨k, hk⟩ => .inl ⟨k, ?_⟩) .inr)) x v r⟩
      by_cases z : k < m.l.length
      · rw [List.getElem?_take_of_lt z] at hk; exact hk
      · rw [List.getElem?_eq_none (by rw [List.length_take]; omega)] at hk; cases hk
    · exact ⟨m1, lk, st, fun _ _ r => r⟩
end

/-! ### what is read of a value -/
section
variable {K : PySem.W.Frag} {fa : Nat → Addr} {m m1 m2 : LM} {h h1 : S} {H H1 H2 : Hp}
abbrev any1 : Addr → Prop := fun _ => True
theorem allD_of : ∀ {xs : List W} {ds : List D} {ys : List HV}, allD xs = some ds → WRs K fa m H xs ys → RDs K fa (still m) H ds ys
  | [], ds, ys, e, r => by
    cases e; cases r; exact rfl
  | .d x :: t, ds, ys, e, r => by
    obtain ⟨es, e1, e2⟩ := Option.map_eq_some_iff.mp (show (allD t).map (x :: ·) = some ds from e)
    subst e2
    cases r with
    | cons r rt => exact ⟨_, _, rfl, r, allD_of e1 rt⟩
  | .ref n :: t, ds, ys, e, r => by cases e
  | .exn k d :: t, ds, ys, e, r => by cases e
/-- a told list -/
theorem Lk.lst (lk : Lk K fa m h H) {n : Nat} {b : Bool} {xs : List W} {v : HV} (e : h[n]? = some (.lst b xs)) (r : WR K fa m H (.ref n) v) : ∃ a ys, v = .ref a ∧ m.l[n]? = some (some a) ∧ H a = some (.lst ys) ∧ WRs K fa m H xs ys := by
  obtain ⟨o, ho, a, ys, e1, e2, w⟩ := lk.cell n _ e
  subst e1
  exact ⟨a, ys, r.2 a ho, ho, e2, w⟩
theorem vw_of (lk : Lk K fa m h H) {w : W} {x : D} {v : HV} (e : vw h w = some x) (r : WR K fa m H w v) : RD K fa any1 H x v := by
  cases w with
  | d y =>
    cases e
    exact RD.imp (fun _ _ => trivial) _ _ r
  | ref n =>
    unfold vw at e
    cases q : h[n]? with
    | none => simp only [q] at e; cases e
    | some c =>
      cases c with
      | lst b xs =>
        simp only [q] at e
        obtain ⟨ds, e1, e2⟩ := Option.map_eq_some_iff.mp e
        subst e2
        obtain ⟨a, ys, e3, _, e4, w⟩ := lk.lst q r
        exact ⟨a, ys, e3, ⟨e4, trivial⟩, RDs.imp (fun _ _ => trivial) _ _ (allD_of e1 w)⟩
      | dead => simp only [q] at e; cases e
      | dct b kvs => simp only [q] at e; cases e
      | ins c fs => simp only [q] at e; cases e
  | exn k ds => cases e
/-- .. of data, whose members stay -/
theorem vw_in (lk : Lk K fa m h H) {w : W} {x : D} {v : HV} (e : vw h w = some x) (r : WR K fa m H w v) :
    (∀ xs, x = .tup xs → ∃ a ys, v = .ref a ∧ SqT K H a ys ∧ RDs K fa (still m) H xs ys) ∧ (∀ xs, x = .lst xs → ∃ a ys, v = .ref a ∧ H a = some (.lst ys) ∧ RDs K fa (still m) H xs ys) ∧
    (∀ xs, x = .scr xs → ∃ a ys, v = .ref a ∧ SqL K H a ys ∧ RDs K fa (still m) H xs ys) := by
  cases w with
  | d y =>
    cases e
    refine ⟨fun xs e => ?_, fun xs e => ?_, fun xs e => ?_⟩
    · subst e; exact r
    · subst e
      obtain ⟨a, ys, e1, e2, e3⟩ := r
      exact ⟨a, ys, e1, e2.1, e3⟩
    · subst e
      obtain ⟨a, ys, e1, e2, e3⟩ := r
      exact ⟨a, ys, e1, e2.sq, e3⟩
  | ref n =>
    unfold vw at e
    cases q : h[n]? with
    | none => simp only [q] at e; cases e
    | some c =>
      cases c with
      | lst b xs =>
        simp only [q] at e
        obtain ⟨ds, e1, e2⟩ := Option.map_eq_some_iff.mp e
        subst e2
        obtain ⟨a, ys, e3, _, e4, w⟩ := lk.lst q r
        refine ⟨fun _ z => (nomatch z), fun zs z => ?_, fun _ z => (nomatch z)⟩
        cases z
        exact ⟨a, ys, e3, e4, allD_of e1 w⟩
      | dead => simp only [q] at e; cases e
      | dct b kvs => simp only [q] at e; cases e
      | ins c fs => simp only [q] at e; cases e
  | exn k ds => cases e
end
end G

set_option linter.all false
set_option Elab.async false
set_option maxRecDepth 100000
namespace G
open PySem L2

/-- what stands around: the written part, where defs and error classes stand, the errors' fields, what is wished of an error -/
structure Zn where
  K : PySem.W.Frag
  fa : Nat → Addr
  ea : Nat → Addr
  fl : Nat → List Str
  wx : WX
def XR (Z : Zn) (m : LM) (H : Hp) (k : Nat) (ds : List D) (cls : Value) (d : Option Addr) : Prop :=
  cls = .ref (Z.ea k) ∧ ds.length = (Z.fl k).length ∧ match Z.fl k with
    | [] => d = none
    | fs => ∃ dx vs, d = some dx ∧ H dx = some (.xd (fs.zip vs)) ∧ RDs Z.K Z.fa (still m) H ds vs
def Rt {α β : Type} (Z : Zn) (σ : L2.St) (r : R α) (rel : LM → S → Hp → α → β → Prop) (m : LM) (H : Hp) (Q : β → Hp → Prop) : Prop := match r with
  | .ok a h1 => ∀ m1 H1 b, Step m H m1 H1 → Lk Z.K Z.fa m1 h1 H1 → rel m1 h1 H1 a b → Q b H1
  | .exc k ds h1 => ∀ m1 H1 cls d, Step m H m1 H1 → Lk Z.K Z.fa m1 h1 H1 → XR Z m1 H1 k ds cls d → Z.wx cls d σ H1
  | .bad => False
/-- the names' values -/
structure LS (K : PySem.W.Frag) (fa : Nat → Addr) (m : LM) (H : Hp) (σ' : Lo) (σ : L2.St) : Prop where
  len : σ'.length = σ.length
  at_ : ∀ (i : Nat) (w : W), σ'[i]? = some (some w) → ∃ v, σ[i]? = some (some v) ∧ WR K fa m H w v
section
variable {K : PySem.W.Frag} {fa : Nat → Addr} {m m1 m2 : LM} {h h1 : S} {H H1 H2 : Hp} {σ' : Lo} {σ : L2.St}
theorem LS.step (lk : Lk K fa m h H) (st : Step m H m1 H1) (l : LS K fa m H σ' σ) : LS K fa m1 H1 σ' σ :=
  ⟨l.len, fun i w e => let ⟨v, a, b⟩ := l.at_ i w e; ⟨v, a, b.step lk st⟩⟩
theorem LS.set {i : Nat} {w : W} {v : HV} (l : LS K fa m H σ' σ) (r : WR K fa m H w v) : LS K fa m H (σ'.set i (some w)) (σ.set i (some v)) := by
  refine ⟨by simp [l.len], fun j u e => ?_⟩
  by_cases z : i = j
  · subst z
    have hl := (List.getElem?_eq_some_iff.mp e).1
    rw [List.length_set] at hl
    rw [List.getElem?_set_self hl] at e
    cases e
    exact ⟨v, by rw [List.getElem?_set_self (by rw [← l.len]; exact hl)], r⟩
  · rw [List.getElem?_set_ne z] at e
    rw [List.getElem?_set_ne z]
    exact l.at_ j u e
theorem LS.unset (l : LS K fa m H σ' σ) (i : Nat) : LS K fa m H (σ'.set i none) (σ.set i none) := by
  refine ⟨by simp [l.len], fun j u e => ?_⟩
  by_cases z : i = j
  · subst z
    have hl := (List.getElem?_eq_some_iff.mp e).1
    rw [List.length_set] at hl
    rw [List.getElem?_set_self hl] at e
    cases e
  · rw [List.getElem?_set_ne z] at e
    rw [List.getElem?_set_ne z]
    exact l.at_ j u e
theorem LS.wipe (l : LS K fa m H σ' σ) : ∀ vs : List Nat, LS K fa m H (wipe σ' vs) (L2.wipe σ vs)
  | [] => l
  | v :: vs => (LS.wipe l vs).unset v
end

section
variable {Z : Zn} {σ : L2.St} {α β γ δ : Type} {m m1 : LM} {h h1 : S} {H H1 : Hp}
theorem Rt.mono {r : R α} {rel : LM → S → Hp → α → β → Prop} {Q Q' : β → Hp → Prop} (x : Rt Z σ r rel m H Q) (k : ∀ b H1, Q b H1 → Q' b H1) : Rt Z σ r rel m H Q' := by
  cases r with
  | ok a h1 => exact fun m1 H1 b st lk r => k _ _ (x m1 H1 b st lk r)
  | exc k ds h1 => exact x
  | bad => exact x
/-- from further on -/
theorem Rt.go {r : R α} {rel : LM → S → Hp → α → β → Prop} {Q : β → Hp → Prop} (st : Step m H m1 H1) (x : Rt Z σ r rel m H Q) : Rt Z σ r rel m1 H1 Q := by
  cases r with
  | ok a h1 => exact fun m2 H2 b st2 lk r => x m2 H2 b (st.trans st2) lk r
  | exc k ds h1 => exact fun m2 H2 a b st2 lk r => x m2 H2 a b (st.trans st2) lk r
  | bad => exact x
/-- in a row -/
theorem Rt.bind {r : R α} {f : α → S → R γ} {rel : LM → S → Hp → α → β → Prop} {rel' : LM → S → Hp → γ → δ → Prop} {Q : δ → Hp → Prop} (x : Rt Z σ (r.bind f) rel' m H Q) :
    Rt Z σ r rel m H fun b H1 => ∃ a h1 m1, r = .ok a h1 ∧ Step m H m1 H1 ∧ Lk Z.K Z.fa m1 h1 H1 ∧ rel m1 h1 H1 a b ∧ Rt Z σ (f a h1) rel' m1 H1 Q := by
  cases r with
  | ok a h1 =>
    intro m1 H1 b st lk rl
    refine ⟨a, h1, m1, rfl, st, lk, rl, ?_⟩
    have x : Rt Z σ (f a h1) rel' m H Q := x
    cases q : f a h1 with
    | ok c h2 =>
      rw [q] at x
      exact fun m2 H2 d st2 lk2 r2 => x m2 H2 d (st.trans st2) lk2 r2
    | exc k ds h2 =>
      rw [q] at x
      exact fun m2 H2 cls d st2 lk2 r2 => x m2 H2 cls d (st.trans st2) lk2 r2
    | bad => rw [q] at x; exact x
  | exc k ds h1 => exact x
  | bad => exact x
/-- a plain step within -/
theorem Rt.ofO {o : Option α} {f : α → S → R γ} {rel : LM → S → Hp → γ → δ → Prop} {Q : δ → Hp → Prop} (x : Rt Z σ ((G.ofO h o).bind f) rel m H Q) : ∃ a, o = some a ∧ Rt Z σ (f a h) rel m H Q := by
  cases o with
  | none => exact False.elim x
  | some a => exact ⟨a, rfl, x⟩
theorem Rt.ifT {c : Prop} [Decidable c] {r : R α} {rel : LM → S → Hp → α → β → Prop} {Q : β → Hp → Prop} (x : Rt Z σ (if c then r else .bad) rel m H Q) : c ∧ Rt Z σ r rel m H Q := by
  by_cases z : c
  · rw [if_pos z] at x; exact ⟨z, x⟩
  · rw [if_neg z] at x; exact False.elim x
theorem still_new (lk : Lk Z.K Z.fa m h H) {p : Addr} (hp : H p = none) : still m p := fun l => by
  obtain ⟨ys, e⟩ := lk.at l
  rw [hp] at e; cases e
abbrev WRz (Z : Zn) : LM → S → Hp → W → HV → Prop := fun m _ H w v => WR Z.K Z.fa m H w v
theorem Rt.fin_old {mt : Bool} {z : D} {Q : VK} (x : Rt Z σ (fin mt false z h) (WRz Z) m H Q) {H1 : Hp} {v : HV} (st : Step m H m H1) (lk : Lk Z.K Z.fa m h H1) (r : RD Z.K Z.fa (still m) H1 z v) : Q v H1 := by
  cases mt with
  | false => exact x m H1 v st lk r
  | true => exact False.elim x
theorem Rt.put {xs : List W} {Q : VK} (x : Rt Z σ (putNew h (.lst false xs)) (WRz Z) m H Q) (lk : Lk Z.K Z.fa m h H) {p : Addr} {ys : List HV} (hp : H p = none) (w : WRs Z.K Z.fa m H xs ys) : Q (.ref p) (upd H p (.lst ys)) := by
  refine x ⟨m.l ++ [some p], m.r⟩ _ (.ref p) (Step.alloc hp) (lk.alloc hp w) ⟨?_, fun a e => ?_⟩
  · rw [← lk.len]; simp
  · rw [← lk.len] at e
    simp at e
    rw [e]
theorem WRs_of : ∀ {xs : List D} {ys : List HV}, RDs Z.K Z.fa (still m) H xs ys → WRs Z.K Z.fa m H (xs.map W.d) ys
  | [], ys, r => by
    have e : ys = [] := r
    subst e; exact .nil
  | x :: xs, ys, r => by
    obtain ⟨y, t, e, h1, h2⟩ := r
    subst e
    exact .cons h1 (WRs_of h2)
theorem Rt.fin_new {mt : Bool} {xs : List D} {Q : VK} (x : Rt Z σ (fin mt true (.lst xs) h) (WRz Z) m H Q) (lk : Lk Z.K Z.fa m h H) {p : Addr} {ys : List HV} (hp : H p = none) (r : RDs Z.K Z.fa (still m) H xs ys) : Q (.ref p) (upd H p (.lst ys)) := by
  cases mt with
  | false =>
    have st : Step m H m (upd H p (.lst ys)) := Step.new hp
    exact x m _ (.ref p) st (lk.new hp) ⟨p, ys, rfl, ⟨upd_same, still_new lk hp⟩, r.step lk st⟩
  | true => exact Rt.put x lk hp (WRs_of r)

/-! ### the readings -/
/-- what an expression's evaluation is worth -/
def TIE (Z : Zn) (C : Calls) (e : Ex) : TE := fun σ H Q => ∃ m h σ', Lk Z.K Z.fa m h H ∧ LS Z.K Z.fa m H σ' σ ∧ Rt Z σ (ev C e false σ' h) (WRz Z) m H Q
def TIT (Z : Zn) (C : Calls) (e : Ex) : TT := fun σ H Q => ∃ m h σ', Lk Z.K Z.fa m h H ∧ LS Z.K Z.fa m H σ' σ ∧ Rt Z σ (ev C e true σ' h) (fun _ _ _ w b => w = .d (.bl b)) m H Q
def TIA (Z : Zn) (C : Calls) (es : Exs) : TA := fun σ H Q => ∃ m h σ', Lk Z.K Z.fa m h H ∧ LS Z.K Z.fa m H σ' σ ∧ Rt Z σ (evs C es σ' h) (fun m _ H ws vs => WRs Z.K Z.fa m H ws vs) m H Q
def TIO (Z : Zn) (C : Calls) (o : Oe) : TO := fun σ H Q => ∃ m h σ', Lk Z.K Z.fa m h H ∧ LS Z.K Z.fa m H σ' σ ∧ Rt Z σ (evo C o σ' h) (fun _ _ _ a b => a = b) m H Q
/-- other slots than these are as they were -/
def Off (vs : List Nat) (σ b : L2.St) : Prop := b.length = σ.length ∧ ∀ j : Nat, j ∉ vs → b[j]? = σ[j]?
mutual
def slots : Tg → List Nat
  | .nm i => [i]
  | .tp ts => slotsL ts
  | .sub _ _ => []
def slotsL : Tgs → List Nat
  | .nil => []
  | .cons t r => slots t ++ slotsL r
end
/-- a target's -/
def TIG (Z : Zn) (C : Calls) (t : Tg) : TG := fun v σ H Q => ∃ m h σ' w, Lk Z.K Z.fa m h H ∧ LS Z.K Z.fa m H σ' σ ∧ WR Z.K Z.fa m H w v ∧ Rt Z σ (stg C t w σ' h) (fun m _ H a b => LS Z.K Z.fa m H a b ∧ Off (slots t) σ b) m H Q
def TIGs (Z : Zn) (C : Calls) (t : Tgs) : TGs := fun vs σ H Q => ∃ m h σ' ws, Lk Z.K Z.fa m h H ∧ LS Z.K Z.fa m H σ' σ ∧ WRs Z.K Z.fa m H ws vs ∧ Rt Z σ (stgs C t ws σ' h) (fun m _ H a b => LS Z.K Z.fa m H a b ∧ Off (slotsL t) σ b) m H Q
theorem pe_imp {X : Cx} {e : Expr} {t t' : TE} (h : PE X e t) (k : ∀ σ H Q, t' σ H Q → t σ H Q) : PE X e t' := ⟨fun pins s σ H Q I w => h.run pins s σ H Q I (k σ H Q w)⟩
theorem pt_imp {X : Cx} {e : Expr} {t t' : TT} (h : PT X e t) (k : ∀ σ H Q, t' σ H Q → t σ H Q) : PT X e t' := ⟨fun pins s σ H Q I w => h.run pins s σ H Q I (k σ H Q w)⟩
theorem pa_imp {X : Cx} {e : List Expr} {t t' : TA} (h : PA X e t) (k : ∀ σ H Q, t' σ H Q → t σ H Q) : PA X e t' := ⟨fun pos pins s σ H Q I w => h.run pos pins s σ H Q I (k σ H Q w)⟩
theorem po_imp {X : Cx} {e : Option Expr} {t t' : TO} (h : PO X e t) (k : ∀ σ H Q, t' σ H Q → t σ H Q) : PO X e t' := ⟨fun pins s σ H Q I w => h.run pins s σ H Q I (k σ H Q w)⟩
theorem pg_imp {X : Cx} {e : Expr} {t t' : TG} (h : PG X e t) (k : ∀ v σ H Q, t' v σ H Q → t v σ H Q) : PG X e t' := ⟨fun pins s σ H v u Q I r w => h.run pins s σ H v u Q I r (k v σ H Q w)⟩
theorem pgs_imp {X : Cx} {e : List Expr} {t t' : TGs} (h : PGs X e t) (k : ∀ v σ H Q, t' v σ H Q → t v σ H Q) : PGs X e t' := ⟨fun pins s σ H v u Q I r w => h.run pins s σ H v u Q I r (k v σ H Q w)⟩
/-- ahead of what is asked behind a value -/
theorem Rt.one {C : Calls} {e : Ex} {σ' : Lo} {f : W → S → R γ} {rel' : LM → S → Hp → γ → δ → Prop} {Q : δ → Hp → Prop} (lk : Lk Z.K Z.fa m h H) (ls : LS Z.K Z.fa m H σ' σ) (x : Rt Z σ ((ev C e false σ' h).bind f) rel' m H Q) :
    TIE Z C e σ H fun v H1 => ∃ w h1 m1, Step m H m1 H1 ∧ Lk Z.K Z.fa m1 h1 H1 ∧ WR Z.K Z.fa m1 H1 w v ∧ Rt Z σ (f w h1) rel' m1 H1 Q :=
  ⟨m, h, σ', lk, ls, x.bind.mono fun b H1 ⟨a, h1, m1, _, st, lk1, r, y⟩ => ⟨a, h1, m1, st, lk1, r, y⟩⟩
theorem Rt.many {C : Calls} {e : Exs} {σ' : Lo} {f : List W → S → R γ} {rel' : LM → S → Hp → γ → δ → Prop} {Q : δ → Hp → Prop} (lk : Lk Z.K Z.fa m h H) (ls : LS Z.K Z.fa m H σ' σ) (x : Rt Z σ ((evs C e σ' h).bind f) rel' m H Q) :
    TIA Z C e σ H fun v H1 => ∃ w h1 m1, Step m H m1 H1 ∧ Lk Z.K Z.fa m1 h1 H1 ∧ WRs Z.K Z.fa m1 H1 w v ∧ Rt Z σ (f w h1) rel' m1 H1 Q :=
  ⟨m, h, σ', lk, ls, x.bind.mono fun b H1 ⟨a, h1, m1, _, st, lk1, r, y⟩ => ⟨a, h1, m1, st, lk1, r, y⟩⟩
theorem Rt.test {C : Calls} {e : Ex} {σ' : Lo} {f : W → S → R γ} {rel' : LM → S → Hp → γ → δ → Prop} {Q : δ → Hp → Prop} (lk : Lk Z.K Z.fa m h H) (ls : LS Z.K Z.fa m H σ' σ) (x : Rt Z σ ((ev C e true σ' h).bind f) rel' m H Q) :
    TIT Z C e σ H fun b H1 => ∃ h1 m1, Step m H m1 H1 ∧ Lk Z.K Z.fa m1 h1 H1 ∧ Rt Z σ (f (.d (.bl b)) h1) rel' m1 H1 Q :=
  ⟨m, h, σ', lk, ls, x.bind.mono fun b H1 ⟨a, h1, m1, _, st, lk1, r, y⟩ => ⟨h1, m1, st, lk1, by subst r; exact y⟩⟩
theorem Rt.part {C : Calls} {e : Oe} {σ' : Lo} {f : Option Int → S → R γ} {rel' : LM → S → Hp → γ → δ → Prop} {Q : δ → Hp → Prop} (lk : Lk Z.K Z.fa m h H) (ls : LS Z.K Z.fa m H σ' σ) (x : Rt Z σ ((evo C e σ' h).bind f) rel' m H Q) :
    TIO Z C e σ H fun b H1 => ∃ h1 m1, Step m H m1 H1 ∧ Lk Z.K Z.fa m1 h1 H1 ∧ Rt Z σ (f b h1) rel' m1 H1 Q :=
  ⟨m, h, σ', lk, ls, x.bind.mono fun b H1 ⟨a, h1, m1, _, st, lk1, r, y⟩ => ⟨h1, m1, st, lk1, by subst r; exact y⟩⟩
theorem asked_false : asked false = fun (w : W) (h : S) => R.ok w h := by funext w h; rfl
theorem bind_pure {α : Type} (r : R α) : (r.bind fun w h => R.ok w h) = r := by cases r <;> rfl
end
end G

set_option linter.all false
set_option Elab.async false
set_option maxRecDepth 100000
namespace G
open PySem L2 PyProof.Rows

theorem callR_imp {X : Cx} {f : Value} {r r' : List HV → Hp → VK → Prop} (h : CallR X f r) (k : ∀ vs H Q, r' vs H Q → r vs H Q) : CallR X f r' := fun pins s σ H vs us Q I rv q => h pins s σ H vs us Q I rv (k vs H Q q)
theorem opR_imp {X : Cx} {f : Value → Value → Sem Value} {r r' : R2} (h : OpR X f r) (k : ∀ x y H Q, r' x y H Q → r x y H Q) : OpR X f r' := fun pins s σ H x y v u Q I r1 r2 q => h pins s σ H x y v u Q I r1 r2 (k x y H Q q)
theorem unR_imp {X : Cx} {f : Value → Sem Value} {r r' : HV → Hp → VK → Prop} (h : UnR X f r) (k : ∀ x H Q, r' x H Q → r x H Q) : UnR X f r' := fun pins s σ H x v Q I r1 q => h pins s σ H x v Q I r1 (k x H Q q)

/-- a one-place operation's reading -/
def r1 (Z : Zn) (o : O1) : HV → Hp → VK → Prop := fun v H Q => ∃ σ mt m h w, Lk Z.K Z.fa m h H ∧ WR Z.K Z.fa m H w v ∧ Rt Z σ (runO1 o mt w h) (WRz Z) m H Q
def rO1 (Z : Zn) (o : O1) : List HV → Hp → VK → Prop := fun vs H Q => ∃ v, vs = [v] ∧ r1 Z o v H Q
/-- a two-place operation's -/
def rO2 (Z : Zn) (o : O2) : R2 := fun v u H Q => ∃ σ mt m h w w', Lk Z.K Z.fa m h H ∧ WR Z.K Z.fa m H w v ∧ WR Z.K Z.fa m H w' u ∧ Rt Z σ (runO2 o mt w w' h) (WRz Z) m H Q

theorem sl_eq : (sizeLine : Nat) = 16777216 := sizeLine_eq
theorem le_line {n : Nat} (h : n ≤ big) : n ≤ sizeLine := by rw [sl_eq]; exact h
section
variable {X : Cx} {F : Nat → Addr} {Z : Zn}
/-- what the reading gives at hand -/
theorem r1.at {o : O1} {v : HV} {H : Hp} {Q : VK} (q : r1 Z o v H Q) : ∃ σ mt m h w x z, Lk Z.K Z.fa m h H ∧ WR Z.K Z.fa m H w v ∧ vw h w = some x ∧ op1 o x = some z ∧ Rt Z σ (fin mt (new1 o) z h) (WRz Z) m H Q := by
  obtain ⟨σ, mt, m, h, w, lk, wr, rt⟩ := q
  obtain ⟨x, e1, rt⟩ := rt.ofO
  obtain ⟨z, e2, rt⟩ := rt.ofO
  exact ⟨σ, mt, m, h, w, x, z, lk, wr, e1, e2, rt⟩
theorem scalar_out {mt : Bool} {σ : L2.St} {m : LM} {h : S} {H : Hp} {z : D} {v : HV} {Q : VK} (lk : Lk Z.K Z.fa m h H) (rt : Rt Z σ (fin mt false z h) (WRz Z) m H Q) (r : RD Z.K Z.fa (still m) H z v) : Q v H :=
  rt.fin_old Step.refl lk r
theorem RDs.ints {p : Addr → Prop} {K : PySem.W.Frag} {fa : Nat → Addr} {H : Hp} : ∀ {xs : List D} {ns : List Int} {ys : List HV}, intsOf xs = some ns → RDs K fa p H xs ys → ys = ns.map V.int
  | [], ns, ys, e, r => by
    cases e
    exact r
  | .int i :: t, ns, ys, e, r => by
    obtain ⟨ms, e1, e2⟩ := Option.map_eq_some_iff.mp (show (intsOf t).map (i :: ·) = some ns from e)
    subst e2
    obtain ⟨y, u, rfl, h1, h2⟩ := r
    have h1 : y = .int i := h1
    subst h1
    rw [RDs.ints e1 h2]; rfl
  | .non :: _, _, _, e, _ => by cases e
  | .bl _ :: _, _, _, e, _ => by cases e
  | .str _ :: _, _, _, e, _ => by cases e
  | .tup _ :: _, _, _, e, _ => by cases e
  | .lst _ :: _, _, _, e, _ => by cases e
  | .fn _ :: _, _, _, e, _ => by cases e
  | .scr _ :: _, _, _, e, _ => by cases e
theorem RDs.bls {p : Addr → Prop} {K : PySem.W.Frag} {fa : Nat → Addr} {H : Hp} : ∀ {xs : List D} {ns : List Bool} {ys : List HV}, blsOf xs = some ns → RDs K fa p H xs ys → ys = ns.map V.bl
  | [], ns, ys, e, r => by
    cases e
    exact r
  | .bl i :: t, ns, ys, e, r => by
    obtain ⟨ms, e1, e2⟩ := Option.map_eq_some_iff.mp (show (blsOf t).map (i :: ·) = some ns from e)
    subst e2
    obtain ⟨y, u, rfl, h1, h2⟩ := r
    have h1 : y = .bl i := h1
    subst h1
    rw [RDs.bls e1 h2]; rfl
  | .non :: _, _, _, e, _ => by cases e
  | .int _ :: _, _, _, e, _ => by cases e
  | .str _ :: _, _, _, e, _ => by cases e
  | .tup _ :: _, _, _, e, _ => by cases e
  | .lst _ :: _, _, _, e, _ => by cases e
  | .fn _ :: _, _, _, e, _ => by cases e
  | .scr _ :: _, _, _, e, _ => by cases e
theorem str_len (s : List Nat) : (⟨s.toArray⟩ : Str).length = s.length := by
  show s.toArray.size = s.length
  simp

theorem o_len : CallR X (.builtin "len") (rO1 ⟨X.K, F, Z.ea, Z.fl, Z.wx⟩ .len) := callR_imp call_len fun vs H Q ⟨v, e, q⟩ => by
  subst e
  obtain ⟨σ, mt, m, h, w, x, z, lk, wr, e1, e2, rt⟩ := q.at
  have rd := vw_of lk e1 wr
  cases x with
  | str s =>
    have rd : v = .str ⟨s.toArray⟩ := rd
    subst rd
    obtain ⟨c, e2⟩ := Option.ite_none_right_eq_some.mp (show (if s.length ≤ big then some (D.int s.length) else none) = some z from e2)
    cases e2
    exact ⟨_, s.length, rfl, ⟨by rw [str_len]; exact le_line c, (str_len s).symm⟩, scalar_out lk rt rfl⟩
  | tup xs =>
    obtain ⟨a, ys, e3, sq, rs⟩ := rd
    subst e3
    cases e2
    exact ⟨_, xs.length, rfl, .inr ⟨ys, sq, rs.length⟩, scalar_out lk rt rfl⟩
  | lst xs =>
    obtain ⟨a, ys, e3, sq, rs⟩ := rd
    subst e3
    cases e2
    exact ⟨_, xs.length, rfl, .inl ⟨ys, sq.sq, rs.length⟩, scalar_out lk rt rfl⟩
  | scr xs =>
    obtain ⟨a, ys, e3, sq, rs⟩ := rd
    subst e3
    cases e2
    exact ⟨_, xs.length, rfl, .inl ⟨ys, sq.sq, rs.length⟩, scalar_out lk rt rfl⟩
  | non => cases e2
  | bl b => cases e2
  | int i => cases e2
  | fn k => cases e2

theorem o_list : CallR X (.type "list") (rO1 ⟨X.K, F, Z.ea, Z.fl, Z.wx⟩ .toLst) := callR_imp call_list_of fun vs H Q ⟨v, e, q⟩ => by
  subst e
  obtain ⟨σ, mt, m, h, w, x, z, lk, wr, e1, e2, rt⟩ := q.at
  have rd := vw_in lk e1 wr
  cases x with
  | tup xs =>
    obtain ⟨a, ys, e3, sq, rs⟩ := rd.1 xs rfl
    subst e3
    cases e2
    exact ⟨a, ys, rfl, .inr sq, fun l hl => rt.fin_new lk hl rs⟩
  | lst xs =>
    obtain ⟨a, ys, e3, sq, rs⟩ := rd.2.1 xs rfl
    subst e3
    cases e2
    exact ⟨a, ys, rfl, .inl (.of sq), fun l hl => rt.fin_new lk hl rs⟩
  | str s => cases e2
  | non => cases e2
  | bl b => cases e2
  | int i => cases e2
  | fn k => cases e2
  | scr xs => cases e2

theorem new_tup {m : LM} {h : S} {H : Hp} {xs : List D} {ys : List HV} {p : Addr} {K : PySem.W.Frag} {fa : Nat → Addr} (lk : Lk K fa m h H) (hp : H p = none) (rs : RDs K fa (still m) H xs ys) :
    RD K fa (still m) (upd H p (.tup ys)) (.tup xs) (.ref p) := ⟨p, ys, rfl, .of upd_same, rs.step lk (Step.new hp)⟩
theorem o_tuple : CallR X (.type "tuple") (rO1 ⟨X.K, F, Z.ea, Z.fl, Z.wx⟩ .toTup) := callR_imp call_tuple_of fun vs H Q ⟨v, e, q⟩ => by
  subst e
  obtain ⟨σ, mt, m, h, w, x, z, lk, wr, e1, e2, rt⟩ := q.at
  have rd := vw_in lk e1 wr
  cases x with
  | tup xs =>
    obtain ⟨a, ys, e3, sq, rs⟩ := rd.1 xs rfl
    subst e3
    cases e2
    exact ⟨a, ys, rfl, .inr ⟨sq, scalar_out lk rt ⟨a, ys, rfl, sq, rs⟩⟩⟩
  | lst xs =>
    obtain ⟨a, ys, e3, sq, rs⟩ := rd.2.1 xs rfl
    subst e3
    cases e2
    exact ⟨a, ys, rfl, .inl ⟨.of sq, fun l hl => rt.fin_old (Step.new hl) (lk.new hl) (new_tup lk hl rs)⟩⟩
  | str s => cases e2
  | non => cases e2
  | bl b => cases e2
  | int i => cases e2
  | fn k => cases e2
  | scr xs => cases e2

theorem o_all (hc : X.calm = true) : CallR X (.builtin "all") (rO1 ⟨X.K, F, Z.ea, Z.fl, Z.wx⟩ .all) := callR_imp (cr_all hc) fun vs H Q ⟨v, e, q⟩ => by
  subst e
  obtain ⟨σ, mt, m, h, w, x, z, lk, wr, e1, e2, rt⟩ := q.at
  have rd := vw_of lk e1 wr
  cases x with
  | lst xs =>
    obtain ⟨a, ys, e3, sq, rs⟩ := rd
    subst e3
    obtain ⟨bs, e4, e5⟩ := Option.map_eq_some_iff.mp (show (blsOf xs).map (fun bs => D.bl (bs.all id)) = some z from e2)
    subst e5
    have e6 := rs.bls e4
    subst e6
    exact ⟨a, bs, rfl, sq.sq, scalar_out lk rt rfl⟩
  | tup xs => cases e2
  | str s => cases e2
  | non => cases e2
  | bl b => cases e2
  | int i => cases e2
  | fn k => cases e2
  | scr xs => cases e2
theorem o_any (hc : X.calm = true) : CallR X (.builtin "any") (rO1 ⟨X.K, F, Z.ea, Z.fl, Z.wx⟩ .any) := callR_imp (cr_any hc) fun vs H Q ⟨v, e, q⟩ => by
  subst e
  obtain ⟨σ, mt, m, h, w, x, z, lk, wr, e1, e2, rt⟩ := q.at
  have rd := vw_of lk e1 wr
  cases x with
  | lst xs =>
    obtain ⟨a, ys, e3, sq, rs⟩ := rd
    subst e3
    obtain ⟨bs, e4, e5⟩ := Option.map_eq_some_iff.mp (show (blsOf xs).map (fun bs => D.bl (bs.any id)) = some z from e2)
    subst e5
    have e6 := rs.bls e4
    subst e6
    exact ⟨a, bs, rfl, sq.sq, scalar_out lk rt rfl⟩
  | tup xs => cases e2
  | str s => cases e2
  | non => cases e2
  | bl b => cases e2
  | int i => cases e2
  | fn k => cases e2
  | scr xs => cases e2
theorem o_int : CallR X (.type "int") (rO1 ⟨X.K, F, Z.ea, Z.fl, Z.wx⟩ .int1) := callR_imp call_int1 fun vs H Q ⟨v, e, q⟩ => by
  subst e
  obtain ⟨σ, mt, m, h, w, x, z, lk, wr, e1, e2, rt⟩ := q.at
  have rd := vw_of lk e1 wr
  cases x with
  | int i =>
    have rd : v = .int i := rd
    subst rd
    cases e2
    exact .inl ⟨i, rfl, scalar_out lk rt rfl⟩
  | bl b =>
    have rd : v = .bl b := rd
    subst rd
    cases e2
    exact .inr ⟨b, rfl, scalar_out lk rt rfl⟩
  | lst xs => cases e2
  | tup xs => cases e2
  | str s => cases e2
  | non => cases e2
  | fn k => cases e2
  | scr xs => cases e2
theorem o_neg : UnR X (unaryOp .USub) (r1 ⟨X.K, F, Z.ea, Z.fl, Z.wx⟩ .neg) := unR_imp un_neg fun v H Q q => by
  obtain ⟨σ, mt, m, h, w, x, z, lk, wr, e1, e2, rt⟩ := q.at
  have rd := vw_of lk e1 wr
  cases x with
  | int i =>
    have rd : v = .int i := rd
    subst rd
    cases e2
    exact ⟨i, rfl, scalar_out lk rt rfl⟩
  | bl b => cases e2
  | lst xs => cases e2
  | tup xs => cases e2
  | str s => cases e2
  | non => cases e2
  | fn k => cases e2
  | scr xs => cases e2

/-! ### isinstance -/
def tyN : Ty → String
  | .int => "int" | .bool => "bool" | .str => "str" | .tup => "tuple" | .lst => "list"
theorem kit_all : ∀ K : PySem.W.Frag, True := fun _ => trivial
def kindN : D → String
  | .non => "NoneType" | .bl _ => "bool" | .int _ => "int" | .str _ => "str" | .tup _ => "tuple" | .lst _ => "list" | .fn _ => "function" | .scr _ => "list"
def subN : String → String → Bool
  | "bool", "int" => true
  | a, b => a == b
theorem ty_of {K : PySem.W.Frag} {fa : Nat → Addr} {p : Addr → Prop} {H : Hp} {x : D} {v : HV} (r : RD K fa p H x v) (n : notFn x = true) : TyX K H v (.type (kindN x)) := by
  cases x with
  | non => cases (show v = .non from r); exact .base .non
  | bl b => cases (show v = .bl b from r); exact .base (.bl b)
  | int i => cases (show v = .int i from r); exact .base (.int i)
  | str s => cases (show v = .str _ from r); exact .base (.str _)
  | tup xs =>
    obtain ⟨a, ys, e, sq, _⟩ := r
    subst e
    rcases sq with (s | ⟨o, s⟩) | ⟨o, its, k, e, c, _⟩
    · exact .base (.tup s)
    · exact .fTuple s
    · exact .kTuple e c
  | lst xs =>
    obtain ⟨a, ys, e, sq, _⟩ := r
    subst e
    exact .base (.lst sq.1)
  | fn k => cases n
  | scr xs => cases n
theorem kit_one (K : PySem.W.Frag) (x : D) (t : Ty) (n : notFn x = true) : PySem.W.kitOne K (.type (kindN x)) (.type (tyN t)) = some (isTy t x) := by
  cases x <;> cases t <;> first | exact absurd n (by decide) | rfl | (with_unfolding_all rfl) | (cases n)
theorem kit_any (K : PySem.W.Frag) (x : D) (n : notFn x = true) : ∀ ts : List Ty, PySem.W.kitAny K (.type (kindN x)) (ts.map fun t => .type (tyN t)) = some (ts.any (isTy · x))
  | [] => rfl
  | t :: r => by
    have e := kit_one K x t n
    have ih := kit_any K x n r
    show (match PySem.W.kitOne K (.type (kindN x)) (.type (tyN t)) with
      | some true => some true
      | some false => PySem.W.kitAny K (.type (kindN x)) (r.map fun t => .type (tyN t))
      | none => none) = _
    rw [e, ih, List.any_cons]
    cases isTy t x <;> rfl
/-- isinstance(x, T) -/
theorem o_isi {t : Ty} : CallR X (.builtin "isinstance") (fun vs H Q => ∃ v, vs = [v, .ty (tyN t)] ∧ r1 ⟨X.K, F, Z.ea, Z.fl, Z.wx⟩ (.isk [t]) v H Q) := callR_imp call_isi fun vs H Q ⟨v, e, q⟩ => by
  subst e
  obtain ⟨σ, mt, m, h, w, x, z, lk, wr, e1, e2, rt⟩ := q.at
  have rd := vw_of lk e1 wr
  obtain ⟨c, e2⟩ := Option.ite_none_right_eq_some.mp (show (if notFn x = true then some (D.bl ([t].any (isTy · x))) else none) = some z from e2)
  cases e2
  refine ⟨_, _, _, _, _, rfl, .ty _, ty_of rd c, kit_one X.K x t c, ?_⟩
  have b : ([t].any (isTy · x)) = isTy t x := by simp
  rw [b] at rt
  exact scalar_out lk rt rfl
def tysV (ts : List Ty) : List HV := ts.map fun t => .ty (tyN t)
theorem tys_cls : ∀ ts : List Ty, Paired ClsV (tysV ts) (ts.map fun t => Value.type (tyN t))
  | [] => .nil
  | t :: r => .cons (.ty _) (tys_cls r)
/-- isinstance(x, (T, U)), the tuple just laid -/
theorem o_isiT {ts : List Ty} : CallR X (.builtin "isinstance") (fun vs H Q => ∃ v p, vs = [v, .ref p] ∧ H p = some (.tup (tysV ts)) ∧ r1 ⟨X.K, F, Z.ea, Z.fl, Z.wx⟩ (.isk ts) v H Q) := callR_imp call_isiT fun vs H Q ⟨v, p, e, hp, q⟩ => by
  subst e
  obtain ⟨σ, mt, m, h, w, x, z, lk, wr, e1, e2, rt⟩ := q.at
  have rd := vw_of lk e1 wr
  obtain ⟨c, e2⟩ := Option.ite_none_right_eq_some.mp (show (if notFn x = true then some (D.bl (ts.any (isTy · x))) else none) = some z from e2)
  cases e2
  exact ⟨_, _, _, _, _, _, rfl, hp, tys_cls ts, ty_of rd c, kit_any X.K x c ts, scalar_out lk rt rfl⟩

/-! ### is None -/
theorem isNon_of {p : Addr → Prop} {K : PySem.W.Frag} {fa : Nat → Addr} {H : Hp} {x : D} {v : HV} {b : Bool} (r : RD K fa p H x v) (e : op1 .isNon x = some (.bl b)) : decide (v = .non) = b := by
  cases x with
  | non => cases e; cases (show v = .non from r); rfl
  | bl c => cases e; cases (show v = .bl c from r); rfl
  | int c => cases e; cases (show v = .int c from r); rfl
  | str c => cases e; cases (show v = .str _ from r); rfl
  | tup c => cases e; obtain ⟨a, ys, e, _⟩ := r; subst e; rfl
  | lst c => cases e; obtain ⟨a, ys, e, _⟩ := r; subst e; rfl
  | fn c => cases e
  | scr c => cases e
theorem o_isN : OpR X (compareOp .Is) (fun x y H Q => y = .non ∧ r1 ⟨X.K, F, Z.ea, Z.fl, Z.wx⟩ .isNon x H Q) := opR_imp op_isN fun v y H Q ⟨e, q⟩ => by
  refine ⟨e, ?_⟩
  obtain ⟨σ, mt, m, h, w, x, z, lk, wr, e1, e2, rt⟩ := q.at
  have rd := vw_of lk e1 wr
  have : ∃ b, z = .bl b := by cases x <;> first | (cases e2; exact ⟨_, rfl⟩) | cases e2
  obtain ⟨b, e3⟩ := this
  subst e3
  rw [isNon_of rd e2]
  exact scalar_out lk rt rfl
theorem o_notN : OpR X (compareOp .IsNot) (fun x y H Q => y = .non ∧ r1 ⟨X.K, F, Z.ea, Z.fl, Z.wx⟩ .notNon x H Q) := opR_imp op_notN fun v y H Q ⟨e, q⟩ => by
  refine ⟨e, ?_⟩
  obtain ⟨σ, mt, m, h, w, x, z, lk, wr, e1, e2, rt⟩ := q.at
  have rd := vw_of lk e1 wr
  have : ∃ b, z = .bl b ∧ op1 .isNon x = some (.bl (!b)) := by cases x <;> first | (cases e2; exact ⟨_, rfl, rfl⟩) | cases e2
  obtain ⟨b, e3, e4⟩ := this
  subst e3
  rw [isNon_of rd e4, Bool.not_not]
  exact scalar_out lk rt rfl

/-! ### sums -/
theorem tup_sum {w : World} {A : Around} {prog : Program} {E : Value → Shared → Prop} {s : Shared} {t : Addr} {its : List Value} {ns : List Int} {Q : Value → Shared → Prop} (hh : A.handled = none) (ht : s.heap.IsTuple t its.toArray) (hi : IntsAre its ns)
    (h : ∀ h' tk t', (∀ b o, s.heap.get? b = some o → h'.get? b = some o) → Q (.int ns.sum t') { s with heap := h', toks := tk }) : wpAny (model prog w) A (call (.builtin "sum") [.ref t]) Q E s := by
  have nums : numsOf its.toArray.toList = ns := by rw [← hi.numsOf]
  obtain ⟨row, er⟩ := hi.allInts.items
  rw [er] at ht nums
  rw [nums_intItems] at nums
  refine PySem.W.ktm_sumG hh ht fun g tk t2 hk => ?_
  rw [preSum_eq, List.take_of_length_le (by simp), nums]
  exact h g tk t2 hk
theorem o_sum (hc : X.calm = true) : CallR X (.builtin "sum") (rO1 ⟨X.K, F, Z.ea, Z.fl, Z.wx⟩ .sum) := by
  intro pins s σ0 H vs us Q I r q
  obtain ⟨v, e, q⟩ := q
  subst e
  obtain ⟨σ, mt, m, h, w, x, z, lk, wr, e1, e2, rt⟩ := q.at
  have rd := vw_of lk e1 wr
  cases x with
  | lst xs =>
    obtain ⟨a, ys, e3, sq, rs⟩ := rd
    subst e3
    obtain ⟨ns, e4, e5⟩ := Option.map_eq_some_iff.mp (show (intsOf xs).map (fun ns => D.int ns.sum) = some z from e2)
    subst e5
    have e6 := rs.ints e4
    subst e6
    exact cr_sum hc pins s σ0 H _ us Q I r ⟨a, ns, rfl, sq.sq, scalar_out lk rt rfl⟩
  | tup xs =>
    obtain ⟨a, ys, e3, sq, rs⟩ := rd
    subst e3
    obtain ⟨ns, e4, e5⟩ := Option.map_eq_some_iff.mp (show (intsOf xs).map (fun ns => D.int ns.sum) = some z from e2)
    subst e5
    have e6 := rs.ints e4
    subst e6
    obtain ⟨its, rv, hl, _⟩ := I.tuple sq
    rw [Vals.ref1 r]
    obtain ⟨o, ho, hcl, n, hd⟩ := hl
    exact tup_sum (I.ok.hd hc) ⟨o, ho, hcl, n, hd⟩ rv.ints fun g tk t2 hk => ⟨.int ns.sum, H, I.kept hk, ⟨_, rfl⟩, scalar_out lk rt rfl⟩
  | str s => cases e2
  | non => cases e2
  | bl b => cases e2
  | int i => cases e2
  | fn k => cases e2
  | scr xs => cases e2

/-! ### two-place operations -/
def isIx : O2 → Bool
  | .ix => true
  | _ => false
theorem rO2.at {o : O2} {v u : HV} {H : Hp} {Q : VK} (n : isIx o = false) (q : rO2 Z o v u H Q) :
    ∃ σ mt m h w w' x y z, Lk Z.K Z.fa m h H ∧ WR Z.K Z.fa m H w v ∧ WR Z.K Z.fa m H w' u ∧ vw h w = some x ∧ vw h w' = some y ∧ op2 o x y = some z ∧ Rt Z σ (fin mt (new2 o x) z h) (WRz Z) m H Q := by
  obtain ⟨σ, mt, m, h, w, w', lk, wr, wr', rt⟩ := q
  have rt : Rt Z σ ((ofO h (vw h w)).bind fun x h => (ofO h (vw h w')).bind fun y h => (ofO h (op2 o x y)).bind fun z h => fin mt (new2 o x) z h) (WRz Z) m H Q := by
    cases o <;> first | exact rt | cases n
  obtain ⟨x, e1, rt⟩ := rt.ofO
  obtain ⟨y, e2, rt⟩ := rt.ofO
  obtain ⟨z, e3, rt⟩ := rt.ofO
  exact ⟨σ, mt, m, h, w, w', x, y, z, lk, wr, wr', e1, e2, e3, rt⟩
/-- two numbers in, one thing out -/
theorem int2 {o : O2} {C : Int → Int → Prop} {g : Int → Int → HV} (n : isIx o = false) (ho : ∀ x y z, op2 o x y = some z → (∃ i j, x = .int i ∧ y = .int j ∧ C i j ∧ (∀ K fa p H, RD K fa p H z (g i j)) ∧ new2 o x = false)) {v u : HV} {H : Hp} {Q : VK} (q : rO2 Z o v u H Q) :
    rI C g v u H Q := by
  obtain ⟨σ, mt, m, h, w, w', x, y, z, lk, wr, wr', e1, e2, e3, rt⟩ := q.at n
  obtain ⟨i, j, e4, e5, c, r, nw⟩ := ho x y z e3
  subst e4; subst e5
  have a1 : v = .int i := vw_of lk e1 wr
  have a2 : u = .int j := vw_of lk e2 wr'
  subst a1; subst a2
  rw [nw] at rt
  exact ⟨i, j, rfl, rfl, c, scalar_out lk rt (r _ _ _ _)⟩
abbrev zof (X : Cx) (F : Nat → Addr) (Z : Zn) : Zn := ⟨X.K, F, Z.ea, Z.fl, Z.wx⟩
theorem o_sub : OpR X (binaryOp .Sub) (rO2 (zof X F Z) .sub) := opR_imp op_sub fun v u H Q q => by
  obtain ⟨i, j, a, b, _, c⟩ := int2 (C := fun _ _ => True) (g := fun i j => .int (i - j)) rfl (fun x y z e => by
    cases x <;> cases y <;> first | (cases e; done) | (cases e; exact ⟨_, _, rfl, rfl, trivial, fun _ _ _ _ => rfl, rfl⟩)) q
  exact ⟨i, j, a, b, c⟩
theorem o_fdiv : OpR X (binaryOp .FloorDiv) (rO2 (zof X F Z) .fdiv) := opR_imp op_fdivN fun v u H Q q => int2 rfl (fun x y z e => by
    cases x <;> cases y <;> first
      | (cases e; done)
      | (obtain ⟨c, e⟩ := Option.ite_none_right_eq_some.mp (show (if _ then some _ else none) = some z from e)
         cases e
         simp only [Bool.and_eq_true, bne_iff_ne, decide_eq_true_eq] at c
         exact ⟨_, _, rfl, rfl, c, fun _ _ _ _ => rfl, rfl⟩)) q
theorem o_mod : OpR X (binaryOp .Mod) (rO2 (zof X F Z) .mod) := opR_imp op_modN fun v u H Q q => int2 rfl (fun x y z e => by
    cases x <;> cases y <;> first
      | (cases e; done)
      | (obtain ⟨c, e⟩ := Option.ite_none_right_eq_some.mp (show (if _ then some _ else none) = some z from e)
         cases e
         simp only [bne_iff_ne] at c
         exact ⟨_, _, rfl, rfl, c, fun _ _ _ _ => rfl, rfl⟩)) q
theorem o_pow : OpR X (binaryOp .Pow) (rO2 (zof X F Z) .pow) := opR_imp op_pow fun v u H Q q => int2 rfl (fun x y z e => by
    cases x <;> cases y <;> first
      | (cases e; done)
      | (obtain ⟨c, e⟩ := Option.ite_none_right_eq_some.mp (show (if _ then some _ else none) = some z from e)
         cases e
         simp only [Bool.and_eq_true, decide_eq_true_eq] at c
         exact ⟨_, _, rfl, rfl, ⟨c.1.1, c.1.2, c.2⟩, fun _ _ _ _ => rfl, rfl⟩)) q
theorem o_shl : OpR X (binaryOp .LShift) (rO2 (zof X F Z) .shl) := opR_imp op_shl fun v u H Q q => int2 rfl (fun x y z e => by
    cases x <;> cases y <;> first
      | (cases e; done)
      | (obtain ⟨c, e⟩ := Option.ite_none_right_eq_some.mp (show (if _ then some _ else none) = some z from e)
         cases e
         simp only [Bool.and_eq_true, decide_eq_true_eq] at c
         exact ⟨_, _, rfl, rfl, ⟨c.1.1, c.1.2, c.2⟩, fun _ _ _ _ => rfl, rfl⟩)) q
theorem o_shr : OpR X (binaryOp .RShift) (rO2 (zof X F Z) .shr) := opR_imp op_shr fun v u H Q q => int2 rfl (fun x y z e => by
    cases x <;> cases y <;> first
      | (cases e; done)
      | (obtain ⟨c, e⟩ := Option.ite_none_right_eq_some.mp (show (if _ then some _ else none) = some z from e)
         cases e
         exact ⟨_, _, rfl, rfl, c, fun _ _ _ _ => rfl, rfl⟩)) q
theorem o_band : OpR X (binaryOp .BitAnd) (rO2 (zof X F Z) .band) := opR_imp op_and fun v u H Q q => by
  obtain ⟨i, j, a, b, _, c⟩ := int2 (C := fun _ _ => True) (g := fun i j => .int (Builtin.bitAnd i j)) rfl (fun x y z e => by
    cases x <;> cases y <;> first | (cases e; done) | (cases e; exact ⟨_, _, rfl, rfl, trivial, fun _ _ _ _ => rfl, rfl⟩)) q
  exact ⟨i, j, a, b, c⟩
theorem o_bor : OpR X (binaryOp .BitOr) (rO2 (zof X F Z) .bor) := opR_imp op_or fun v u H Q q => by
  obtain ⟨i, j, a, b, _, c⟩ := int2 (C := fun _ _ => True) (g := fun i j => .int (Builtin.bitOr i j)) rfl (fun x y z e => by
    cases x <;> cases y <;> first | (cases e; done) | (cases e; exact ⟨_, _, rfl, rfl, trivial, fun _ _ _ _ => rfl, rfl⟩)) q
  exact ⟨i, j, a, b, c⟩
end
end G

set_option linter.all false
set_option Elab.async false
set_option maxRecDepth 100000
namespace G
open PySem L2 PyProof.Rows

/-! ### == of data -/
mutual
def toPy : D → PyData
  | .non => .none
  | .bl b => .bool b
  | .int i => .int i
  | .str s => .str ⟨s.toArray⟩
  | .tup xs => .tuple (toPys xs)
  | .lst xs => .list (toPys xs)
  | .fn _ => .none
  | .scr _ => .none
def toPys : List D → List PyData
  | [] => []
  | x :: r => toPy x :: toPys r
end
theorem str_beq (x y : List Nat) : ((⟨x.toArray⟩ : Str) == ⟨y.toArray⟩) = (x == y) := by
  by_cases h : x = y
  · subst h; simp
  · rw [beq_eq_false_iff_ne.mpr h]
    exact beq_eq_false_iff_ne.mpr fun e => h (by injection e with e; simpa using e)
mutual
theorem eqv_toPy : ∀ (n : Nat) (x y : D), deep n x = true → deep n y = true → PyData.eqv (toPy x) (toPy y) = eqd x y
  | n, x, y, h1, h2 => by
    cases x with
    | non => cases y <;> first | rfl | (cases n <;> cases h2)
    | bl a => cases y <;> first | rfl | (cases n <;> cases h2)
    | int a => cases y <;> first | rfl | (cases n <;> cases h2)
    | str a => cases y <;> first | exact str_beq _ _ | rfl | (cases n <;> cases h2)
    | tup xs => cases n with
      | zero => cases h1
      | succ n => cases y <;> first | exact eqvs_toPy n xs _ h1 h2 | rfl | cases h2
    | lst xs => cases n with
      | zero => cases h1
      | succ n => cases y <;> first | exact eqvs_toPy n xs _ h1 h2 | rfl | cases h2
    | fn k => cases n <;> cases h1
    | scr k => cases n <;> cases h1
theorem eqvs_toPy : ∀ (n : Nat) (xs ys : List D), deeps n xs = true → deeps n ys = true → PyData.eqvAll (toPys xs) (toPys ys) = eqds xs ys
  | _, [], [], _, _ => rfl
  | _, [], _ :: _, _, _ => rfl
  | _, _ :: _, [], _, _ => rfl
  | n, x :: xs, y :: ys, h1, h2 => by
    have a1 := Bool.and_eq_true_iff.mp (show (deep n x && deeps n xs) = true by cases n <;> exact h1)
    have a2 := Bool.and_eq_true_iff.mp (show (deep n y && deeps n ys) = true by cases n <;> exact h2)
    show (PyData.eqv (toPy x) (toPy y) && PyData.eqvAll (toPys xs) (toPys ys)) = (eqd x y && eqds xs ys)
    rw [eqv_toPy n x y a1.1 a2.1, eqvs_toPy n xs ys a1.2 a2.2]
end
theorem deeps_cons {n : Nat} {x : D} {xs : List D} (h : deeps n (x :: xs) = true) : deep n x = true ∧ deeps n xs = true :=
  Bool.and_eq_true_iff.mp (show (deep n x && deeps n xs) = true by cases n <;> exact h)
mutual
theorem lay_toPy : ∀ (n : Nat) (x : D), deep n x = true → PyData.canLay0 (toPy x) = true ∧ PyData.depth (toPy x) ≤ n
  | n, .non, _ => ⟨rfl, Nat.zero_le _⟩
  | n, .bl b, _ => ⟨rfl, Nat.zero_le _⟩
  | n, .int b, _ => ⟨rfl, Nat.zero_le _⟩
  | n, .str s, h => by
    refine ⟨?_, Nat.zero_le _⟩
    have h : s.all (· < 128) = true := by cases n <;> exact h
    show (s.toArray.all fun c => decide (c < 0x110000)) = true
    rw [List.all_toArray, List.all_eq_true]
    intro c hc
    have := List.all_eq_true.mp h c hc
    simp only [decide_eq_true_eq] at this ⊢
    omega
  | 0, .tup xs, h => by cases h
  | 0, .lst xs, h => by cases h
  | n + 1, .tup xs, h => by
    have := lays_toPy n xs h
    exact ⟨this.1, Nat.succ_le_succ this.2⟩
  | n + 1, .lst xs, h => by
    have := lays_toPy n xs h
    exact ⟨this.1, Nat.succ_le_succ this.2⟩
  | n, .fn k, h => by cases n <;> cases h
  | n, .scr k, h => by cases n <;> cases h
theorem lays_toPy : ∀ (n : Nat) (xs : List D), deeps n xs = true → PyData.canLayAll0 (toPys xs) = true ∧ PyData.depthAll (toPys xs) ≤ n
  | n, [], _ => ⟨rfl, Nat.zero_le _⟩
  | n, x :: xs, h => by
    obtain ⟨a, b⟩ := deeps_cons h
    have h1 := lay_toPy n x a
    have h2 := lays_toPy n xs b
    refine ⟨?_, Nat.max_le.mpr ⟨h1.2, h2.2⟩⟩
    show (PyData.canLay0 (toPy x) && PyData.canLayAll0 (toPys xs)) = true
    rw [h1.1, h2.1]; rfl
end
theorem shaped_toPy {x : D} (h : deep 40 x = true) : SeqAt.shaped (toPy x) = true := by
  have := lay_toPy 40 x h
  show ((toPy x).canLay0 && decide ((toPy x).depth ≤ 64)) = true
  rw [this.1, decide_eq_true (by omega)]; rfl
section
variable {K : PySem.W.Frag} {fa : Nat → Addr} {p : Addr → Prop} {H : Hp}
mutual
theorem dp_of : ∀ (n : Nat) (x : D) (v : HV), deep n x = true → RD K fa p H x v → Dp K H v (toPy x)
  | n, .non, v, _, r => by cases (show v = .non from r); exact .non
  | n, .bl b, v, _, r => by cases (show v = .bl b from r); exact .bl b
  | n, .int i, v, _, r => by cases (show v = .int i from r); exact .int i
  | n, .str s, v, _, r => by cases (show v = .str _ from r); exact .str _
  | 0, .tup xs, v, h, _ => by cases h
  | 0, .lst xs, v, h, _ => by cases h
  | n + 1, .tup xs, v, h, r => by
    obtain ⟨a, ys, e, sq, rs⟩ := r
    subst e
    exact .tup sq (dps_of n xs ys h rs)
  | n + 1, .lst xs, v, h, r => by
    obtain ⟨a, ys, e, sq, rs⟩ := r
    subst e
    exact .lst sq.sq (dps_of n xs ys h rs)
  | n, .fn k, v, h, _ => by cases n <;> cases h
  | n, .scr k, v, h, _ => by cases n <;> cases h
theorem dps_of : ∀ (n : Nat) (xs : List D) (ys : List HV), deeps n xs = true → RDs K fa p H xs ys → DpAll K H ys (toPys xs)
  | n, [], ys, _, r => by cases (show ys = [] from r); exact .nil
  | n, x :: xs, ys, h, r => by
    obtain ⟨a, b⟩ := deeps_cons h
    obtain ⟨y, t, e, r1, r2⟩ := r
    subst e
    exact .cons (dp_of n x y a r1) (dps_of n xs t b r2)
end
theorem scal_eq {x y : D} {v u : HV} (hx : flat x = true) (hy : flat y = true) (r1 : RD K fa p H x v) (r2 : RD K fa p H y u) (s : scal v u = true) : decide (v = u) = eqd x y := by
  cases x <;> cases y <;> first
    | (cases hx; done)
    | (cases hy; done)
    | (cases (show v = _ from r1); cases (show u = _ from r2); first
        | rfl
        | (cases s; done)
        | exact dec_int
        | exact dec_bl
        | (rw [dec_str]; exact str_beq _ _))
theorem not_scal {x y : D} {v u : HV} (hx : flat x = true) (hy : flat y = true) (r1 : RD K fa p H x v) (r2 : RD K fa p H y u) (s : scal v u ≠ true) : deep 40 x = true ∧ deep 40 y = true := by
  cases x <;> cases y <;> first
    | (cases hx; done)
    | (cases hy; done)
    | (cases (show v = _ from r1); cases (show u = _ from r2); first
        | exact absurd rfl s
        | exact ⟨rfl, rfl⟩)
end
section
variable {X : Cx} {F : Nat → Addr} {Z : Zn}
theorem eq_cases {x y : D} {v u : HV} {K : PySem.W.Frag} {fa : Nat → Addr} {p : Addr → Prop} {H : Hp} (c : ((flat x && flat y) || (deep 40 x && deep 40 y)) = true) (r1 : RD K fa p H x v) (r2 : RD K fa p H y u) :
    (scal v u = true ∧ decide (v = u) = eqd x y) ∨ (Dp K H v (toPy x) ∧ Dp K H u (toPy y) ∧ SeqAt.shaped (toPy x) = true ∧ SeqAt.shaped (toPy y) = true ∧ PyData.eqv (toPy x) (toPy y) = eqd x y) := by
  have dd : deep 40 x = true → deep 40 y = true → Dp K H v (toPy x) ∧ Dp K H u (toPy y) ∧ SeqAt.shaped (toPy x) = true ∧ SeqAt.shaped (toPy y) = true ∧ PyData.eqv (toPy x) (toPy y) = eqd x y := fun a b =>
    ⟨dp_of 40 x v a r1, dp_of 40 y u b r2, shaped_toPy a, shaped_toPy b, eqv_toPy 40 x y a b⟩
  rcases Bool.or_eq_true_iff.mp c with c | c
  · obtain ⟨a, b⟩ := Bool.and_eq_true_iff.mp c
    by_cases s : scal v u = true
    · exact .inl ⟨s, scal_eq a b r1 r2 s⟩
    · obtain ⟨d1, d2⟩ := not_scal a b r1 r2 s
      exact .inr (dd d1 d2)
  · obtain ⟨a, b⟩ := Bool.and_eq_true_iff.mp c
    exact .inr (dd a b)
theorem o_eq (hu : X.A.units + 64 < cLine) : OpR X (compareOp .Eq) (rO2 (zof X F Z) .eq) := opR_imp (op_eq.or (op_eqD hu)) fun v u H Q q => by
  obtain ⟨σ, mt, m, h, w, w', x, y, z, lk, wr, wr', e1, e2, e3, rt⟩ := q.at rfl
  obtain ⟨c, e⟩ := Option.ite_none_right_eq_some.mp (show (if ((flat x && flat y) || (deep 40 x && deep 40 y)) = true then some (D.bl (eqd x y)) else none) = some z from e3)
  cases e
  rcases eq_cases c (vw_of lk e1 wr) (vw_of lk e2 wr') with ⟨s, e⟩ | ⟨d1, d2, s1, s2, e⟩
  · exact .inl ⟨s, by rw [e]; exact scalar_out lk rt rfl⟩
  · exact .inr ⟨_, _, d1, d2, s1, s2, by rw [e]; exact scalar_out lk rt rfl⟩
theorem o_ne (hu : X.A.units + 64 < cLine) : OpR X (compareOp .NotEq) (rO2 (zof X F Z) .ne) := opR_imp (op_ne.or (op_neD hu)) fun v u H Q q => by
  obtain ⟨σ, mt, m, h, w, w', x, y, z, lk, wr, wr', e1, e2, e3, rt⟩ := q.at rfl
  obtain ⟨c, e⟩ := Option.ite_none_right_eq_some.mp (show (if ((flat x && flat y) || (deep 40 x && deep 40 y)) = true then some (D.bl (!eqd x y)) else none) = some z from e3)
  cases e
  rcases eq_cases c (vw_of lk e1 wr) (vw_of lk e2 wr') with ⟨s, e⟩ | ⟨d1, d2, s1, s2, e⟩
  · exact .inl ⟨s, by rw [e]; exact scalar_out lk rt rfl⟩
  · exact .inr ⟨_, _, d1, d2, s1, s2, by rw [e]; exact scalar_out lk rt rfl⟩

/-! ### order -/
theorem ltN_iff : ∀ x y : List Nat, ltN x y = decide (x < y)
  | [], [] => rfl
  | [], b :: y => (decide_eq_true (List.nil_lt_cons b y)).symm
  | a :: x, [] => (decide_eq_false (List.not_lt_nil _)).symm
  | a :: x, b :: y => by
    unfold ltN
    by_cases h : a = b
    · subst h
      rw [if_pos (by simp), ltN_iff x y]
      exact decide_eq_decide.mpr (by rw [List.cons_lt_cons_iff]; simp)
    · rw [if_neg (by simpa using h)]
      exact decide_eq_decide.mpr (by rw [List.cons_lt_cons_iff]; simp [h])
theorem cps_of (s : List Nat) : (⟨s.toArray⟩ : Str).cps.toList = s := by simp
theorem ord_cases {f : Value → Value → Sem Value} {o : O2} {gi : Int → Int → Bool} {gs : Str → Str → Bool} (ni : isIx o = false) (n2 : ∀ x, new2 o x = false)
    (hi : OpR X f (rI0 fun i j => .bl (gi i j))) (hs : OpR X f (fun x y H Q => ∃ i j, x = .str i ∧ y = .str j ∧ Q (.bl (gs i j)) H))
    (sem : ∀ x y z, op2 o x y = some z → (∃ i j, x = .int i ∧ y = .int j ∧ z = .bl (gi i j)) ∨ ∃ i j, x = .str i ∧ y = .str j ∧ z = .bl (gs ⟨i.toArray⟩ ⟨j.toArray⟩)) : OpR X f (rO2 (zof X F Z) o) := opR_imp (hi.or hs) fun v u H Q q => by
  obtain ⟨σ, mt, m, h, w, w', x, y, z, lk, wr, wr', e1, e2, e3, rt⟩ := q.at ni
  rw [n2] at rt
  rcases sem x y z e3 with ⟨i, j, a, b, c⟩ | ⟨i, j, a, b, c⟩
  · subst a; subst b; subst c
    cases (show v = .int i from vw_of lk e1 wr)
    cases (show u = .int j from vw_of lk e2 wr')
    exact .inl ⟨i, j, rfl, rfl, scalar_out lk rt rfl⟩
  · subst a; subst b; subst c
    cases (show v = .str _ from vw_of lk e1 wr)
    cases (show u = .str _ from vw_of lk e2 wr')
    exact .inr ⟨_, _, rfl, rfl, scalar_out lk rt rfl⟩
theorem o_lt : OpR X (compareOp .Lt) (rO2 (zof X F Z) .lt) := ord_cases rfl (fun _ => rfl) op_lt op_lt_str fun x y z e => by
  cases x <;> cases y <;> first | (cases e; done) | (cases e; exact .inl ⟨_, _, rfl, rfl, rfl⟩) | (cases e; exact .inr ⟨_, _, rfl, rfl, by rw [ltN_iff, cps_of, cps_of]⟩)
theorem o_le : OpR X (compareOp .LtE) (rO2 (zof X F Z) .le) := ord_cases rfl (fun _ => rfl) op_le op_le_str fun x y z e => by
  cases x <;> cases y <;> first | (cases e; done) | (cases e; exact .inl ⟨_, _, rfl, rfl, rfl⟩) | (cases e; exact .inr ⟨_, _, rfl, rfl, by rw [ltN_iff, cps_of, cps_of]⟩)
theorem o_gt : OpR X (compareOp .Gt) (rO2 (zof X F Z) .gt) := ord_cases rfl (fun _ => rfl) op_gt op_gt_str fun x y z e => by
  cases x <;> cases y <;> first | (cases e; done) | (cases e; exact .inl ⟨_, _, rfl, rfl, rfl⟩) | (cases e; exact .inr ⟨_, _, rfl, rfl, by rw [ltN_iff, cps_of, cps_of]⟩)
theorem o_ge : OpR X (compareOp .GtE) (rO2 (zof X F Z) .ge) := ord_cases rfl (fun _ => rfl) op_ge op_ge_str fun x y z e => by
  cases x <;> cases y <;> first | (cases e; done) | (cases e; exact .inl ⟨_, _, rfl, rfl, rfl⟩) | (cases e; exact .inr ⟨_, _, rfl, rfl, by rw [ltN_iff, cps_of, cps_of]⟩)
end
end G

set_option linter.all false
set_option Elab.async false
set_option maxRecDepth 100000
namespace G
open PySem L2 PyProof.Rows
section
variable {K : PySem.W.Frag} {fa : Nat → Addr} {p : Addr → Prop} {H : Hp}
theorem flat_of {x : D} {v : HV} (h : flat x = true) (r : RD K fa p H x v) : flatV v = true := by
  cases x <;> first | (cases h; done) | (cases (show v = _ from r); rfl)
theorem flats_of : ∀ {xs : List D} {ys : List HV}, xs.all flat = true → RDs K fa p H xs ys → ys.all flatV = true
  | [], ys, _, r => by cases (show ys = [] from r); rfl
  | x :: xs, ys, h, r => by
    obtain ⟨y, t, e, a, b⟩ := r
    subst e
    rw [List.all_cons, Bool.and_eq_true] at h
    rw [List.all_cons, flat_of h.1 a, flats_of h.2 b]; rfl
theorem eqV_of {x y : D} {v u : HV} (hx : flat x = true) (hy : flat y = true) (r1 : RD K fa p H x v) (r2 : RD K fa p H y u) : eqV v u = eqd x y := by
  cases x <;> cases y <;> first
    | (cases hx; done)
    | (cases hy; done)
    | (cases (show v = _ from r1); cases (show u = _ from r2); first | rfl | exact str_beq _ _)
theorem inV_of {x : D} {v : HV} (hx : flat x = true) (r1 : RD K fa p H x v) : ∀ {xs : List D} {ys : List HV}, xs.all flat = true → RDs K fa p H xs ys → inV v ys = inD x xs
  | [], ys, _, r => by cases (show ys = [] from r); rfl
  | y :: xs, ys, h, r => by
    obtain ⟨u, t, e, a, b⟩ := r
    subst e
    rw [List.all_cons, Bool.and_eq_true] at h
    have ih := inV_of hx r1 h.2 b
    unfold inV at ih ⊢
    rw [List.any_cons, ih, eqV_of h.1 hx a r1]
    rfl
theorem contains_dec (c : Nat) (z : List Nat) : decide (c ∈ (⟨z.toArray⟩ : Str).cps.toList) = z.contains c := by
  rw [cps_of]
  by_cases h : c ∈ z
  · rw [decide_eq_true h]; exact (List.contains_iff_mem.mpr h).symm
  · rw [decide_eq_false h]
    cases e : z.contains c with
    | false => rfl
    | true => exact absurd (List.contains_iff_mem.mp e) h
end
section
variable {X : Cx} {F : Nat → Addr} {Z : Zn}
theorem sem_in {x y : D} {r : Bool} (e : opIn x y = some r) :
    (∃ c s, x = .str [c] ∧ y = .str s ∧ r = s.contains c) ∨ ∃ ys, (y = .tup ys ∨ y = .lst ys) ∧ flat x = true ∧ ys.all flat = true ∧ r = inD x ys := by
  have sq : ∀ ys, (if (flat x && ys.all flat) = true then some (inD x ys) else none) = some r → flat x = true ∧ ys.all flat = true ∧ r = inD x ys := fun ys e => by
    obtain ⟨c, e⟩ := Option.ite_none_right_eq_some.mp e
    cases e
    exact ⟨(Bool.and_eq_true_iff.mp c).1, (Bool.and_eq_true_iff.mp c).2, rfl⟩
  cases y with
  | tup ys => exact .inr ⟨ys, .inl rfl, sq ys e⟩
  | lst ys => exact .inr ⟨ys, .inr rfl, sq ys e⟩
  | str s =>
    obtain ⟨c, e1, e2⟩ := Option.map_eq_some_iff.mp (show (sign1 x).map (fun c => s.contains c) = some r from e)
    subst e2
    unfold sign1 at e1
    split at e1
    · cases e1; exact .inl ⟨_, s, rfl, rfl, rfl⟩
    · cases e1
  | _ => cases e
theorem o_in : OpR X (compareOp .In) (rO2 (zof X F Z) .inn) := opR_imp (op_in_sign.or op_in_seq) fun v u H Q q => by
  obtain ⟨σ, mt, m, h, w, w', x, y, z, lk, wr, wr', e1, e2, e3, rt⟩ := q.at rfl
  have rx := vw_of lk e1 wr
  have ry := vw_of lk e2 wr'
  obtain ⟨b0, e4, ez⟩ := Option.map_eq_some_iff.mp (show (opIn x y).map D.bl = some z from e3)
  subst ez
  rcases sem_in e4 with ⟨c, s, a, b, d⟩ | ⟨ys, a, fx, fy, d⟩
  · subst a; subst b; subst d
    cases (show v = .str ⟨#[c]⟩ from rx)
    cases (show u = .str _ from ry)
    exact .inl ⟨c, _, rfl, rfl, by rw [contains_dec]; exact scalar_out lk rt rfl⟩
  · subst d
    rcases a with a | a
    · subst a
      obtain ⟨ad, vs, e, sq, rs⟩ := ry
      subst e
      exact .inr ⟨ad, vs, rfl, .inr sq, flat_of fx rx, flats_of fy rs, by rw [inV_of fx rx fy rs]; exact scalar_out lk rt rfl⟩
    · subst a
      obtain ⟨ad, vs, e, sq, rs⟩ := ry
      subst e
      exact .inr ⟨ad, vs, rfl, .inl sq.sq, flat_of fx rx, flats_of fy rs, by rw [inV_of fx rx fy rs]; exact scalar_out lk rt rfl⟩
theorem o_nin : OpR X (compareOp .NotIn) (rO2 (zof X F Z) .nin) := opR_imp (op_notIn_sign.or op_notIn_seq) fun v u H Q q => by
  obtain ⟨σ, mt, m, h, w, w', x, y, z, lk, wr, wr', e1, e2, e3, rt⟩ := q.at rfl
  have rx := vw_of lk e1 wr
  have ry := vw_of lk e2 wr'
  obtain ⟨b0, e4, ez⟩ := Option.map_eq_some_iff.mp (show (opIn x y).map (fun b => D.bl (!b)) = some z from e3)
  subst ez
  rcases sem_in e4 with ⟨c, s, a, b, d⟩ | ⟨ys, a, fx, fy, d⟩
  · subst a; subst b; subst d
    cases (show v = .str ⟨#[c]⟩ from rx)
    cases (show u = .str _ from ry)
    exact .inl ⟨c, _, rfl, rfl, by rw [contains_dec]; exact scalar_out lk rt rfl⟩
  · subst d
    rcases a with a | a
    · subst a
      obtain ⟨ad, vs, e, sq, rs⟩ := ry
      subst e
      exact .inr ⟨ad, vs, rfl, .inr sq, flat_of fx rx, flats_of fy rs, by rw [inV_of fx rx fy rs]; exact scalar_out lk rt rfl⟩
    · subst a
      obtain ⟨ad, vs, e, sq, rs⟩ := ry
      subst e
      exact .inr ⟨ad, vs, rfl, .inl sq.sq, flat_of fx rx, flats_of fy rs, by rw [inV_of fx rx fy rs]; exact scalar_out lk rt rfl⟩

/-! ### items -/
theorem atZ_atI {α : Type} (xs : List α) (i : Int) : atZ xs i = atI xs i := by
  unfold atZ atI ixN
  by_cases h : 0 ≤ i
  · rw [if_pos h, if_pos h]
    by_cases h2 : i < xs.length
    · rw [if_pos h2]; rfl
    · rw [if_neg h2]
      exact List.getElem?_eq_none (by omega)
  · rw [if_neg h, if_neg h]
    by_cases h2 : -(xs.length : Int) ≤ i
    · rw [if_pos h2, if_pos h2]; rfl
    · rw [if_neg h2, if_neg h2]; rfl
theorem ixZ_ixN (n : Nat) (i : Int) : ixZ n i = ixN n i := rfl
theorem atZ_get {α : Type} {xs : List α} {i : Int} {x : α} (h : atZ xs i = some x) : ∃ j : Nat, xs[j]? = some x ∧ ∀ {β : Type} (ys : List β), ys.length = xs.length → atI ys i = ys[j]? := by
  unfold atZ at h
  by_cases h0 : 0 ≤ i
  · rw [if_pos h0] at h
    refine ⟨_, h, fun ys e => ?_⟩
    rw [← atZ_atI]; unfold atZ; rw [if_pos h0]
  · rw [if_neg h0] at h
    by_cases h2 : -(xs.length : Int) ≤ i
    · rw [if_pos h2] at h
      refine ⟨_, h, fun ys e => ?_⟩
      rw [← atZ_atI]; unfold atZ; rw [if_neg h0, e, if_pos h2]
    · rw [if_neg h2] at h; cases h
theorem WRs.get {K : PySem.W.Frag} {fa : Nat → Addr} {m : LM} {H : Hp} : ∀ {xs : List W} {ys : List HV} {i : Nat} {x : W}, WRs K fa m H xs ys → xs[i]? = some x → ∃ y, ys[i]? = some y ∧ WR K fa m H x y
  | _, _, _, _, .nil, e => by simp at e
  | _, _, 0, _, .cons r _, e => by simp at e; subst e; exact ⟨_, rfl, r⟩
  | _, _, i + 1, x, .cons _ t, e => by
    obtain ⟨y, h1, h2⟩ := WRs.get (i := i) t (by simpa using e)
    exact ⟨y, by simpa using h1, h2⟩
theorem rel_here {σ : L2.St} {m : LM} {h : S} {H : Hp} {w : W} {v : HV} {Q : VK} (lk : Lk Z.K Z.fa m h H) (rt : Rt Z σ (.ok w h) (WRz Z) m H Q) (r : WR Z.K Z.fa m H w v) : Q v H := rt m H v Step.refl lk r
/-- a[i] of lists, tuples, texts -/
theorem ixR_imp {r r' : R2} (h : IxR X r) (k : ∀ x y H Q, r' x y H Q → r x y H Q) : IxR X r' := by
  intro value slice pins s σ H x y v u Q I rx ry q
  exact h value slice pins s σ H x y v u Q I rx ry (k x y H Q q)
theorem o_ix : IxR X (rO2 (zof X F Z) .ix) := ixR_imp (ix_list.or (ix_tup.or ix_str)) fun x y H Q q => by
  obtain ⟨σ, mt, m, h, w, w', lk, wr, wr', rt⟩ := q
  have core : ∀ a i, op2 .ix a (.int i) ≠ none → vw h w = some a → y = .int i → Rt (zof X F Z) σ ((ofO h (op2 .ix a (.int i))).bind fun z h => fin mt false z h) (WRz (zof X F Z)) m H Q →
      (rIxL X.K x y H Q ∨ rIxT X.K x y H Q ∨ rIxS x y H Q) := fun a i hn e1 ey rt0 => by
    obtain ⟨z, e3, rt⟩ := rt0.ofO
    clear rt0
    have rd := vw_in lk e1 wr
    cases a with
    | tup xs =>
      obtain ⟨ad, ys, e, sq, rs⟩ := rd.1 xs rfl
      obtain ⟨j, g1, g2⟩ := atZ_get (show atZ xs i = some z from e3)
      obtain ⟨b, g3, g4⟩ := rs.get g1
      exact .inr (.inl ⟨ad, ys, i, b, e, ey, sq, (g2 ys rs.length.symm).trans g3, scalar_out lk rt g4⟩)
    | lst xs =>
      obtain ⟨ad, ys, e, sq, rs⟩ := rd.2.1 xs rfl
      obtain ⟨j, g1, g2⟩ := atZ_get (show atZ xs i = some z from e3)
      obtain ⟨b, g3, g4⟩ := rs.get g1
      exact .inl ⟨ad, ys, i, b, e, ey, .of sq, (g2 ys rs.length.symm).trans g3, scalar_out lk rt g4⟩
    | str t =>
      cases (show x = .str ⟨t.toArray⟩ from vw_of lk e1 wr)
      obtain ⟨c, e4⟩ := Option.ite_none_right_eq_some.mp (show (if t.length ≤ big then (atZ t i).map fun c => D.str [c] else none) = some z from e3)
      obtain ⟨d, e5, e6⟩ := Option.map_eq_some_iff.mp e4
      subst e6
      exact .inr (.inr ⟨_, i, d, rfl, ey, by rw [str_len]; exact le_line c, by rw [cps_of, ← atZ_atI]; exact e5, scalar_out lk rt rfl⟩)
    | _ => exact absurd rfl hn
  have gen : Rt (zof X F Z) σ ((ofO h (vw h w)).bind fun x h => (ofO h (vw h w')).bind fun y h => (ofO h (op2 .ix x y)).bind fun z h => fin mt (new2 .ix x) z h) (WRz (zof X F Z)) m H Q → (rIxL X.K x y H Q ∨ rIxT X.K x y H Q ∨ rIxS x y H Q) := fun rt => by
    obtain ⟨a, e1, rt⟩ := rt.ofO
    obtain ⟨b, e2, rt⟩ := rt.ofO
    cases b with
    | int i =>
      refine core a i (fun z => ?_) e1 (vw_of lk e2 wr') rt
      rw [z] at rt; exact rt
    | _ => cases a <;> exact False.elim rt
  cases w with
  | ref n =>
    cases w' with
    | d b =>
      cases b with
      | int i =>
        have rt : Rt (zof X F Z) σ ((ofO h (getL h n)).bind fun xs h => ofO h (atZ xs i)) (WRz (zof X F Z)) m H Q := rt
        obtain ⟨xs, e1, rt⟩ := rt.ofO
        have e0 : ∃ b, h[n]? = some (.lst b xs) := by
          unfold getL at e1
          split at e1
          · rename_i b ys e; cases e1; exact ⟨_, e⟩
          · cases e1
        obtain ⟨b0, e0⟩ := e0
        obtain ⟨ad, ys, e, _, hh, wrs⟩ := lk.lst e0 wr
        cases ez : atZ xs i with
        | none => rw [ez] at rt; exact False.elim rt
        | some z =>
          rw [ez] at rt
          obtain ⟨j, g1, g2⟩ := atZ_get ez
          obtain ⟨b, g3, g4⟩ := wrs.get g1
          exact .inl ⟨ad, ys, i, b, e, wr', .of hh, (g2 ys wrs.length.symm).trans g3, rel_here lk rt g4⟩
      | _ => exact gen rt
    | _ => exact gen rt
  | d a => exact gen rt
  | exn k ds => exact gen rt
theorem o_max (hc : X.calm = true) : CallR X (.builtin "max") (fun vs H Q => ∃ v u, vs = [v, u] ∧ rO2 (zof X F Z) .max2 v u H Q) := callR_imp (call_max2 hc) fun vs H Q ⟨v, u, e, q⟩ => by
  subst e
  obtain ⟨i, j, a, b, _, c⟩ := int2 (C := fun _ _ => True) (g := fun i j => .int (if j > i then j else i)) rfl (fun x y z e => by
    cases x <;> cases y <;> first | (cases e; done) | (cases e; exact ⟨_, _, rfl, rfl, trivial, fun _ _ _ _ => rfl, rfl⟩)) q
  subst a; subst b
  exact ⟨i, j, rfl, c⟩
theorem o_min (hc : X.calm = true) : CallR X (.builtin "min") (fun vs H Q => ∃ v u, vs = [v, u] ∧ rO2 (zof X F Z) .min2 v u H Q) := callR_imp (call_min2 hc) fun vs H Q ⟨v, u, e, q⟩ => by
  subst e
  obtain ⟨i, j, a, b, _, c⟩ := int2 (C := fun _ _ => True) (g := fun i j => .int (if j < i then j else i)) rfl (fun x y z e => by
    cases x <;> cases y <;> first | (cases e; done) | (cases e; exact ⟨_, _, rfl, rfl, trivial, fun _ _ _ _ => rfl, rfl⟩)) q
  subst a; subst b
  exact ⟨i, j, rfl, c⟩

/-! ### sums and repetitions -/
theorem str_app (x y : List Nat) : ((⟨x.toArray⟩ : Str) ++ ⟨y.toArray⟩) = ⟨(x ++ y).toArray⟩ := by
  show (⟨x.toArray ++ y.toArray⟩ : Str) = _
  simp
theorem o_add : OpR X (binaryOp .Add) (rO2 (zof X F Z) .add) := opR_imp (op_add.or (op_add_str.or (op_catA.or op_cat))) fun v u H Q q => by
  obtain ⟨σ, mt, m, h, w, w', x, y, z, lk, wr, wr', e1, e2, e3, rt⟩ := q.at rfl
  have rx := vw_in lk e1 wr
  have ry := vw_in lk e2 wr'
  cases x with
  | int i => cases y with
    | int j =>
      cases (show v = .int i from vw_of lk e1 wr)
      cases (show u = .int j from vw_of lk e2 wr')
      cases e3
      exact .inl ⟨i, j, rfl, rfl, scalar_out lk rt rfl⟩
    | _ => cases e3
  | str s => cases y with
    | str t =>
      cases (show v = .str _ from vw_of lk e1 wr)
      cases (show u = .str _ from vw_of lk e2 wr')
      obtain ⟨c, e⟩ := Option.ite_none_right_eq_some.mp (show (if s.length + t.length ≤ big then some (D.str (s ++ t)) else none) = some z from e3)
      cases e
      exact .inr (.inl ⟨_, _, rfl, rfl, by rw [str_len, str_len]; exact le_line c, by rw [str_app]; exact scalar_out lk rt rfl⟩)
    | _ => cases e3
  | tup xs => cases y with
    | tup ys =>
      obtain ⟨a, vs, e4, sq, rs⟩ := rx.1 xs rfl
      obtain ⟨b, us, e5, sq2, rs2⟩ := ry.1 ys rfl
      subst e4; subst e5
      obtain ⟨c, e⟩ := Option.ite_none_right_eq_some.mp (show (if xs.length + ys.length ≤ big then some (D.tup (xs ++ ys)) else none) = some z from e3)
      cases e
      refine .inr (.inr (.inl ⟨a, b, vs, us, rfl, rfl, sq, sq2, by rw [← rs.length, ← rs2.length]; exact le_line c, fun ev => ?_, fun _ eu => ?_, fun _ _ p hp => ?_⟩))
      · subst ev
        have : xs = [] := List.eq_nil_of_length_eq_zero rs.length
        subst this
        exact scalar_out lk rt ⟨b, us, rfl, sq2, rs2⟩
      · subst eu
        have : ys = [] := List.eq_nil_of_length_eq_zero rs2.length
        subst this
        rw [List.append_nil] at rt
        exact scalar_out lk rt ⟨a, vs, rfl, sq, rs⟩
      · exact rt.fin_old (Step.new hp) (lk.new hp) (new_tup lk hp (rs.app rs2))
    | _ => cases e3
  | lst xs => cases y with
    | lst ys =>
      obtain ⟨a, vs, e4, sq, rs⟩ := rx.2.1 xs rfl
      obtain ⟨b, us, e5, sq2, rs2⟩ := ry.2.1 ys rfl
      subst e4; subst e5
      obtain ⟨c, e⟩ := Option.ite_none_right_eq_some.mp (show (if xs.length + ys.length ≤ big then some (D.lst (xs ++ ys)) else none) = some z from e3)
      cases e
      exact .inr (.inr (.inr ⟨a, b, vs, us, rfl, rfl, sq, sq2, by rw [← rs.length, ← rs2.length]; exact le_line c, fun p hp => rt.fin_new lk hp (rs.app rs2)⟩))
    | _ => cases e3
  | _ => cases e3

/-! ### slices -/
theorem cutZ_sIx (n d : Nat) (o : Option Int) : cutZ n d o = HT.sIx n d o := by
  cases o with
  | none => exact (HT.sIx_none n d).symm
  | some i =>
    show (if 0 ≤ i then min i.toNat n else (i + n).toNat) = _
    by_cases h : 0 ≤ i
    · rw [if_pos h]
      obtain ⟨k, rfl⟩ := Int.eq_ofNat_of_zero_le h
      exact (HT.sIx_nat n d k).symm
    · rw [if_neg h]
      show _ = (if i < 0 then (i + (n : Int)).toNat else min i.toNat n)
      rw [if_pos (show i < 0 by omega)]
theorem cutL_V (xs : List HV) (lo hi : Option Int) : G.cutL xs lo hi = cutV xs lo hi := by
  unfold G.cutL cutV
  rw [cutZ_sIx, cutZ_sIx]
end
end G

set_option linter.all false
set_option Elab.async false
set_option maxRecDepth 100000
set_option maxHeartbeats 1000000
namespace G
open PySem L2 PyProof.Rows
section
variable {X : Cx} {F : Nat → Addr} {Z : Zn}
/-! ### times -/
theorem tup_once (l : Addr) (row : Array Value) (n : Nat) (dd : Option Addr) (sl : Array (Option Value)) (u : Tok) :
    Meets (Builtin.«tuple.__mul__» ⟨[.ref l, .int 1 u], []⟩) (fun _ R s => s.heap.get? l = some { cls := .type "tuple", dict := dd, data := .seq row n, slots := sl } ∧ R (.ok (.ret (Value.ref l))) s) :=
  .of_wp fun prog w A R s h => by
    obtain ⟨hp, g, d, tk, os⟩ := s
    obtain ⟨hl, h⟩ := h
    have f1 := AutoSeq1.idx_int
    have c0 : (decide ((1 : Int) < -(2 ^ 63)) || decide ((1 : Int) ≥ 2 ^ 63)) = false := by decide
    have c1 : (row.isEmpty || (1 : Int) == 1) = true := by simp
    wp_walk using wpAny_loadPart' hl
    repeat (first
      | (refine wpAny_ite_false (decide_eq_false (by rw [c0]; exact Bool.false_ne_true)) ?_; wp_walk using wpAny_loadPart' hl)
      | (refine wpAny_ite_true (decide_eq_true (by rw [c1])) ?_; wp_walk using wpAny_loadPart' hl))
    exact ⟨_, rfl, h⟩
def rOnce (K : PySem.W.Frag) : R2 := fun x y H Q => ∃ l xs, x = .ref l ∧ y = .int 1 ∧ SqT K H l xs ∧ Q (.ref l) H
theorem op_once : OpR X (binaryOp .Mult) (rOnce X.K) := by
  intro pins s σ H x y v u Q I rx ry ⟨l, xs, ex, ey, hT, q⟩
  subst ex; subst ey
  cases rx
  obtain ⟨t, rfl⟩ := ry
  obtain ⟨its, r, ⟨⟨cls, dd, data, sl⟩, ho, hc, n, hd⟩, hs⟩ := I.tuple hT
  simp only at hc hd
  subst hc hd
  exact wpAny_binaryOp_repeat_ref (T := "tuple") (U := "int") (by decide) ⟨_, ho, rfl⟩ (fun s' => typeIs_int s' 1 t) noFill_tuple_mul PySem.F.fills_int_mul PySem.F.slot_int_rmul repeat_tuple PySem.F.slot_int_index.lookup
    (call_meets PySem.F.slot_int_rmul (typeIs_int s 1 t) PySem.F.entry_int_rmul (PySem.F.args_int_rmul_2 _ _) (int_rmul_tuple 1 t l its.toArray n dd sl)
      ⟨ho, rfl, ⟨_, ho, rfl⟩, call_meets PySem.F.slot_tuple_mul ⟨_, ho, rfl⟩ PySem.F.entry_tuple_mul (PySem.F.args_tuple_mul_2 _ _) (tup_once l its.toArray n dd sl t) ⟨ho, ⟨.ref l, H, I, rfl, q⟩⟩⟩)
theorem o_mul : OpR X (binaryOp .Mult) (rO2 (zof X F Z) .mul) := opR_imp (op_mul.or (op_rep.or (op_repT.or op_once))) fun v u H Q q => by
  obtain ⟨σ, mt, m, h, w, w', x, y, z, lk, wr, wr', e1, e2, e3, rt⟩ := q.at rfl
  have rx := vw_in lk e1 wr
  cases y with
  | int k =>
    have eu : u = .int k := vw_of lk e2 wr'
    subst eu
    cases x with
    | int i =>
      cases (show v = .int i from vw_of lk e1 wr)
      obtain ⟨c, e⟩ := Option.ite_none_right_eq_some.mp (show (if (i.natAbs < big64 || k.natAbs < big64) = true then some (D.int (i * k)) else none) = some z from e3)
      cases e
      simp only [Bool.or_eq_true, decide_eq_true_eq] at c
      have c2 : (-(18446744073709551616 : Int) < i ∧ i < 18446744073709551616) ∨ (-(18446744073709551616 : Int) < k ∧ k < 18446744073709551616) := by
        rcases c with c | c
        · have c : i.natAbs < 18446744073709551616 := c
          exact .inl (by omega)
        · have c : k.natAbs < 18446744073709551616 := c
          exact .inr (by omega)
      exact .inl ⟨i, k, rfl, rfl, c2, scalar_out lk rt rfl⟩
    | lst xs =>
      obtain ⟨a, vs, e4, sq, rs⟩ := rx.2.1 xs rfl
      subst e4
      obtain ⟨c, e⟩ := Option.ite_none_right_eq_some.mp (show (if (0 ≤ k && k ≤ 1000 && xs.length ≤ 1000) = true then some (D.lst (List.replicate k.toNat xs).flatten) else none) = some z from e3)
      cases e
      simp only [Bool.and_eq_true, decide_eq_true_eq] at c
      refine .inr (.inl ⟨a, k, vs, rfl, rfl, sq, by omega, by omega, ?_, fun p hp => rt.fin_new lk hp (rs.rep _)⟩)
      rw [← rs.length, sl_eq]
      have : xs.length * k.toNat ≤ 1000 * 1000 := Nat.mul_le_mul c.2 (by omega)
      omega
    | tup xs =>
      obtain ⟨a, vs, e4, sq, rs⟩ := rx.1 xs rfl
      subst e4
      obtain ⟨c, e⟩ := Option.ite_none_right_eq_some.mp (show (if (1 ≤ k && k ≤ 1000 && xs.length ≤ 1000 && !xs.isEmpty) = true then some (D.tup (List.replicate k.toNat xs).flatten) else none) = some z from e3)
      cases e
      simp only [Bool.and_eq_true, decide_eq_true_eq, Bool.not_eq_true'] at c
      by_cases k1 : k = 1
      · subst k1
        refine .inr (.inr (.inr ⟨a, vs, rfl, rfl, sq, scalar_out lk rt ?_⟩))
        have : (List.replicate (1 : Int).toNat xs).flatten = xs := by
          show (List.replicate 1 xs).flatten = xs
          simp
        rw [this]
        exact ⟨a, vs, rfl, sq, rs⟩
      · refine .inr (.inr (.inl ⟨a, k, vs, rfl, rfl, sq, fun e => ?_, by omega, c.1.1.2, by rw [← rs.length]; exact c.1.2, fun p hp => rt.fin_old (Step.new hp) (lk.new hp) (new_tup lk hp (rs.rep _))⟩))
        subst e
        have : xs = [] := List.eq_nil_of_length_eq_zero rs.length
        subst this
        cases c.2
    | _ => cases e3
  | _ => cases x <;> cases e3

/-! ### slices -/
def rS (Z : Zn) : HV → Option Int → Option Int → Hp → VK → Prop := fun v lo hi H Q => ∃ σ mt m h w, Lk Z.K Z.fa m h H ∧ WR Z.K Z.fa m H w v ∧
  Rt Z σ ((ofO h (vw h w)).bind fun y h => (ofO h (opS y lo hi)).bind fun z h => fin mt (newS y) z h) (WRz Z) m H Q
theorem slR_imp {r r' : HV → Option Int → Option Int → Hp → VK → Prop} (h : SlR X r) (k : ∀ x lo hi H Q, r' x lo hi H Q → r x lo hi H Q) : SlR X r' := by
  intro pins s σ H x v vl vu lo hi sl Q I rx hs pl pu q
  exact h pins s σ H x v vl vu lo hi sl Q I rx hs pl pu (k x lo hi H Q q)
theorem cutL_all {α : Type} {xs : List α} {lo hi : Option Int} (h : cutZ xs.length 0 lo = 0 ∧ cutZ xs.length xs.length hi = xs.length) : cutL xs lo hi = xs := by
  unfold cutL
  rw [h.1, h.2]
  simp
theorem o_slice : SlR X (rS (zof X F Z)) := slR_imp (sl_list.or (sl_tupA.or sl_str)) fun v lo hi H Q q => by
  obtain ⟨σ, mt, m, h, w, lk, wr, rt⟩ := q
  obtain ⟨y, e1, rt⟩ := rt.ofO
  obtain ⟨z, e2, rt⟩ := rt.ofO
  have rx := vw_in lk e1 wr
  cases y with
  | lst xs =>
    obtain ⟨a, vs, e4, sq, rs⟩ := rx.2.1 xs rfl
    subst e4
    cases e2
    exact .inl ⟨a, vs, rfl, .of sq, fun p hp => by
      rw [← cutL_V]
      exact rt.fin_new lk hp (rs.cutL lo hi)⟩
  | scr xs =>
    obtain ⟨a, vs, e4, sq, rs⟩ := rx.2.2 xs rfl
    subst e4
    cases e2
    exact .inl ⟨a, vs, rfl, sq, fun p hp => by
      rw [← cutL_V]
      exact rt.fin_new lk hp (rs.cutL lo hi)⟩
  | tup xs =>
    obtain ⟨a, vs, e4, sq, rs⟩ := rx.1 xs rfl
    subst e4
    cases e2
    refine .inr (.inl ⟨a, vs, rfl, sq, fun w => ?_, fun w p hp => ?_⟩)
    · rw [← cutZ_sIx, ← cutZ_sIx, ← rs.length] at w
      rw [cutL_all w] at rt
      exact scalar_out lk rt ⟨a, vs, rfl, sq, rs⟩
    · rw [← cutL_V]
      exact rt.fin_old (Step.new hp) (lk.new hp) (new_tup lk hp (rs.cutL lo hi))
  | str t =>
    cases (show v = .str ⟨t.toArray⟩ from vw_of lk e1 wr)
    obtain ⟨c, e⟩ := Option.ite_none_right_eq_some.mp (show (if t.length ≤ big then some (D.str (cutL t lo hi)) else none) = some z from e2)
    cases e
    refine .inr (.inr ⟨_, rfl, by rw [str_len]; exact le_line c, ?_⟩)
    have : cutS ⟨t.toArray⟩ lo hi = ⟨(cutL t lo hi).toArray⟩ := by
      unfold cutS cutL
      rw [str_len, ← cutZ_sIx, ← cutZ_sIx, cps_of]
    rw [this]
    exact scalar_out lk rt rfl
  | _ => cases e2
end
end G

set_option linter.all false
set_option Elab.async false
set_option maxRecDepth 100000
set_option maxHeartbeats 1000000
namespace G
open PySem L2 PyProof.Rows
/-! ### sorted -/
def keyL : List D → List (Int ⊕ List Nat)
  | .int i :: r => .inl i :: keyL r
  | .str s :: r => .inr s :: keyL r
  | _ :: r => keyL r
  | [] => []
abbrev rowK : PyProof.Rows.KeyOrd := listOrd itemOrd
theorem ltL_key : ∀ {x y : List D} {kx ky : List Bool}, kds x = some kx → kds y = some ky → ltL x y = rowK.blt (keyL x) (keyL y)
  | [], [], _, _, _, _ => rfl
  | [], .int _ :: _, _, _, _, _ => rfl
  | [], .str _ :: _, _, _, _, _ => rfl
  | .int _ :: _, [], _, _, _, _ => rfl
  | .str _ :: _, [], _, _, _, _ => rfl
  | .int i :: x, .int j :: y, kx, ky, h1, h2 => by
    obtain ⟨k1, e1, _⟩ := Option.map_eq_some_iff.mp (show (kds x).map (false :: ·) = some kx from h1)
    obtain ⟨k2, e2, _⟩ := Option.map_eq_some_iff.mp (show (kds y).map (false :: ·) = some ky from h2)
    show (ltI (.int i) (.int j) || (!ltI (.int j) (.int i) && ltL x y)) = (itemLt (.inl i) (.inl j) || (!itemLt (.inl j) (.inl i) && lexLt itemOrd (keyL x) (keyL y)))
    rw [ltL_key e1 e2]; rfl
  | .int i :: x, .str j :: y, kx, ky, h1, h2 => rfl
  | .str i :: x, .int j :: y, kx, ky, h1, h2 => by
    show (ltI (.str i) (.int j) || (!ltI (.int j) (.str i) && ltL x y)) = (itemLt (.inr i) (.inl j) || (!itemLt (.inl j) (.inr i) && lexLt itemOrd (keyL x) (keyL y)))
    rfl
  | .str i :: x, .str j :: y, kx, ky, h1, h2 => by
    obtain ⟨k1, e1, _⟩ := Option.map_eq_some_iff.mp (show (kds x).map (true :: ·) = some kx from h1)
    obtain ⟨k2, e2, _⟩ := Option.map_eq_some_iff.mp (show (kds y).map (true :: ·) = some ky from h2)
    show (ltI (.str i) (.str j) || (!ltI (.str j) (.str i) && ltL x y)) = (itemLt (.inr i) (.inr j) || (!itemLt (.inr j) (.inr i) && lexLt itemOrd (keyL x) (keyL y)))
    rw [ltL_key e1 e2]; rfl
  | .non :: _, _, _, _, h, _ => by cases h
  | .bl _ :: _, _, _, _, h, _ => by cases h
  | .tup _ :: _, _, _, _, h, _ => by cases h
  | .lst _ :: _, _, _, _, h, _ => by cases h
  | .fn _ :: _, _, _, _, h, _ => by cases h
  | .scr _ :: _, _, _, _, h, _ => by cases h
  | _, .non :: _, _, _, _, h => by cases h
  | _, .bl _ :: _, _, _, _, h => by cases h
  | _, .tup _ :: _, _, _, _, h => by cases h
  | _, .lst _ :: _, _, _, _, h => by cases h
  | _, .fn _ :: _, _, _, _, h => by cases h
  | _, .scr _ :: _, _, _, _, h => by cases h
theorem keyL_inj : ∀ {x y : List D} {kx ky : List Bool}, kds x = some kx → kds y = some ky → keyL x = keyL y → x = y
  | [], [], _, _, _, _, _ => rfl
  | [], .int _ :: _, _, _, _, _, h => by cases h
  | [], .str _ :: _, _, _, _, _, h => by cases h
  | .int _ :: _, [], _, _, _, _, h => by cases h
  | .str _ :: _, [], _, _, _, _, h => by cases h
  | .int i :: x, .int j :: y, kx, ky, h1, h2, h => by
    obtain ⟨k1, e1, _⟩ := Option.map_eq_some_iff.mp (show (kds x).map (false :: ·) = some kx from h1)
    obtain ⟨k2, e2, _⟩ := Option.map_eq_some_iff.mp (show (kds y).map (false :: ·) = some ky from h2)
    have h : (Sum.inl i : Int ⊕ List Nat) :: keyL x = .inl j :: keyL y := h
    injection h with a b
    injection a with a
    rw [a, keyL_inj e1 e2 b]
  | .int i :: x, .str j :: y, kx, ky, h1, h2, h => by
    have h : (Sum.inl i : Int ⊕ List Nat) :: keyL x = .inr j :: keyL y := h
    injection h with a b
    cases a
  | .str i :: x, .int j :: y, kx, ky, h1, h2, h => by
    have h : (Sum.inr i : Int ⊕ List Nat) :: keyL x = .inl j :: keyL y := h
    injection h with a b
    cases a
  | .str i :: x, .str j :: y, kx, ky, h1, h2, h => by
    obtain ⟨k1, e1, _⟩ := Option.map_eq_some_iff.mp (show (kds x).map (true :: ·) = some kx from h1)
    obtain ⟨k2, e2, _⟩ := Option.map_eq_some_iff.mp (show (kds y).map (true :: ·) = some ky from h2)
    have h : (Sum.inr i : Int ⊕ List Nat) :: keyL x = .inr j :: keyL y := h
    injection h with a b
    injection a with a
    rw [a, keyL_inj e1 e2 b]
  | .non :: _, _, _, _, h, _, _ => by cases h
  | .bl _ :: _, _, _, _, h, _, _ => by cases h
  | .tup _ :: _, _, _, _, h, _, _ => by cases h
  | .lst _ :: _, _, _, _, h, _, _ => by cases h
  | .fn _ :: _, _, _, _, h, _, _ => by cases h
  | .scr _ :: _, _, _, _, h, _, _ => by cases h
  | _, .non :: _, _, _, _, h, _ => by cases h
  | _, .bl _ :: _, _, _, _, h, _ => by cases h
  | _, .tup _ :: _, _, _, _, h, _ => by cases h
  | _, .lst _ :: _, _, _, _, h, _ => by cases h
  | _, .fn _ :: _, _, _, _, h, _ => by cases h
  | _, .scr _ :: _, _, _, _, h, _ => by cases h
/-! the sorting itself -/
theorem putIn_perm {lt : D → D → Bool} {a : D} : ∀ l : List D, (putIn lt a l).Perm (a :: l)
  | [] => .refl _
  | y :: r => by
    unfold putIn
    split
    · exact .refl _
    · exact ((putIn_perm r).cons y).trans (.swap a y r)
theorem srt_permA {lt : D → D → Bool} : ∀ (l acc : List D), (l.foldl (fun acc x => putIn lt x acc) acc).Perm (l ++ acc)
  | [], acc => .refl _
  | x :: r, acc => by
    rw [List.foldl_cons]
    exact (srt_permA r _).trans (((putIn_perm acc).append_left r).trans List.perm_middle)
theorem srt_perm {lt : D → D → Bool} (l : List D) : (srt lt l).Perm l := by
  have := srt_permA (lt := lt) l []
  rwa [List.append_nil] at this
/-- none stands ahead of a smaller one -/
def leD (k : D → List (Int ⊕ List Nat)) (a b : D) : Prop := rowK.blt (k b) (k a) = false
theorem putIn_sorted {lt : D → D → Bool} {k : D → List (Int ⊕ List Nat)} {a : D} : ∀ l : List D, (∀ y ∈ l, lt a y = rowK.blt (k a) (k y)) → l.Pairwise (leD k) → (putIn lt a l).Pairwise (leD k)
  | [], _, _ => by simp [putIn]
  | y :: r, hl, hp => by
    unfold putIn
    obtain ⟨p1, p2⟩ := List.pairwise_cons.mp hp
    have e := hl y (List.mem_cons_self ..)
    split
    · rename_i c
      rw [e] at c
      refine List.pairwise_cons.mpr ⟨fun z hz => ?_, hp⟩
      rcases List.mem_cons.mp hz with q | q
      · subst q; exact KeyOrd.klt_asymm c
      · exact KeyOrd.kle_trans (O := rowK) (KeyOrd.klt_asymm c) (p1 z q)
    · rename_i c
      rw [e] at c
      refine List.pairwise_cons.mpr ⟨fun z hz => ?_, putIn_sorted r (fun z hz => hl z (List.mem_cons_of_mem _ hz)) p2⟩
      rcases List.mem_cons.mp ((putIn_perm r).mem_iff.mp hz) with q | q
      · subst q; exact KeyOrd.kle_of_not_klt (O := rowK) c
      · exact p1 z q
theorem srt_sortedA {lt : D → D → Bool} {k : D → List (Int ⊕ List Nat)} : ∀ (l acc : List D), (∀ x ∈ l, ∀ y, y ∈ l ∨ y ∈ acc → lt x y = rowK.blt (k x) (k y)) → acc.Pairwise (leD k) → (l.foldl (fun acc x => putIn lt x acc) acc).Pairwise (leD k)
  | [], acc, _, h => h
  | x :: r, acc, hl, h => by
    rw [List.foldl_cons]
    refine srt_sortedA r _ (fun a ha y hy => ?_) (putIn_sorted acc (fun y hy => hl x (List.mem_cons_self ..) y (.inr hy)) h)
    rcases hy with q | q
    · exact hl a (List.mem_cons_of_mem _ ha) y (.inl (List.mem_cons_of_mem _ q))
    · rcases List.mem_cons.mp ((putIn_perm acc).mem_iff.mp q) with z | z
      · exact hl a (List.mem_cons_of_mem _ ha) y (.inl (by rw [z]; exact List.mem_cons_self ..))
      · exact hl a (List.mem_cons_of_mem _ ha) y (.inr z)
/-- a sorted rearrangement is the sorted one -/
theorem srt_only {xs ds : List D} {ks : List Bool} (hf : ∀ x ∈ xs, fitT ks x = true) (hp : ds.Perm xs) (hs : ds.Pairwise (leD fun d => keyL (rowOf d))) : ds = srt ltB xs := by
  have tp : ∀ x ∈ xs, ∃ r, x = .tup r ∧ kds r = some ks := fun x hx => by
    have := hf x hx
    cases x <;> first | (cases this; done) | exact ⟨_, rfl, of_decide_eq_true this⟩
  have hs2 : (srt ltB xs).Pairwise (leD fun d => keyL (rowOf d)) := srt_sortedA xs [] (fun x hx y hy => by
    obtain ⟨r1, rfl, e1⟩ := tp x hx
    obtain ⟨r2, rfl, e2⟩ := tp y (hy.resolve_right (by simp))
    exact ltL_key e1 e2) .nil
  refine List.Perm.eq_of_pairwise (fun a b ha hb h1 h2 => ?_) hs hs2 (hp.trans (srt_perm xs).symm)
  obtain ⟨r1, rfl, e1⟩ := tp a (hp.mem_iff.mp ha)
  obtain ⟨r2, rfl, e2⟩ := tp b ((srt_perm xs).mem_iff.mp hb)
  rw [keyL_inj e1 e2 (KeyOrd.kle_antisymm (O := rowK) h1 h2)]
/-- a rearrangement of the firsts is one of the pairs -/
theorem perm_lift {α β : Type} {f : α → β} {a b : List β} (h : a.Perm b) : ∀ {zs : List α}, zs.map f = b → ∃ zs' : List α, zs'.Perm zs ∧ zs'.map f = a := by
  induction h with
  | nil => intro zs e; exact ⟨zs, .refl _, e⟩
  | cons x _ ih =>
    intro zs e
    cases zs with
    | nil => cases e
    | cons z zs =>
      injection e with e1 e2
      obtain ⟨zs', p, q⟩ := ih e2
      exact ⟨z :: zs', p.cons z, by rw [List.map_cons, q, e1]⟩
  | swap x y l =>
    intro zs e
    match zs, e with
    | z1 :: z2 :: zs, e =>
      injection e with e1 e2
      injection e2 with e2 e3
      exact ⟨z2 :: z1 :: zs, .swap _ _ _, by simp [e1, e2, e3]⟩
  | trans _ _ ih1 ih2 =>
    intro zs e
    obtain ⟨z1, p1, q1⟩ := ih2 e
    obtain ⟨z2, p2, q2⟩ := ih1 q1
    exact ⟨z2, p2.trans p1, q2⟩
/-! on the machine -/
section
variable {K : PySem.W.Frag} {fa : Nat → Addr} {q : Addr → Prop} {H : Hp}
theorem triples : ∀ {xs : List D} {ys : List HV} {vs : List Value}, RDs K fa q H xs ys → Vals ys vs → ∃ zs : List (Value × D × HV), zs.map (·.1) = vs ∧ zs.map (·.2.1) = xs ∧ zs.map (·.2.2) = ys ∧ ∀ z ∈ zs, RD K fa q H z.2.1 z.2.2 ∧ RelV z.2.2 z.1
  | [], ys, vs, r, w => by
    cases (show ys = [] from r)
    cases w
    exact ⟨[], rfl, rfl, rfl, fun z h => by cases h⟩
  | x :: xs, ys, vs, r, w => by
    obtain ⟨y, t, e, h1, h2⟩ := r
    subst e
    cases w with
    | cons a b =>
      obtain ⟨zs, e1, e2, e3, h⟩ := triples h2 b
      refine ⟨(_, x, y) :: zs, by rw [List.map_cons, e1], by rw [List.map_cons, e2], by rw [List.map_cons, e3], fun z hz => ?_⟩
      rcases List.mem_cons.mp hz with w | w
      · subst w; exact ⟨h1, a⟩
      · exact h z w
theorem back_of : ∀ {zs : List (Value × D × HV)}, (∀ z ∈ zs, RD K fa q H z.2.1 z.2.2 ∧ RelV z.2.2 z.1) → RDs K fa q H (zs.map (·.2.1)) (zs.map (·.2.2)) ∧ Vals (zs.map (·.2.2)) (zs.map (·.1))
  | [], _ => ⟨rfl, .nil⟩
  | z :: zs, h => by
    obtain ⟨a, b⟩ := back_of fun y hy => h y (List.mem_cons_of_mem _ hy)
    obtain ⟨c, d⟩ := h z (List.mem_cons_self ..)
    exact ⟨⟨_, _, rfl, c, a⟩, .cons d b⟩
theorem items_of {shape : Nat → Bool} : ∀ {ds : List D} {ys : List HV} {vs : List Value} {ks : List Bool} {i : Nat}, RDs K fa q H ds ys → Vals ys vs → kds ds = some ks → (∀ (j : Nat) b, ks[j]? = some b → shape (i + j) = b) → tupItems shape i vs = some (keyL ds)
  | [], ys, vs, ks, i, r, w, e, hs => by
    cases (show ys = [] from r)
    cases w
    rfl
  | .int n :: ds, ys, vs, ks, i, r, w, e, hs => by
    obtain ⟨y, t, e1, h1, h2⟩ := r
    subst e1
    cases (show y = .int n from h1)
    obtain ⟨k2, e2, e3⟩ := Option.map_eq_some_iff.mp (show (kds ds).map (false :: ·) = some ks from e)
    subst e3
    cases w with
    | cons a b =>
      obtain ⟨tk, rfl⟩ := a
      have s0 : shape i = false := hs 0 false rfl
      have ih := items_of (i := i + 1) h2 b e2 fun j b hb => by rw [Nat.add_assoc, Nat.add_comm 1 j]; exact hs (j + 1) b (by simpa using hb)
      show (if shape i = true then none else (tupItems shape (i + 1) _).map (Sum.inl n :: ·)) = _
      rw [s0, if_neg (by decide), ih]; rfl
  | .str n :: ds, ys, vs, ks, i, r, w, e, hs => by
    obtain ⟨y, t, e1, h1, h2⟩ := r
    subst e1
    cases (show y = .str ⟨n.toArray⟩ from h1)
    obtain ⟨k2, e2, e3⟩ := Option.map_eq_some_iff.mp (show (kds ds).map (true :: ·) = some ks from e)
    subst e3
    cases w with
    | cons a b =>
      obtain ⟨tk, rfl⟩ := a
      have s0 : shape i = true := hs 0 true rfl
      have ih := items_of (i := i + 1) h2 b e2 fun j b hb => by rw [Nat.add_assoc, Nat.add_comm 1 j]; exact hs (j + 1) b (by simpa using hb)
      show (if shape i = true then (tupItems shape (i + 1) _).map (Sum.inr _ :: ·) else none) = _
      rw [s0, if_pos rfl, ih]; rfl
  | .non :: _, _, _, _, _, _, _, h, _ => by cases h
  | .bl _ :: _, _, _, _, _, _, _, h, _ => by cases h
  | .tup _ :: _, _, _, _, _, _, _, h, _ => by cases h
  | .lst _ :: _, _, _, _, _, _, _, h, _ => by cases h
  | .fn _ :: _, _, _, _, _, _, _, h, _ => by cases h
  | .scr _ :: _, _, _, _, _, _, _, h, _ => by cases h
end
section
variable {X : Cx} {F : Nat → Addr} {Z : Zn} {pins : List (Addr × Obj)} {σ : L2.St} {H : Hp} {s : Shared} {q : Addr → Prop}
theorem key_of (I : Inv X pins σ H s) {k : Bool} {ks : List Bool} {v : Value} {d : D} {y : HV} (rd : RD X.K F q H d y) (rv : RelV y v) (hf : fitT (k :: ks) d = true) :
    G.tupKeyC s.heap (fun j => (k :: ks).getD j false) v = some (keyL (rowOf d)) ∧ ∃ f, TupOf s.heap (fun j => (k :: ks).getD j false) v f := by
  cases d with
  | tup ds =>
    have hk : kds ds = some (k :: ks) := of_decide_eq_true hf
    obtain ⟨ad, zs, e, sq, rs⟩ := rd
    subst e
    cases (show v = .ref ad from rv)
    obtain ⟨its, r2, ⟨o, ho, hc, n, hd⟩, _⟩ := I.tuple sq
    have it := items_of (shape := fun j => (k :: ks).getD j false) (i := 0) rs r2 hk fun j b hb => by
      show (k :: ks).getD (0 + j) false = b
      rw [Nat.zero_add, List.getD_eq_getElem?_getD, hb]; rfl
    refine ⟨?_, ?_⟩
    · unfold PyProof.Rows.G.tupKeyC
      rw [if_pos (by unfold PyProof.Rows.G.isTupObj; simp only [ho, hc]; rfl)]
      unfold tupKey
      simp only [ho, hd]
      exact it
    · cases ds with
      | nil => cases hk
      | cons d0 ds =>
        obtain ⟨y0, t0, e0, h0, _⟩ := rs
        subst e0
        cases r2 with
        | cons a b =>
          refine ⟨_, ad, o, _, n, rfl, ho, hc, hd, rfl, fun hs => ?_, fun hs => ?_⟩
          · have hs : k = false := hs
            subst hs
            cases d0 with
            | int i => cases (show y0 = .int i from h0); obtain ⟨t, rfl⟩ := a; exact ⟨_, _, rfl⟩
            | str i => obtain ⟨k2, _, e3⟩ := Option.map_eq_some_iff.mp (show (kds ds).map (true :: ·) = some _ from hk); cases e3
            | _ => cases hk
          · have hs : k = true := hs
            subst hs
            cases d0 with
            | int i => obtain ⟨k2, _, e3⟩ := Option.map_eq_some_iff.mp (show (kds ds).map (false :: ·) = some _ from hk); cases e3
            | str i => cases (show y0 = .str _ from h0); obtain ⟨t, rfl⟩ := a; exact ⟨_, _, rfl⟩
            | _ => cases hk
  | _ => cases hf
theorem tups_of {shape : Nat → Bool} {h : Heap} : ∀ {vs : List Value}, (∀ v ∈ vs, ∃ f, TupOf h shape v f) → ∃ fs, TupsOf h shape vs fs
  | [], _ => ⟨[], .nil⟩
  | v :: vs, k => by
    obtain ⟨f, e⟩ := k v (List.mem_cons_self ..)
    obtain ⟨fs, e2⟩ := tups_of fun w hw => k w (List.mem_cons_of_mem _ hw)
    exact ⟨f :: fs, .cons e e2⟩
theorem fit_ks {xs : List D} (h : fitS xs = true) : xs = [] ∨ ∃ k ks, ∀ x ∈ xs, fitT (k :: ks) x = true := by
  cases xs with
  | nil => exact .inl rfl
  | cons x r =>
    have h : (match kdsOf x with
      | some (k :: ks) => (x :: r).all (fitT (k :: ks))
      | _ => false) = true := h
    cases e : kdsOf x with
    | none => rw [e] at h; cases h
    | some l =>
      rw [e] at h
      cases l with
      | nil => cases h
      | cons k ks => exact .inr ⟨k, ks, fun y hy => List.all_eq_true.mp h y hy⟩
theorem arr_pairs {vs : List Value} {arr : Array Keyed} (p : arr.Perm (pairsOf vs)) : (arr.map (·.2)).toList.Perm vs ∧ (∀ k ∈ arr.toList, k.1 = k.2) ∧ arr.size = (pairsOf vs).size := by
  have p2 : arr.toList.Perm (pairsOf vs).toList := Array.perm_iff_toList_perm.mp p
  have e : (pairsOf vs).toList = vs.map fun v => (v, v) := by
    unfold pairsOf
    rw [Array.toList_zip]
    clear p p2
    show vs.zip vs = _
    induction vs with
    | nil => rfl
    | cons v vs ih => rw [List.zip_cons_cons, List.map_cons, ih]
  rw [e] at p2
  refine ⟨?_, fun k hk => ?_, p.size_eq⟩
  · have := p2.map (·.2)
    rw [List.map_map] at this
    simpa [Function.comp_def] using this
  · obtain ⟨v, _, rfl⟩ := List.mem_map.mp (p2.mem_iff.mp hk)
    rfl
theorem o_srt : CallR X (.builtin "sorted") (rO1 ⟨X.K, F, Z.ea, Z.fl, Z.wx⟩ .srt) := by
  intro pins s σ0 H vs us Q I r q
  obtain ⟨v, e, q⟩ := q
  subst e
  obtain ⟨σ, mt, m, h, w, x, z, lk, wr, e1, e2, rt⟩ := q.at
  cases x with
  | lst xs =>
    obtain ⟨a, ys, e3, hq, rs⟩ := (vw_in lk e1 wr).2.1 xs rfl
    subst e3
    obtain ⟨hf, e4⟩ := Option.ite_none_right_eq_some.mp (show (if fitS xs = true then some (D.lst (srt ltB xs)) else none) = some z from e2)
    cases e4
    obtain ⟨its, rv, hl, hz⟩ := I.list (.of hq)
    rw [Vals.ref1 r]
    obtain ⟨zs, z1, z2, z3, hzs⟩ := triples rs rv
    have hlen : its.length ≤ sizeLine := by rw [← rv.length]; exact hz
    -- what comes of a rearrangement
    have fin : ∀ (arr : Array Keyed) (ds : List D) (ys' : List HV), RDs X.K F (still m) H ds ys' → Vals ys' (arr.map (·.2)).toList → ds = srt ltB xs → ys'.length ≤ sizeLine →
        EP X pins σ0 Q (.ref (s.heap.objs.size + 1)) { s with heap := sortedAll s.heap its (arr.map (·.2)) } := fun arr ds ys' r1 r2 e hl2 => by
      subst e
      obtain ⟨ep, he'⟩ := sortedAll_at s.heap its (arr.map (·.2))
      have hp : H (s.heap.objs.size + 1) = none := I.hok.fresh (Nat.le_succ _)
      exact ⟨.ref _, upd H (s.heap.objs.size + 1) (.lst ys'), I.laid (t' := s.toks) (fun _ _ => sortedAll_old) (Nat.le_succ _) ⟨hl2, _, ep, r2, he'⟩, rfl, rt.fin_new lk hp r1⟩
    rcases fit_ks hf with rfl | ⟨k, ks, hks⟩
    · have zn : zs = [] := by cases zs with | nil => rfl | cons _ _ => cases z2
      subst zn
      have iv : its = [] := z1.symm
      subst iv
      refine PyProof.Rows.G.sorted_tups (shape := fun _ => false) hl.isList .nil (fun v hv => by cases hv) hlen fun st' a1 a2 a3 => ?_
      obtain ⟨b1, b2, b3⟩ := arr_pairs a1
      have e0 : ((arrOf st').map (·.2)).toList = [] := List.perm_nil.mp b1
      exact fin (arrOf st') [] [] rfl (by rw [e0]; exact .nil) rfl (Nat.zero_le _)
    · have key : ∀ v ∈ its, ∃ z ∈ zs, z.1 = v := fun v hv => by
        rw [← z1] at hv
        obtain ⟨z, a, b⟩ := List.mem_map.mp hv
        exact ⟨z, a, b⟩
      have zf : ∀ z ∈ zs, fitT (k :: ks) z.2.1 = true := fun z hz => hks _ (by rw [← z2]; exact List.mem_map.mpr ⟨z, hz, rfl⟩)
      have kz : ∀ z ∈ zs, _ := fun z hz => key_of I (hzs z hz).1 (hzs z hz).2 (zf z hz)
      obtain ⟨fs, tf⟩ := tups_of (shape := fun j => (k :: ks).getD j false) (h := s.heap) (vs := its) fun v hv => by
        obtain ⟨z, a, b⟩ := key v hv
        rw [← b]; exact (kz z a).2
      refine PyProof.Rows.G.sorted_tups hl.isList tf (fun v hv => by
        obtain ⟨z, a, b⟩ := key v hv
        rw [← b]; exact ⟨_, (kz z a).1⟩) hlen fun st' a1 a2 a3 => ?_
      obtain ⟨b1, b2, b3⟩ := arr_pairs a1
      obtain ⟨zs', p1, p2⟩ := perm_lift (f := fun z : Value × D × HV => z.1) b1 z1
      obtain ⟨r1, r2⟩ := back_of (K := X.K) (fa := F) (q := still m) (H := H) (zs := zs') fun z hz => hzs z (p1.mem_iff.mp hz)
      rw [p2] at r2
      have pp : (zs'.map (·.2.1)).Perm xs := by rw [← z2]; exact p1.map _
      refine fin (arrOf st') _ _ r1 r2 (srt_only hks pp ?_) ?_
      · rw [List.pairwise_iff_getElem]
        intro i j hi hj hij
        rw [List.length_map] at hi hj
        have hsz : (arrOf st').size = zs'.length := by
          have := congrArg List.length p2
          simpa using this.symm
        have ki : ∀ (i : Nat) (hi : i < zs'.length), KK (PyProof.Rows.G.tupKindC s.heap fun j => (k :: ks).getD j false) (arrOf st') i = keyL (rowOf (zs'[i]).2.1) := fun i hi => by
          have hi2 : i < (arrOf st').size := by omega
          have e5 : ((arrOf st')[i]).2 = (zs'[i]).1 := by
            have := congrArg (fun l => l[i]?) p2
            simp only [List.getElem?_map, Array.toList_map] at this
            rw [List.getElem?_eq_getElem hi] at this
            rw [List.getElem?_eq_getElem (by simpa using hi2)] at this
            simpa using this.symm
          have e6 : ((arrOf st')[i]).1 = ((arrOf st')[i]).2 := b2 _ (by simp)
          unfold KK
          rw [Array.getElem?_eq_getElem hi2]
          simp only []
          rw [e6, e5]
          have := (kz _ (p1.mem_iff.mp (List.getElem_mem hi))).1
          show ((PyProof.Rows.G.tupKeyC s.heap (fun j => (k :: ks).getD j false) (zs'[i]).1).getD []) = _
          rw [this]; rfl
        have := a2 i j (Nat.le_of_lt hij) (by rw [← b3, hsz]; exact hj)
        rw [ki i hi, ki j hj] at this
        rw [List.getElem_map, List.getElem_map]
        exact this
      · rw [List.length_map, p1.length_eq]
        have := congrArg List.length z1
        rw [List.length_map] at this
        omega
  | _ => cases e2
end
end G

set_option linter.all false
set_option Elab.async false
set_option maxRecDepth 100000
namespace G
open PySem L2

/-- a def's names by slot; the scope that runs; the scope whose names may be stored; the slots that may be -/
structure Cc where
  N : List Str
  sc : Scope
  st : Scope
  A : List Nat
/-- global names of the defs (none: a method), of the constants, of the error classes -/
structure Tab where
  fnN : List (Option Str)
  glN : List Str
  exN : List Str

def dName : Expr → Option Str
  | .Name x _ => some x
  | _ => none
def dCall : Expr → Option (Str × List Expr)
  | .Call (.Name f _) es [] _ => some (f, es)
  | _ => none
def dMeth : Expr → Option (Expr × Str × List Expr)
  | .Call (.Attribute o m ap) es [] cp => if (ap.endLine == cp.line) = true then some (o, m, es) else none
  | _ => none
def dBin : Expr → Option (Operator × Expr × Expr)
  | .BinOp a o b _ => some (o, a, b)
  | _ => none
def dUn : Expr → Option (UnaryOp × Expr)
  | .UnaryOp o a _ => some (o, a)
  | _ => none
def dCmp : Expr → Option (CmpOp × Expr × Expr)
  | .Compare a [o] [b] _ => some (o, a, b)
  | _ => none
def dSub : Expr → Option (Expr × Expr)
  | .Subscript a b _ => some (a, b)
  | _ => none
def dSlice : Expr → Option (Expr × Option Expr × Option Expr)
  | .Subscript a (.Slice lo hi none _) _ => some (a, lo, hi)
  | _ => none
def dTup : Expr → Option (List Expr)
  | .Tuple es _ _ => some es
  | _ => none
def dList : Expr → Option (List Expr)
  | .List es _ => some es
  | _ => none
def dBool : Expr → Option (BoolOp × List Expr)
  | .BoolOp o es _ => some (o, es)
  | _ => none
def dIf : Expr → Option (Expr × Expr × Expr)
  | .IfExp t a b _ => some (t, a, b)
  | _ => none
def dComp : Expr → Option (Expr × Expr × Expr × List Expr × Scope)
  | .ListComp e [⟨tg, it, ifs, 0⟩] sc _ => some (e, tg, it, ifs, sc)
  | _ => none
section
variable {x : Expr}
theorem dName_eq {a} (h : dName x = some a) : ∃ p, x = .Name a p := by unfold dName at h; split at h <;> first | (cases h; exact ⟨_, rfl⟩) | cases h
theorem dCall_eq {f es} (h : dCall x = some (f, es)) : ∃ p q, x = .Call (.Name f p) es [] q := by unfold dCall at h; split at h <;> first | (cases h; exact ⟨_, _, rfl⟩) | cases h
theorem dMeth_eq {o m es} (h : dMeth x = some (o, m, es)) : ∃ p q, x = .Call (.Attribute o m p) es [] q ∧ (p.endLine == q.line) = true := by
  unfold dMeth at h
  split at h
  · split at h
    · rename_i c; cases h; exact ⟨_, _, rfl, c⟩
    · cases h
  · cases h
theorem dBin_eq {o a b} (h : dBin x = some (o, a, b)) : ∃ p, x = .BinOp a o b p := by unfold dBin at h; split at h <;> first | (cases h; exact ⟨_, rfl⟩) | cases h
theorem dUn_eq {o a} (h : dUn x = some (o, a)) : ∃ p, x = .UnaryOp o a p := by unfold dUn at h; split at h <;> first | (cases h; exact ⟨_, rfl⟩) | cases h
theorem dCmp_eq {o a b} (h : dCmp x = some (o, a, b)) : ∃ p, x = .Compare a [o] [b] p := by unfold dCmp at h; split at h <;> first | (cases h; exact ⟨_, rfl⟩) | cases h
theorem dSub_eq {a b} (h : dSub x = some (a, b)) : ∃ p, x = .Subscript a b p := by unfold dSub at h; split at h <;> first | (cases h; exact ⟨_, rfl⟩) | cases h
theorem dSlice_eq {a lo hi} (h : dSlice x = some (a, lo, hi)) : ∃ p q, x = .Subscript a (.Slice lo hi none p) q := by unfold dSlice at h; split at h <;> first | (cases h; exact ⟨_, _, rfl⟩) | cases h
theorem dTup_eq {es} (h : dTup x = some es) : ∃ k p, x = .Tuple es k p := by unfold dTup at h; split at h <;> first | (cases h; exact ⟨_, _, rfl⟩) | cases h
theorem dList_eq {es} (h : dList x = some es) : ∃ p, x = .List es p := by unfold dList at h; split at h <;> first | (cases h; exact ⟨_, rfl⟩) | cases h
theorem dBool_eq {o es} (h : dBool x = some (o, es)) : ∃ p, x = .BoolOp o es p := by unfold dBool at h; split at h <;> first | (cases h; exact ⟨_, rfl⟩) | cases h
theorem dIf_eq {t a b} (h : dIf x = some (t, a, b)) : ∃ p, x = .IfExp t a b p := by unfold dIf at h; split at h <;> first | (cases h; exact ⟨_, rfl⟩) | cases h
theorem dComp_eq {e tg it ifs sc} (h : dComp x = some (e, tg, it, ifs, sc)) : ∃ p, x = .ListComp e [⟨tg, it, ifs, 0⟩] sc p := by unfold dComp at h; split at h <;> first | (cases h; exact ⟨_, rfl⟩) | cases h
end
def notStar : Expr → Bool
  | .Starred _ _ => false
  | _ => true
def notSet : Expr → Bool
  | .Set _ _ _ => false
  | _ => true
def notSlice : Expr → Bool
  | .Slice _ _ _ _ => false
  | _ => true
def notCall : Expr → Bool
  | .Call _ _ _ _ => false
  | _ => true
def isVis (sc : Scope) (x : Str) : Bool := match sc.names.lookup x with
  | some .local => true
  | some .cell => true
  | some .free => true
  | _ => false
def isGl (c : Cc) (x : Str) : Bool := match c.sc.names.lookup x with
  | some .globalImplicit => true
  | _ => false
def isSt (c : Cc) (x : Str) : Bool := match c.st.names.lookup x with
  | some .local => true
  | some .cell => true
  | _ => false
def plainN (x : Str) : Bool := !(x == ("__debug__" : Str)) && !(x == ("__classdict__" : Str))
def Cc.blk (c : Cc) (scope : Scope) : Cc := ⟨c.N, relS scope c.sc, scope, List.range c.N.length⟩
def ownP (N : List Str) (own : List Nat) : List (Str × Nat) := own.filterMap fun i => (N[i]?).map fun x => (x, i)
def nm1 : O1 → Option Str
  | .len => some "len" | .toTup => some "tuple" | .toLst => some "list" | .sum => some "sum" | .all => some "all" | .any => some "any"
  | .int1 => some "int" | .srt => some "sorted" | _ => none
def opB : O2 → Option Operator
  | .add => some .Add | .sub => some .Sub | .mul => some .Mult | .fdiv => some .FloorDiv | .mod => some .Mod | .pow => some .Pow | .shl => some .LShift
  | .shr => some .RShift | .band => some .BitAnd | .bor => some .BitOr | _ => none
def opC : O2 → Option CmpOp
  | .eq => some .Eq | .ne => some .NotEq | .lt => some .Lt | .le => some .LtE | .gt => some .Gt | .ge => some .GtE | .inn => some .In | .nin => some .NotIn | _ => none
def tyS : Ty → Str
  | .int => "int" | .bool => "bool" | .str => "str" | .tup => "tuple" | .lst => "list"
def okTys (c : Cc) : List Ty → List Expr → Bool
  | [], [] => true
  | t :: r, x :: xs => (match dName x with | some n => decide (n = tyS t) && isGl c n | none => false) && okTys c r xs
  | _, _ => false
def okTy (c : Cc) (ts : List Ty) (x : Expr) : Bool := match ts with
  | [t] => (match dName x with | some n => decide (n = tyS t) && isGl c n | none => false)
  | ts => (match dTup x with | some es => decide (ts.length ≤ 100) && okTys c ts es | none => false)
def isNonE : Expr → Bool
  | .Constant .none _ _ => true
  | _ => false
def isAndE : Ex → Bool
  | .and1 _ => true
  | .andc _ _ => true
  | _ => false
def isOrE : Ex → Bool
  | .or1 _ => true
  | .orc _ _ => true
  | _ => false
/-- every slot is stored in the comprehension itself -/
def within (own : List Nat) (vs : List Nat) : Bool := vs.all fun i => own.contains i

mutual
def okE (T : Tab) : Ex → Cc → Expr → Bool
  | .var i, c, x => (match dName x with | some n => decide (c.N[i]? = some n) && isVis c.sc n && plainN n | none => false)
  | .non, _, x => isNonE x
  | .bl b, _, x => (match x with | .Constant (.bool d) _ _ => b == d | _ => false)
  | .int i, _, x => (match x with | .Constant (.int j) _ _ => decide (i = j) | _ => false)
  | .str s, _, x => (match x with | .Constant (.str y) _ _ => decide (y = ⟨s.toArray⟩) | _ => false)
  | .glb k, c, x => (match dName x with | some n => decide (T.glN[k]? = some n) && isGl c n && plainN n | none => false)
  | .o1 o mt a, c, x => (match o with
    | .neg => (match dUn x with | some (.USub, y) => okE T a c y | _ => false)
    | .isNon => (match dCmp x with | some (.Is, y, z) => isNonE z && okE T a c y | _ => false)
    | .notNon => (match dCmp x with | some (.IsNot, y, z) => isNonE z && okE T a c y | _ => false)
    | .isk ts => (match dCall x with | some (f, [y, z]) => decide (f = "isinstance") && isGl c f && notStar y && okTy c ts z && okE T a c y | _ => false)
    | o => (match dCall x with | some (f, [y]) => decide (nm1 o = some f) && isGl c f && notStar y && okE T a c y | _ => false))
  | .o2 o mt a b, c, x => (match o with
    | .ix => (match dSub x with | some (y, z) => notSlice z && okE T a c y && okE T b c z | _ => false)
    | .max2 => (match dCall x with | some (f, [y, z]) => decide (f = "max") && isGl c f && notStar y && notStar z && okE T a c y && okE T b c z | _ => false)
    | .min2 => (match dCall x with | some (f, [y, z]) => decide (f = "min") && isGl c f && notStar y && notStar z && okE T a c y && okE T b c z | _ => false)
    | o => (match opB o with
      | some op => (match dBin x with | some (op', y, z) => decide (op = op') && okE T a c y && okE T b c z | _ => false)
      | none => (match opC o with
        | some op => (match dCmp x with | some (op', y, z) => decide (op = op') && notSet z && okE T a c y && okE T b c z | _ => false)
        | none => false)))
  | .and1 a, c, x => (match dBool x with | some (.And, [y]) => okE T a c y | _ => false)
  | .andc a b, c, x => (match x with | .BoolOp .And (y :: z :: r) p => isAndE b && okE T a c y && okE T b c (.BoolOp .And (z :: r) p) | _ => false)
  | .or1 a, c, x => (match dBool x with | some (.Or, [y]) => okE T a c y | _ => false)
  | .orc a b, c, x => (match x with | .BoolOp .Or (y :: z :: r) p => isOrE b && okE T a c y && okE T b c (.BoolOp .Or (z :: r) p) | _ => false)
  | .not a, c, x => (match dUn x with | some (.Not, y) => okE T a c y | _ => false)
  | .ifx t a b, c, x => (match dIf x with | some (y, z, u) => okE T t c y && okE T a c z && okE T b c u | _ => false)
  | .tup es, c, x => (match dTup x with | some ys => okEs T es c ys | _ => false)
  | .lst _ es, c, x => (match dList x with | some ys => okEs T es c ys | _ => false)
  | .slc _ a lo hi, c, x => (match dSlice x with | some (y, l, u) => okE T a c y && okO T lo c l && okO T hi c u | _ => false)
  | .call k es, c, x => (match dCall x with | some (f, y :: ys) => decide (T.fnN[k]? = some (some f)) && isGl c f && plainN f && okEs T es c (y :: ys) | _ => false)
  | .comp _ own e tg it, c, x => (match dComp x with
    | some (y, g, i, [], sc) => blkC c.N c.sc sc (ownP c.N own) && decide ((ownP c.N own).map (·.2) = own) && within own (slots tg) && notSet i &&
        okE T e (c.blk sc) y && okG T tg (c.blk sc) g && okI T it c g i
    | _ => false)
  | .compc _ own e tg it t, c, x => (match dComp x with
    | some (y, g, i, [z], sc) => blkC c.N c.sc sc (ownP c.N own) && decide ((ownP c.N own).map (·.2) = own) && within own (slots tg) && notSet i &&
        okE T e (c.blk sc) y && okG T tg (c.blk sc) g && okI T it c g i && okE T t (c.blk sc) z
    | _ => false)
  | .app a b, c, x => (match dMeth x with | some (y, m, [z]) => decide (m = "append") && notCall y && notStar z && okE T a c y && okE T b c z | _ => false)
  | .pop a, c, x => (match dMeth x with | some (y, m, []) => decide (m = "pop") && notCall y && okE T a c y | _ => false)
  | .frz a, c, x => okE T a c x
def okEs (T : Tab) : Exs → Cc → List Expr → Bool
  | .nil, _, xs => xs.isEmpty
  | .cons a r, c, xs => (match xs with | y :: ys => notStar y && okE T a c y && okEs T r c ys | [] => false)
def okO (T : Tab) : Oe → Cc → Option Expr → Bool
  | .no, _, x => x.isNone
  | .yes a, c, x => (match x with | some y => okE T a c y | none => false)
def okI (T : Tab) : It → Cc → Expr → Expr → Bool
  | .seq a, c, _, x => okE T a c x
  | .rng1 a, c, _, x => (match dCall x with | some (f, [y]) => decide (f = "range") && isGl c f && notStar y && okE T a c y | _ => false)
  | .rng2 a b, c, _, x => (match dCall x with | some (f, [y, z]) => decide (f = "range") && isGl c f && notStar y && notStar z && okE T a c y && okE T b c z | _ => false)
  | .enu a, c, g, x => (dTup g).isSome && (match dCall x with | some (f, [y]) => decide (f = "enumerate") && isGl c f && notStar y && okE T a c y | _ => false)
  | .zip a b, c, g, x => (dTup g).isSome && (match dCall x with | some (f, [y, z]) => decide (f = "zip") && isGl c f && notStar y && notStar z && okE T a c y && okE T b c z | _ => false)
  | .enz a b, c, g, x => (dTup g).isSome && (match dCall x with
    | some (f, [u]) => decide (f = "enumerate") && isGl c f && (match dCall u with | some (f, [y, z]) => decide (f = "zip") && isGl c f && notStar y && notStar z && okE T a c y && okE T b c z | _ => false)
    | _ => false)
def okG (T : Tab) : Tg → Cc → Expr → Bool
  | .nm i, c, x => (match dName x with | some n => decide (c.N[i]? = some n) && isSt c n && c.A.contains i | none => false)
  | .tp ts, c, x => (match dTup x with | some ys => okGs T ts c ys | _ => false)
  | .sub a i, c, x => (match dSub x with | some (y, z) => notSlice z && okE T a c y && okE T i c z | _ => false)
def okGs (T : Tab) : Tgs → Cc → List Expr → Bool
  | .nil, _, xs => xs.isEmpty
  | .cons t r, c, xs => (match xs with | y :: ys => notStar y && okG T t c y && okGs T r c ys | [] => false)
end
def notComp : Expr → Bool
  | .ListComp _ _ _ _ => false
  | .SetComp _ _ _ _ => false
  | .DictComp _ _ _ _ _ => false
  | _ => true
def isFnK (sc : Scope) : Bool := match sc.kind with | .function => true | _ => false
def isLo (sc : Scope) (x : Str) : Bool := match sc.names.lookup x with | some .local => true | _ => false
/-- a name that blocks within know -/
def isCel (sc : Scope) (g : Expr) : Bool := match g with
  | .Name x _ => (match sc.names.lookup x with | some .cell => true | _ => false)
  | _ => false
def notPair (g x : Expr) : Bool := (match g with | .Tuple _ _ _ => false | .List _ _ => false | _ => true) || (dTup x).isNone
def isCompE : Ex → Bool
  | .comp false _ _ _ _ => true
  | .compc false _ _ _ _ _ => true
  | .comp true _ _ _ _ => true
  | .compc true _ _ _ _ _ => true
  | _ => false
def okPar (T : Tab) (i j : Nat) (a b : Ex) (c : Cc) : Stmt → Bool
  | .Assign [.Tuple [.Name x px, .Name y py] _ _] (.Tuple [u, v] _ _) _ => decide (c.N[i]? = some x) && decide (c.N[j]? = some y) && decide (i ≠ j) && decide (x ≠ y) && isLo c.sc x && isLo c.sc y && isFnK c.sc &&
      (px.line == py.line) && !([u, v].all (foldedForSure 8)) && !([u, v].all (constantsAlone 8)) && notStar u && notStar v && c.A.contains i && c.A.contains j && okE T a c u && okE T b c v
  | _ => false
def okLcs (T : Tab) (i : Nat) (e : Ex) (c : Cc) : Stmt → Bool
  | .Assign [.Name y py] (.ListComp a b sc p) _ => decide (c.N[i]? = some y) && isCompE e && isLo c.sc y && isFnK c.sc && (py.line == p.line) && !(sc.names.any fun (n, k) => n == y && (k == .local || k == .cell)) &&
      c.A.contains i && okE T e c (.ListComp a b sc p)
  | _ => false
mutual
def okS (T : Tab) : St → Cc → Stmt → Bool
  | .asg tg e, c, s => (match s with | .Assign [g] x _ => (notComp x || isCel c.sc g) && notPair g x && notStar g && okE T e c x && okG T tg c g | _ => false)
  | .lcs i e, c, s => okLcs T i e c s
  | .par i j a b, c, s => okPar T i j a b c s
  | .aug i e, c, s => (match s with | .AugAssign (.Name x _) .Add y _ => decide (c.N[i]? = some x) && isSt c x && c.A.contains i && okE T e c y | _ => false)
  | .augS a i e, c, s => (match s with | .AugAssign (.Subscript x k _) .Add y _ => notSlice k && okE T a c x && okE T i c k && okE T e c y | _ => false)
  | .ifs t a b, c, s => (match s with | .If x p q _ => okE T t c x && okSs T a c p && okSs T b c q | _ => false)
  | .for tg it b, c, s => (match s with | .For g x p [] _ => notSet x && okG T tg c g && okI T it c g x && okSs T b c p | _ => false)
  | .whl _ t b, c, s => (match s with | .While x p [] _ => okE T t c x && okSs T b c p | _ => false)
  | .ret e, c, s => (match s with | .Return (some x) _ => okE T e c x | _ => false)
  | .retN, _, s => (match s with | .Return none _ => true | _ => false)
  | .brk, _, s => (match s with | .Break _ => true | _ => false)
  | .cnt, _, s => (match s with | .Continue _ => true | _ => false)
  | .pass, _, s => (match s with | .Pass _ => true | .Expr (.Constant (.str _) _ _) _ => true | _ => false)
  | .expr e, c, s => (match s with | .Expr x _ => notComp x && okE T e c x | _ => false)
  | .rais _ _, _, _ => false
  | .nev, _, _ => true
def okSs (T : Tab) : Sts → Cc → List Stmt → Bool
  | .nil, _, xs => xs.isEmpty
  | .cons s r, c, xs => (match xs with | y :: ys => okS T s c y && okSs T r c ys | [] => false)
end
end G

set_option linter.all false
set_option Elab.async false
set_option maxRecDepth 100000
namespace G
open PySem L2 PyProof.Rows

/-! ### what a def promises by its run -/
/-- the wish of a def's caller has no slots -/
def znE (K : PySem.W.Frag) (F : Nat → Addr) (ea : Nat → Addr) (fl : Nat → List Str) (E : XK) : Zn := ⟨K, F, ea, fl, fun c d _ H => E c d H⟩
def spI (K : PySem.W.Frag) (F : Nat → Addr) (ea : Nat → Addr) (fl : Nat → List Str) (P : Prog) (n k : Nat) (np : Nat) : Sp := fun vs H Q E =>
  ∃ m h ws, ws.length = np ∧ Lk K F m h H ∧ WRs K F m H ws vs ∧ Rt (znE K F ea fl E) [] (runFn P n k ws h) (WRz (znE K F ea fl E)) m H Q
/-- a def of the text, as it may be called -/
structure FnF (X : Cx) (n : Nat) (P : Prog) (F ea : Nat → Addr) (fl : Nat → List Str) (k : Nat) (f : Fn) : Prop where
  ex : ∃ (fd : FuncData) (ps : List Str), ps.length = f.nPar ∧ FnOk X.prog X.w X.K X.mg X.base (L2.CX X.prog X.w) n (F k) fd ps (spI X.K F ea fl P n k f.nPar) ∧
    ∀ j, j ≤ f.dfl.length → ∃ (ds : List Value) (dvs : List HV), Binds X.K fd ps ds ∧ Vals dvs ds ∧ ∀ p H, RDs X.K F p H (f.dfl.drop (f.dfl.length - j)) dvs
/-- the built-in names that the text may use -/
def biN : List Str := ["len", "tuple", "list", "sum", "all", "any", "int", "sorted", "isinstance", "max", "min", "range", "enumerate", "zip", "str", "bool", "set", "reversed", "abs", "dict"]
structure Ok (T : Tab) (P : Prog) (n : Nat) (c : Cc) (X : Cx) (F : Nat → Addr) (Z : Zn) : Prop where
  hN : X.N = c.N
  hs : X.env.scope = c.sc
  nd : X.N.Nodup
  hc : X.calm = true
  hr : Room n X.A
  fn : ∀ (k : Nat) (x : Str), T.fnN[k]? = some (some x) → X.mg x = some (.ref (F k)) ∧ PySem.W.keepIn X.K (.ref (F k)) = true
  fo : ∀ (k : Nat) (f : Fn), P.fns[k]? = some f → FnF X n P F Z.ea Z.fl k f
  gl : ∀ (k : Nat) (x : Str) (d : D), T.glN[k]? = some x → P.glbs[k]? = some d → ∃ u v, X.mg x = some u ∧ RelV v u ∧ ∀ p H, RD X.K F p H d v
  bi : ∀ x ∈ biN, X.mg x = none
  tk : Takes X Z.wx
  wi : ∀ (σ σ2 : L2.St) (k : Value) (d : Option Addr) (H : Hp), Off c.A σ σ2 → Z.wx k d σ H → Z.wx k d σ2 H
  po : PassesOwn (model X.prog X.w) X.A X.env X.xe
  st : ∀ x, (c.st.names.lookup x = some .local ∨ c.st.names.lookup x = some .cell) → Loc X.env.scope x ∧ (X.fn x = true ∨ X.env.scope.names.lookup x = some .local)
abbrev Zn.nox (Z : Zn) : Zn := ⟨Z.K, Z.fa, Z.ea, Z.fl, fun _ _ _ _ => False⟩
abbrev calls (P : Prog) (n : Nat) : Calls := ⟨runFn P n, fun k => P.glbs[k]?⟩
section
variable {T : Tab} {P : Prog} {n : Nat} {c : Cc} {X : Cx} {F : Nat → Addr} {Z : Zn}
theorem Ok.vis (ok : Ok T P n c X F Z) {i : Nat} {x : Str} (h1 : c.N[i]? = some x) (h2 : isVis c.sc x = true) : X.N[i]? = some x ∧ Vis X.env.scope x := by
  refine ⟨by rw [ok.hN]; exact h1, ?_⟩
  rw [ok.hs]
  unfold isVis at h2
  split at h2
  · rename_i e; exact .inl e
  · rename_i e; exact .inr (.inl e)
  · rename_i e; exact .inr (.inr e)
  · cases h2
theorem Ok.glob (ok : Ok T P n c X F Z) {x : Str} (h : isGl c x = true) : Gl X x := by
  unfold isGl at h
  split at h
  · rename_i e
    show X.env.scope.names.lookup x = some .globalImplicit
    rw [ok.hs]; exact e
  · cases h
theorem Ok.stores (ok : Ok T P n c X F Z) {i : Nat} {x : Str} (h1 : c.N[i]? = some x) (h2 : isSt c x = true) : X.N[i]? = some x ∧ Loc X.env.scope x ∧ (X.fn x = true ∨ X.env.scope.names.lookup x = some .local) := by
  refine ⟨by rw [ok.hN]; exact h1, ok.st x ?_⟩
  unfold isSt at h2
  split at h2
  · rename_i e; exact .inl e
  · rename_i e; exact .inr e
  · cases h2
theorem plain_of {x : Str} (h : plainN x = true) : (x == ("__debug__" : Str)) = false ∧ (x == ("__classdict__" : Str)) = false := by
  unfold plainN at h
  obtain ⟨a, b⟩ := Bool.and_eq_true_iff.mp h
  exact ⟨by simpa using a, by simpa using b⟩
/-- within a comprehension -/
theorem Ok.blk (ok : Ok T P n c X F Z) (s : Shared) (H : Hp) {scope : Scope} (cl : List (Str × Addr)) (C : Addr) (fp : List Addr) : Ok T P n (c.blk scope) (X.blk s H scope (compEnvC scope cl C X.env) fp) F Z.nox where
  hN := ok.hN
  hs := by
    show relS scope X.env.scope = relS scope c.sc
    rw [ok.hs]
  nd := ok.nd
  hc := ok.hc
  hr := ok.hr
  fn := ok.fn
  fo := fun k f e => ⟨(ok.fo k f e).ex⟩
  gl := ok.gl
  bi := ok.bi
  tk := fun u s' x => takes0 u s' x
  wi := fun _ _ _ _ _ _ z => z
  po := PassesOwn.never
  st := fun x h => by
    have e : (relS scope X.env.scope).names.lookup x = scope.names.lookup x := by
      rcases h with h | h
      · exact (lookup_relS_keep (by decide) h).trans h.symm
      · exact (lookup_relS_keep (by decide) h).trans h.symm
    refine ⟨?_, ?_⟩
    · rcases h with h | h
      · exact .inl (e.trans h)
      · exact .inr (e.trans h)
    · rcases h with h | h
      · exact .inr (e.trans h)
      · refine .inl ?_
        show (scope.names.lookup x == some .cell) = true
        rw [show scope.names.lookup x = some .cell from h]; rfl
theorem nostar1 {e : Expr} {es : List Expr} {env : Env} (h : notStar e = true) : starEach (e :: es) env = (false, eval e env) :: starEach es env := by
  cases e <;> first | rfl | cases h
theorem nostarA {pos : Pos} {env : Env} : ∀ {es : List Expr}, es.all notStar = true → (backTo pos (starEach es env)).any (·.1) = false
  | [], _ => rfl
  | e :: es, h => by
    rw [List.all_cons, Bool.and_eq_true] at h
    rw [nostar1 h.1]
    show (false || (backTo pos (starEach es env)).any (·.1)) = false
    rw [nostarA h.2]; rfl
theorem nobase {o : Expr} {m : Str} {env : Env} (h : notCall o = true) : attributeBase o m env (eval o env) = eval o env := by
  cases o <;> first | rfl | cases h
theorem nomarks {op : CmpOp} {b : Expr} (h : notSet b = true) : behindInMarks op b = false := by
  cases b <;> first | rfl | cases h
theorem plainIx {b : Expr} (h : notSlice b = true) : PlainIx b := fun o i => by
  cases b <;> first | rfl | cases h
theorem nofold {e : Expr} {env : Env} (h : notSet e = true) : ∀ x, foldedSetIterable e env x = pure x := fun x => by
  cases e <;> first | rfl | cases h

/-! ### truth -/
theorem truth_of {K : PySem.W.Frag} {fa : Nat → Addr} {m : LM} {h : S} {H : Hp} {w : W} {v : HV} {b : Bool} (lk : Lk K fa m h H) (wr : WR K fa m H w v) (e : truth h w = some b) : TruV K v H b := by
  cases w with
  | d x =>
    cases x with
    | non => cases e; cases (show v = .non from wr); rfl
    | bl b0 =>
      have wr : v = .bl b0 := wr
      subst wr
      cases e; rfl
    | int i => cases e; cases (show v = .int i from wr); rfl
    | str s =>
      obtain ⟨c, e⟩ := Option.ite_none_right_eq_some.mp (show (if s.length ≤ big then some (!s.isEmpty) else none) = some b from e)
      cases e
      cases (show v = .str _ from wr)
      refine ⟨by rw [str_len]; exact le_line c, ?_⟩
      rw [str_len]
      cases s <;> rfl
    | tup xs =>
      cases e
      obtain ⟨a, ys, e1, sq, rs⟩ := wr
      subst e1
      refine .inr (.inl ⟨ys, sq, ?_⟩)
      cases xs with
      | nil => cases (show ys = [] from rs); rfl
      | cons x r => obtain ⟨y, t, e, _⟩ := rs; subst e; rfl
    | lst xs =>
      cases e
      obtain ⟨a, ys, e1, sq, rs⟩ := wr
      subst e1
      refine .inl ⟨ys, sq.sq, ?_⟩
      cases xs with
      | nil => cases (show ys = [] from rs); rfl
      | cons x r => obtain ⟨y, t, e, _⟩ := rs; subst e; rfl
    | scr xs =>
      cases e
      obtain ⟨a, ys, e1, sq, rs⟩ := wr
      subst e1
      refine .inl ⟨ys, sq.sq, ?_⟩
      cases xs with
      | nil => cases (show ys = [] from rs); rfl
      | cons x r => obtain ⟨y, t, e, _⟩ := rs; subst e; rfl
    | fn k => cases e
  | ref n =>
    unfold truth at e
    cases q : h[n]? with
    | none => simp only [q] at e; cases e
    | some cc =>
      cases cc with
      | lst lkd xs =>
        simp only [q] at e
        cases e
        obtain ⟨a, ys, e1, _, hh, ws⟩ := lk.lst q wr
        subst e1
        refine .inl ⟨ys, .of hh, ?_⟩
        cases ws <;> rfl
      | dead => simp only [q] at e; cases e
      | dct a b => simp only [q] at e; cases e
      | ins a b => simp only [q] at e; cases e
  | exn k ds => exact False.elim wr

/-! ### readings of the pieces -/
theorem tie_of_ok {C : Calls} {e : Ex} {σ : L2.St} {H : Hp} {Q : VK} {m : LM} {h : S} {σ' : Lo} (lk : Lk Z.K Z.fa m h H) (ls : LS Z.K Z.fa m H σ' σ) (x : Rt Z σ (ev C e false σ' h) (WRz Z) m H Q) : TIE Z C e σ H Q := ⟨m, h, σ', lk, ls, x⟩
/-- a value's test by its truth -/
theorem pt_of {C : Calls} {e : Ex} {x : Expr} (hp : PE X x (TIE (zof X F Z) C e)) (he : ∀ whole, isTrue x X.env whole = (do let v ← whole; standAt x.pos; holding [v] (truthy v)))
    (hm : ∀ σ h, ev C e true σ h = (ev C e false σ h).bind (asked true)) : PT X x (TIT (zof X F Z) C e) := by
  refine pt_imp (pt_truth hp he) fun σ H Q q => ?_
  obtain ⟨m, h, σ', lk, ls, rt⟩ := q
  rw [hm] at rt
  obtain ⟨m, h, σ'', lk, ls, rt⟩ := Rt.one lk ls rt
  refine ⟨m, h, σ'', lk, ls, rt.mono fun v H1 ⟨w, h1, m1, st, lk1, wr, rt⟩ => ?_⟩
  obtain ⟨b, e1, rt⟩ := rt.ofO
  exact ⟨b, truth_of lk1 wr e1, rt m1 H1 b Step.refl lk1 rfl⟩
/-- a comparison's test -/
theorem pt_of_cmp {C : Calls} {e : Ex} {a b : Expr} {op : CmpOp} {p : Pos} {r : R2} {ta tb : TE} (ho : OpR X (compareOp op) r) (ha : PE X a ta) (hb : PE X b tb) (hmk : behindInMarks op b = false)
    (hq : ∀ σ H Q, TIE (zof X F Z) C e σ H Q → tOp r ta tb σ H Q) (hm : ∀ σ h, ev C e true σ h = (ev C e false σ h).bind (asked true))
    (hb1 : ∀ σ h w h1, ev C e false σ h = .ok w h1 → ∃ b, w = .d (.bl b)) : PT X (.Compare a [op] [b] p) (TIT (zof X F Z) C e) := by
  refine pt_imp (pt_cmpR ho ha hb hmk) fun σ H Q q => hq σ H _ ?_
  obtain ⟨m, h, σ', lk, ls, rt⟩ := q
  rw [hm] at rt
  refine ⟨m, h, σ', lk, ls, rt.bind.mono fun v H1 ⟨w, h1, m1, eq, st, lk1, wr, rt⟩ => ?_⟩
  obtain ⟨b, e1⟩ := hb1 _ _ _ _ eq
  subst e1
  cases (show v = .bl b from wr)
  exact ⟨b, rfl, rt m1 H1 b Step.refl lk1 rfl⟩
theorem asked_f (r : R W) : (r.bind (asked false)) = r := by cases r <;> rfl
end
end G

set_option linter.all false
set_option Elab.async false
set_option maxRecDepth 100000
set_option maxHeartbeats 1000000
namespace G
open PySem L2 PyProof.Rows
section
variable {T : Tab} {P : Prog} {n : Nat} {F : Nat → Addr}
/-- what the checker's yes is worth -/
def SE (T : Tab) (P : Prog) (n : Nat) (F : Nat → Addr) (e : Ex) : Prop := ∀ (c : Cc) (x : Expr), okE T e c x = true → ∀ (X : Cx) (Z : Zn), Ok T P n c X F Z →
  PE X x (TIE (zof X F Z) (calls P n) e) ∧ PT X x (TIT (zof X F Z) (calls P n) e) ∧ ((isAndE e || isOrE e) = true → PW X x (TIT (zof X F Z) (calls P n) e))
def SA (T : Tab) (P : Prog) (n : Nat) (F : Nat → Addr) (es : Exs) : Prop := ∀ (c : Cc) (xs : List Expr), okEs T es c xs = true → ∀ (X : Cx) (Z : Zn), Ok T P n c X F Z → PA X xs (TIA (zof X F Z) (calls P n) es) ∧ xs.all notStar = true
def SO (T : Tab) (P : Prog) (n : Nat) (F : Nat → Addr) (e : Oe) : Prop := ∀ (c : Cc) (x : Option Expr), okO T e c x = true → ∀ (X : Cx) (Z : Zn), Ok T P n c X F Z → PO X x (TIO (zof X F Z) (calls P n) e)
variable {c : Cc} {X : Cx} {Z : Zn}
/-- from the value's rule to the triple, for plain forms -/
theorem trip {e : Ex} {x : Expr} (hp : PE X x (TIE (zof X F Z) (calls P n) e)) (he : ∀ whole, isTrue x X.env whole = (do let v ← whole; standAt x.pos; holding [v] (truthy v)))
    (hm : ∀ σ h, ev (calls P n) e true σ h = (ev (calls P n) e false σ h).bind (asked true)) (na : (isAndE e || isOrE e) = false) :
    PE X x (TIE (zof X F Z) (calls P n) e) ∧ PT X x (TIT (zof X F Z) (calls P n) e) ∧ ((isAndE e || isOrE e) = true → PW X x (TIT (zof X F Z) (calls P n) e)) :=
  ⟨hp, pt_of hp he hm, fun z => by rw [na] at z; cases z⟩
theorem md_ofO {o : Option W} {h : S} : ((ofO h o).bind (asked true)) = ((ofO h o).bind (asked false)).bind (asked true) := by cases o <;> rfl
theorem md_r (r : R W) : (r.bind (asked true)) = (r.bind (asked false)).bind (asked true) := by cases r <;> rfl

theorem s_var (i : Nat) : SE T P n F (.var i) := fun c x h X Z ok => by
  unfold okE at h
  cases e : dName x with
  | none => rw [e] at h; cases h
  | some a =>
    rw [e] at h
    obtain ⟨h, h3⟩ := Bool.and_eq_true_iff.mp h
    obtain ⟨h1, h2⟩ := Bool.and_eq_true_iff.mp h
    obtain ⟨p, rfl⟩ := dName_eq e
    obtain ⟨v1, v2⟩ := ok.vis (of_decide_eq_true h1) h2
    obtain ⟨p1, p2⟩ := plain_of h3
    refine trip (pe_imp (pe_var v1 v2 p1 p2) fun σ H Q q => ?_) (fun _ => rfl) (fun σ h => by unfold ev; exact md_r _) rfl
    obtain ⟨m, h, σ', lk, ls, rt⟩ := q
    unfold ev at rt
    obtain ⟨w, e1, rt⟩ := rt.ofO
    have e2 : σ'[i]? = some (some w) := by
      cases q : σ'[i]? with
      | none => rw [q] at e1; cases e1
      | some o => rw [q] at e1; exact congrArg some e1
    obtain ⟨v, g1, g2⟩ := ls.at_ i w e2
    exact ⟨v, g1, rel_here lk rt g2⟩
theorem s_const {e : Ex} {x : Expr} {d : D} {v : HV} (hp : PE X x (tC v)) (hx : ∀ whole, isTrue x X.env whole = (do let v ← whole; standAt x.pos; holding [v] (truthy v))) (he : ∀ md σ h, ev (calls P n) e md σ h = asked md (.d d) h) (na : (isAndE e || isOrE e) = false) (r : ∀ p H, RD X.K F p H d v) :
    PE X x (TIE (zof X F Z) (calls P n) e) ∧ PT X x (TIT (zof X F Z) (calls P n) e) ∧ ((isAndE e || isOrE e) = true → PW X x (TIT (zof X F Z) (calls P n) e)) := by
  refine trip (pe_imp hp fun σ H Q q => ?_) hx (fun σ h => by rw [he, he]; rfl) na
  obtain ⟨m, h, σ', lk, ls, rt⟩ := q
  rw [he] at rt
  exact rel_here lk rt (r _ _)
theorem s_non : SE T P n F .non := fun c x h X Z ok => by
  cases x with
  | Constant v k p => cases v with
    | none => exact s_const (d := .non) pe_non (fun _ => rfl) (fun md σ h => by unfold ev; rfl) rfl fun _ _ => rfl
    | _ => cases h
  | _ => cases h
theorem s_bl (b : Bool) : SE T P n F (.bl b) := fun c x h X Z ok => by
  unfold okE at h
  split at h
  · rename_i d k p
    have : b = d := by simpa using h
    subst this
    exact s_const (d := .bl b) pe_bl (fun _ => rfl) (fun md σ h => by unfold ev; rfl) rfl fun _ _ => rfl
  · cases h
theorem s_int (i : Int) : SE T P n F (.int i) := fun c x h X Z ok => by
  unfold okE at h
  split at h
  · have e := of_decide_eq_true h
    subst e
    exact s_const (d := .int i) pe_int (fun _ => rfl) (fun md σ h => by unfold ev; rfl) rfl fun _ _ => rfl
  · cases h
theorem s_str (s : List Nat) : SE T P n F (.str s) := fun c x h X Z ok => by
  unfold okE at h
  split at h
  · have e := of_decide_eq_true h
    subst e
    exact s_const (d := .str s) pe_str (fun _ => rfl) (fun md σ h => by unfold ev; rfl) rfl fun _ _ => rfl
  · cases h
theorem s_glb (k : Nat) : SE T P n F (.glb k) := fun c x h X Z ok => by
  unfold okE at h
  cases e : dName x with
  | none => rw [e] at h; cases h
  | some a =>
    rw [e] at h
    obtain ⟨h, h3⟩ := Bool.and_eq_true_iff.mp h
    obtain ⟨h1, h2⟩ := Bool.and_eq_true_iff.mp h
    obtain ⟨p, rfl⟩ := dName_eq e
    have e1 := of_decide_eq_true h1
    cases ed : P.glbs[k]? with
    | none =>
      -- nothing is promised then
      have stuck : ∀ md σ h, ev (calls P n) (.glb k) md σ h = .bad := fun md σ h => by
        unfold ev
        show (ofO h (P.glbs[k]?)).bind _ = _
        rw [ed]; rfl
      refine ⟨⟨fun pins s σ H Q I q => ?_⟩, ⟨fun pins s σ H Q I q => ?_⟩, fun z => nomatch z⟩
      · obtain ⟨m, h, σ', lk, ls, rt⟩ := q
        rw [stuck] at rt
        exact False.elim rt
      · obtain ⟨m, h, σ', lk, ls, rt⟩ := q
        rw [stuck] at rt
        exact False.elim rt
    | some d =>
      obtain ⟨u, v, g1, g2, g3⟩ := ok.gl k a d e1 ed
      exact s_const (d := d) (pe_glob (ok.glob h2) g1 g2 (plain_of h3).1) (fun _ => rfl) (fun md σ h => by
        unfold ev
        show (ofO h (P.glbs[k]?)).bind _ = _
        rw [ed]; rfl) rfl g3

/-! ### operations -/
theorem boot1 : bootBuiltins ("len" : Str) = some (.builtin "len") ∧ bootBuiltins ("tuple" : Str) = some (.type "tuple") ∧ bootBuiltins ("list" : Str) = some (.type "list") ∧ bootBuiltins ("sum" : Str) = some (.builtin "sum") ∧
    bootBuiltins ("all" : Str) = some (.builtin "all") ∧ bootBuiltins ("any" : Str) = some (.builtin "any") ∧ bootBuiltins ("int" : Str) = some (.type "int") ∧ bootBuiltins ("isinstance" : Str) = some (.builtin "isinstance") ∧
    bootBuiltins ("max" : Str) = some (.builtin "max") ∧ bootBuiltins ("min" : Str) = some (.builtin "min") := by
  refine ⟨?_, ?_, ?_, ?_, ?_, ?_, ?_, ?_, ?_, ?_⟩ <;> decide +kernel
theorem boot2 : ∀ t : Ty, bootBuiltins (tyS t) = some (.type (tyN t)) := by
  intro t
  cases t <;> decide +kernel
theorem nameB : ∀ x ∈ biN, x ≠ ("__name__" : Str) ∧ (x == ("__debug__" : Str)) = false := by
  intro x hx
  have : (biN.all fun x => decide (x ≠ ("__name__" : Str)) && decide ((x == ("__debug__" : Str)) = false)) = true := by decide +kernel
  have := List.all_eq_true.mp this x hx
  simpa using this
theorem r1_of {o : O1} {mt : Bool} {a : Ex} {σ : L2.St} {H : Hp} {Q : VK} (q : TIE (zof X F Z) (calls P n) (.o1 o mt a) σ H Q) : TIE (zof X F Z) (calls P n) a σ H fun v H1 => r1 (zof X F Z) o v H1 Q := by
  obtain ⟨m, h, σ', lk, ls, rt⟩ := q
  unfold ev at rt
  rw [asked_f] at rt
  obtain ⟨m, h, σ', lk, ls, rt⟩ := Rt.one lk ls rt
  exact ⟨m, h, σ', lk, ls, rt.mono fun v H1 ⟨w, h1, m1, st, lk1, wr, rt⟩ => ⟨σ, mt, m1, h1, w, lk1, wr, rt⟩⟩
theorem rO2_of {o : O2} {mt : Bool} {a b : Ex} {σ : L2.St} {H : Hp} {Q : VK} (q : TIE (zof X F Z) (calls P n) (.o2 o mt a b) σ H Q) :
    TIE (zof X F Z) (calls P n) a σ H fun v H1 => TIE (zof X F Z) (calls P n) b σ H1 fun u H2 => rO2 (zof X F Z) o v u H2 Q := by
  obtain ⟨m, h, σ', lk, ls, rt⟩ := q
  unfold ev at rt
  rw [asked_f] at rt
  refine ⟨m, h, σ', lk, ls, rt.bind.mono fun v H1 ⟨w, h1, m1, _, st, lk1, wr, rt⟩ => ?_⟩
  refine ⟨m1, h1, σ', lk1, ls.step lk st, rt.bind.mono fun u H2 ⟨w2, h2, m2, _, st2, lk2, wr2, rt⟩ => ?_⟩
  exact ⟨σ, mt, m2, h2, w, w2, lk2, WR.step lk1 st2 wr, wr2, rt⟩
theorem md1 {o : O1} {mt : Bool} {a : Ex} (σ : Lo) (h : S) : ev (calls P n) (.o1 o mt a) true σ h = (ev (calls P n) (.o1 o mt a) false σ h).bind (asked true) := by
  unfold ev; exact md_r _
theorem md2 {o : O2} {mt : Bool} {a b : Ex} (σ : Lo) (h : S) : ev (calls P n) (.o2 o mt a b) true σ h = (ev (calls P n) (.o2 o mt a b) false σ h).bind (asked true) := by
  unfold ev; exact md_r _
/-- a call of a built-in with one thing -/
theorem s_o1call {o : O1} {mt : Bool} {a : Ex} {f : Str} {y : Expr} {p q : Pos} (ok : Ok T P n c X F Z) (g : isGl c f = true) (hf : f ∈ biN) (ny : notStar y = true) (pa : PE X y (TIE (zof X F Z) (calls P n) a))
    (hr : (∃ id, bootBuiltins f = some (.builtin id) ∧ CallR X (.builtin id) (rO1 (zof X F Z) o)) ∨ ∃ id, bootBuiltins f = some (.type id) ∧ CallR X (.type id) (rO1 (zof X F Z) o)) :
    PE X (.Call (.Name f p) [y] [] q) (TIE (zof X F Z) (calls P n) (.o1 o mt a)) := by
  have n1 := nostar1 (es := []) (env := X.env) ny
  have PA1 : PA X [y] (tCons (TIE (zof X F Z) (calls P n) a) tNil) := pa_cons pa pa_nil n1
  have core : ∀ σ H Q, TIE (zof X F Z) (calls P n) (.o1 o mt a) σ H Q → tCB (rO1 (zof X F Z) o) (tCons (TIE (zof X F Z) (calls P n) a) tNil) σ H Q := fun σ H Q q => by
    obtain ⟨m, h, σ', lk, ls, rt⟩ := r1_of q
    exact ⟨m, h, σ', lk, ls, rt.mono fun v H1 r => ⟨v, rfl, r⟩⟩
  obtain ⟨b1, b2⟩ := nameB f hf
  rcases hr with ⟨id, h1, h2⟩ | ⟨id, h1, h2⟩
  · exact pe_imp (pe_callB h2 (ok.glob g) (ok.bi f hf) h1 PA1 b1 b2 n1 rfl) core
  · exact pe_imp (pe_callTy h2 (ok.glob g) (ok.bi f hf) h1 PA1 b1 b2 n1 rfl) core
theorem pe_tys (ok : Ok T P n c X F Z) : ∀ {ts : List Ty} {xs : List Expr}, okTys c ts xs = true → PA X xs (fun _ H Q => Q (tysV ts) H)
  | [], [], _ => pa_nil
  | [], _ :: _, h => by cases h
  | _ :: _, [], h => by cases h
  | t :: r, x :: xs, h => by
    unfold okTys at h
    obtain ⟨h1, h2⟩ := Bool.and_eq_true_iff.mp h
    cases e : dName x with
    | none => rw [e] at h1; cases h1
    | some a =>
      rw [e] at h1
      obtain ⟨h1, h3⟩ := Bool.and_eq_true_iff.mp h1
      obtain ⟨p, rfl⟩ := dName_eq e
      have e2 := of_decide_eq_true h1
      subst e2
      have mem : tyS t ∈ biN := by cases t <;> decide +kernel
      obtain ⟨b1, b2⟩ := nameB _ mem
      have pe : PE X (.Name (tyS t) p) (tC (.ty (tyN t))) := pe_bltn (ok.glob h3) (ok.bi _ mem) (boot2 t) rfl b1 b2
      exact pa_imp (pa_cons pe (pe_tys ok h2) rfl) fun σ H Q q => q
theorem s_isk {ts : List Ty} {mt : Bool} {a : Ex} {f : Str} {y z : Expr} {p q : Pos} (ok : Ok T P n c X F Z) (g : isGl c f = true) (hf : f = "isinstance") (ny : notStar y = true) (hz : okTy c ts z = true) (pa : PE X y (TIE (zof X F Z) (calls P n) a)) :
    PE X (.Call (.Name f p) [y, z] [] q) (TIE (zof X F Z) (calls P n) (.o1 (.isk ts) mt a)) := by
  subst hf
  have mem : ("isinstance" : Str) ∈ biN := by decide +kernel
  obtain ⟨b1, b2⟩ := nameB _ mem
  have tup : ∀ es, dTup z = some es → ts.length ≤ 100 → okTys c ts es = true → PE X (.Call (.Name "isinstance" p) [y, z] [] q) (TIE (zof X F Z) (calls P n) (.o1 (.isk ts) mt a)) := fun es e hl h => by
    obtain ⟨k, pp, rfl⟩ := dTup_eq e
    have n1 := nostar1 (es := [.Tuple es k pp]) (env := X.env) ny
    refine pe_imp (pe_callB (o_isiT (F := F) (Z := Z) (ts := ts)) (ok.glob g) (ok.bi _ mem) boot1.2.2.2.2.2.2.2.1 (pa_cons pa (pa_cons (pe_tup (pe_tys ok h)) pa_nil rfl) n1) b1 b2 n1 rfl) fun σ H Q q => ?_
    obtain ⟨m, h, σ', lk, ls, rt⟩ := r1_of q
    refine ⟨m, h, σ', lk, ls, rt.mono fun v H1 ⟨σ2, mt2, m2, h2, w2, lk2, wr2, rt2⟩ => ⟨?_, fun p2 hp2 => ⟨v, p2, rfl, upd_same, σ2, mt2, m2, h2, w2, lk2.new hp2, WR.step lk2 (Step.new hp2) wr2, rt2.go (Step.new hp2)⟩⟩⟩
    unfold tysV
    rw [List.length_map]
    exact Nat.le_trans hl (by decide)
  match ts, hz with
  | [t], hz =>
    have hz : (match dName z with | some n => decide (n = tyS t) && isGl c n | none => false) = true := hz
    cases e : dName z with
    | none => rw [e] at hz; cases hz
    | some a0 =>
      rw [e] at hz
      obtain ⟨h1, h3⟩ := Bool.and_eq_true_iff.mp hz
      obtain ⟨p0, rfl⟩ := dName_eq e
      have e2 := of_decide_eq_true h1
      subst e2
      have mem2 : tyS t ∈ biN := by cases t <;> decide +kernel
      obtain ⟨c1, c2⟩ := nameB _ mem2
      have pe : PE X (.Name (tyS t) p0) (tC (.ty (tyN t))) := pe_bltn (ok.glob h3) (ok.bi _ mem2) (boot2 t) rfl c1 c2
      have n1 := nostar1 (es := [.Name (tyS t) p0]) (env := X.env) ny
      refine pe_imp (pe_callB (o_isi (F := F) (Z := Z) (t := t)) (ok.glob g) (ok.bi _ mem) boot1.2.2.2.2.2.2.2.1 (pa_cons pa (pa_cons pe pa_nil rfl) n1) b1 b2 n1 rfl) fun σ H Q q => ?_
      obtain ⟨m, h, σ', lk, ls, rt⟩ := r1_of q
      exact ⟨m, h, σ', lk, ls, rt.mono fun v H1 r => ⟨v, rfl, r⟩⟩
  | [], hz =>
    have hz : (match dTup z with | some es => decide (([] : List Ty).length ≤ 100) && okTys c [] es | none => false) = true := hz
    cases e : dTup z with
    | none => rw [e] at hz; cases hz
    | some es =>
      rw [e] at hz
      exact tup es e (Nat.zero_le _) (Bool.and_eq_true_iff.mp hz).2
  | t :: u :: r, hz =>
    have hz : (match dTup z with | some es => decide ((t :: u :: r).length ≤ 100) && okTys c (t :: u :: r) es | none => false) = true := hz
    cases e : dTup z with
    | none => rw [e] at hz; cases hz
    | some es =>
      rw [e] at hz
      exact tup es e (of_decide_eq_true (Bool.and_eq_true_iff.mp hz).1) (Bool.and_eq_true_iff.mp hz).2
/-- is None -/
theorem pe_nonE {z : Expr} (h : isNonE z = true) : PE X z (tC .non) := by
  unfold isNonE at h
  split at h
  · exact pe_non
  · cases h
theorem notSet_non {z : Expr} (h : isNonE z = true) : notSet z = true := by
  unfold isNonE at h
  split at h
  · rfl
  · cases h
theorem s_isN {mt : Bool} {a : Ex} {y z : Expr} {p : Pos} (hz : isNonE z = true) (pa : PE X y (TIE (zof X F Z) (calls P n) a)) :
    PE X (.Compare y [.Is] [z] p) (TIE (zof X F Z) (calls P n) (.o1 .isNon mt a)) ∧ PT X (.Compare y [.Is] [z] p) (TIT (zof X F Z) (calls P n) (.o1 .isNon mt a)) := by
  have core : ∀ σ H Q, TIE (zof X F Z) (calls P n) (.o1 .isNon mt a) σ H Q → tOp (fun x y H Q => y = .non ∧ r1 (zof X F Z) .isNon x H Q) (TIE (zof X F Z) (calls P n) a) (tC .non) σ H Q := fun σ H Q q => by
    obtain ⟨m, h, σ', lk, ls, rt⟩ := r1_of q
    exact ⟨m, h, σ', lk, ls, rt.mono fun v H1 r => ⟨rfl, r⟩⟩
  refine ⟨pe_imp (pe_cmpR o_isN pa (pe_nonE hz) (nomarks (notSet_non hz))) core, pt_of_cmp o_isN pa (pe_nonE hz) (nomarks (notSet_non hz)) core md1 fun σ h w h1 e => ?_⟩
  unfold ev at e
  rw [asked_f] at e
  cases e1 : ev (calls P n) a false σ h with
  | ok w1 h2 =>
    rw [e1] at e
    simp only [bind_ok, runO1] at e
    cases e2 : vw h2 w1 with
    | none => rw [e2] at e; cases e
    | some x =>
      rw [e2] at e
      simp only [ofO_some, bind_ok] at e
      cases x <;> first
        | (cases mt <;> cases e <;> exact ⟨_, rfl⟩)
        | cases e
  | exc k ds h2 => rw [e1] at e; cases e
  | bad => rw [e1] at e; cases e
theorem s_notN {mt : Bool} {a : Ex} {y z : Expr} {p : Pos} (hz : isNonE z = true) (pa : PE X y (TIE (zof X F Z) (calls P n) a)) :
    PE X (.Compare y [.IsNot] [z] p) (TIE (zof X F Z) (calls P n) (.o1 .notNon mt a)) ∧ PT X (.Compare y [.IsNot] [z] p) (TIT (zof X F Z) (calls P n) (.o1 .notNon mt a)) := by
  have core : ∀ σ H Q, TIE (zof X F Z) (calls P n) (.o1 .notNon mt a) σ H Q → tOp (fun x y H Q => y = .non ∧ r1 (zof X F Z) .notNon x H Q) (TIE (zof X F Z) (calls P n) a) (tC .non) σ H Q := fun σ H Q q => by
    obtain ⟨m, h, σ', lk, ls, rt⟩ := r1_of q
    exact ⟨m, h, σ', lk, ls, rt.mono fun v H1 r => ⟨rfl, r⟩⟩
  refine ⟨pe_imp (pe_cmpR o_notN pa (pe_nonE hz) (nomarks (notSet_non hz))) core, pt_of_cmp o_notN pa (pe_nonE hz) (nomarks (notSet_non hz)) core md1 fun σ h w h1 e => ?_⟩
  unfold ev at e
  rw [asked_f] at e
  cases e1 : ev (calls P n) a false σ h with
  | ok w1 h2 =>
    rw [e1] at e
    simp only [bind_ok, runO1] at e
    cases e2 : vw h2 w1 with
    | none => rw [e2] at e; cases e
    | some x =>
      rw [e2] at e
      simp only [ofO_some, bind_ok] at e
      cases x <;> first
        | (cases mt <;> cases e <;> exact ⟨_, rfl⟩)
        | cases e
  | exc k ds h2 => rw [e1] at e; cases e
  | bad => rw [e1] at e; cases e
theorem s_o1 {o : O1} {mt : Bool} {a : Ex} (ih : SE T P n F a) : SE T P n F (.o1 o mt a) := fun c x h X Z ok => by
  have call : (match dCall x with | some (f, [y]) => decide (nm1 o = some f) && isGl c f && notStar y && okE T a c y | _ => false) = true → (∀ f, nm1 o = some f → f ∈ biN ∧ ((∃ id, bootBuiltins f = some (.builtin id) ∧ CallR X (.builtin id) (rO1 (zof X F Z) o)) ∨ ∃ id, bootBuiltins f = some (.type id) ∧ CallR X (.type id) (rO1 (zof X F Z) o))) →
      PE X x (TIE (zof X F Z) (calls P n) (.o1 o mt a)) ∧ PT X x (TIT (zof X F Z) (calls P n) (.o1 o mt a)) ∧ ((isAndE (.o1 o mt a) || isOrE (.o1 o mt a)) = true → PW X x (TIT (zof X F Z) (calls P n) (.o1 o mt a))) := fun h hr => by
    split at h
    · rename_i f y e
      obtain ⟨h, h4⟩ := Bool.and_eq_true_iff.mp h
      obtain ⟨h, h3⟩ := Bool.and_eq_true_iff.mp h
      obtain ⟨h1, h2⟩ := Bool.and_eq_true_iff.mp h
      obtain ⟨p, q, rfl⟩ := dCall_eq e
      obtain ⟨m1, m2⟩ := hr f (of_decide_eq_true h1)
      exact trip (s_o1call ok h2 m1 h3 (ih c y h4 X Z ok).1 m2) (fun _ => rfl) md1 rfl
    · cases h
  obtain ⟨b1, b2, b3, b4, b5, b6, b7, b8, b9, b10⟩ := boot1
  have mem : ∀ f : Str, (biN.contains f) = true → f ∈ biN := fun f h => List.contains_iff_mem.mp h
  cases o with
  | len => exact call h fun f e => by cases e; exact ⟨mem _ (by decide +kernel), .inl ⟨_, b1, o_len⟩⟩
  | toTup => exact call h fun f e => by cases e; exact ⟨mem _ (by decide +kernel), .inr ⟨_, b2, o_tuple⟩⟩
  | toLst => exact call h fun f e => by cases e; exact ⟨mem _ (by decide +kernel), .inr ⟨_, b3, o_list⟩⟩
  | sum => exact call h fun f e => by cases e; exact ⟨mem _ (by decide +kernel), .inl ⟨_, b4, o_sum ok.hc⟩⟩
  | all => exact call h fun f e => by cases e; exact ⟨mem _ (by decide +kernel), .inl ⟨_, b5, o_all ok.hc⟩⟩
  | any => exact call h fun f e => by cases e; exact ⟨mem _ (by decide +kernel), .inl ⟨_, b6, o_any ok.hc⟩⟩
  | int1 => exact call h fun f e => by cases e; exact ⟨mem _ (by decide +kernel), .inr ⟨_, b7, o_int⟩⟩
  | srt => exact call h fun f e => by cases e; exact ⟨mem _ (by decide +kernel), .inl ⟨_, by first | rfl | decide +kernel, o_srt⟩⟩
  | notv => exact call h fun f e => by cases e
  | neg =>
    unfold okE at h
    simp only [] at h
    split at h
    · rename_i y e
      obtain ⟨p, rfl⟩ := dUn_eq e
      refine trip (pe_imp (pe_un (o_neg (F := F) (Z := Z)) (ih c y h X Z ok).1) fun σ H Q q => ?_) (fun _ => rfl) md1 rfl
      exact r1_of q
    · cases h
  | isNon =>
    unfold okE at h
    simp only [] at h
    split at h
    · rename_i y z e
      obtain ⟨p, rfl⟩ := dCmp_eq e
      obtain ⟨h1, h2⟩ := Bool.and_eq_true_iff.mp h
      obtain ⟨g1, g2⟩ := s_isN (p := p) h1 (ih c y h2 X Z ok).1
      exact ⟨g1, g2, fun z => nomatch z⟩
    · cases h
  | notNon =>
    unfold okE at h
    simp only [] at h
    split at h
    · rename_i y z e
      obtain ⟨p, rfl⟩ := dCmp_eq e
      obtain ⟨h1, h2⟩ := Bool.and_eq_true_iff.mp h
      obtain ⟨g1, g2⟩ := s_notN (p := p) h1 (ih c y h2 X Z ok).1
      exact ⟨g1, g2, fun z => nomatch z⟩
    · cases h
  | isk ts =>
    unfold okE at h
    simp only [] at h
    split at h
    · rename_i f y z e
      obtain ⟨p, q, rfl⟩ := dCall_eq e
      obtain ⟨h, h5⟩ := Bool.and_eq_true_iff.mp h
      obtain ⟨h, h4⟩ := Bool.and_eq_true_iff.mp h
      obtain ⟨h, h3⟩ := Bool.and_eq_true_iff.mp h
      obtain ⟨h1, h2⟩ := Bool.and_eq_true_iff.mp h
      exact trip (s_isk ok h2 (of_decide_eq_true h1) h3 h4 (ih c y h5 X Z ok).1) (fun _ => rfl) md1 rfl
    · cases h
end
end G

set_option linter.all false
set_option Elab.async false
set_option maxRecDepth 100000
set_option maxHeartbeats 1000000
namespace G
open PySem L2 PyProof.Rows
section
variable {T : Tab} {P : Prog} {n : Nat} {F : Nat → Addr} {c : Cc} {X : Cx} {Z : Zn}
theorem cmp_bl {o : O2} {mt : Bool} {a b : Ex} {C : Calls} (ho : opC o ≠ none) (σ : Lo) (h : S) (w : W) (h1 : S) (e : ev C (.o2 o mt a b) false σ h = .ok w h1) : ∃ b, w = .d (.bl b) := by
  unfold ev at e
  rw [asked_f] at e
  cases e1 : ev C a false σ h with
  | ok x h2 =>
    rw [e1] at e
    simp only [bind_ok] at e
    cases e2 : ev C b false σ h2 with
    | ok y h3 =>
      rw [e2] at e
      simp only [bind_ok] at e
      have gen : ((ofO h3 (vw h3 x)).bind fun x h => (ofO h (vw h y)).bind fun y h => (ofO h (op2 o x y)).bind fun z h => fin mt (new2 o x) z h) = .ok w h1 := by
        cases o <;> first | exact e | exact absurd rfl ho
      clear e
      cases e3 : vw h3 x with
      | none => rw [e3] at gen; cases gen
      | some dx =>
        rw [e3] at gen
        simp only [ofO_some, bind_ok] at gen
        cases e4 : vw h3 y with
        | none => rw [e4] at gen; cases gen
        | some dy =>
          rw [e4] at gen
          simp only [ofO_some, bind_ok] at gen
          cases e5 : op2 o dx dy with
          | none => rw [e5] at gen; cases gen
          | some z =>
            rw [e5] at gen
            simp only [ofO_some, bind_ok] at gen
            have hb : ∃ b, z = .bl b := by
              cases o with
              | eq => obtain ⟨_, e⟩ := Option.ite_none_right_eq_some.mp (show (if ((flat dx && flat dy) || (deep 40 dx && deep 40 dy)) = true then some (D.bl (eqd dx dy)) else none) = some z from e5); cases e; exact ⟨_, rfl⟩
              | ne => obtain ⟨_, e⟩ := Option.ite_none_right_eq_some.mp (show (if ((flat dx && flat dy) || (deep 40 dx && deep 40 dy)) = true then some (D.bl (!eqd dx dy)) else none) = some z from e5); cases e; exact ⟨_, rfl⟩
              | inn => obtain ⟨b, _, e⟩ := Option.map_eq_some_iff.mp (show (opIn dx dy).map D.bl = some z from e5); exact ⟨b, e.symm⟩
              | nin => obtain ⟨b, _, e⟩ := Option.map_eq_some_iff.mp (show (opIn dx dy).map (fun b => D.bl (!b)) = some z from e5); exact ⟨_, e.symm⟩
              | lt => cases dx <;> cases dy <;> first | (cases e5; done) | (cases e5; exact ⟨_, rfl⟩)
              | le => cases dx <;> cases dy <;> first | (cases e5; done) | (cases e5; exact ⟨_, rfl⟩)
              | gt => cases dx <;> cases dy <;> first | (cases e5; done) | (cases e5; exact ⟨_, rfl⟩)
              | ge => cases dx <;> cases dy <;> first | (cases e5; done) | (cases e5; exact ⟨_, rfl⟩)
              | _ => exact absurd rfl ho
            obtain ⟨b, rfl⟩ := hb
            have nw : new2 o dx = false := by cases o <;> first | rfl | exact absurd rfl ho
            rw [nw] at gen
            cases mt with
            | false => cases gen; exact ⟨b, rfl⟩
            | true => cases gen
    | exc k ds h3 => rw [e2] at e; cases e
    | bad => rw [e2] at e; cases e
  | exc k ds h2 => rw [e1] at e; cases e
  | bad => rw [e1] at e; cases e
theorem s_o2 {o : O2} {mt : Bool} {a b : Ex} (iha : SE T P n F a) (ihb : SE T P n F b) : SE T P n F (.o2 o mt a b) := fun c x h X Z ok => by
  have hu : X.A.units + 64 < cLine := ok.hr.units
  have bin : ∀ op, opB o = some op → (match dBin x with | some (op', y, z) => decide (op = op') && okE T a c y && okE T b c z | _ => false) = true → OpR X (binaryOp op) (rO2 (zof X F Z) o) →
      PE X x (TIE (zof X F Z) (calls P n) (.o2 o mt a b)) ∧ PT X x (TIT (zof X F Z) (calls P n) (.o2 o mt a b)) ∧ ((isAndE (.o2 o mt a b) || isOrE (.o2 o mt a b)) = true → PW X x (TIT (zof X F Z) (calls P n) (.o2 o mt a b))) := fun op eo h hr => by
    split at h
    · rename_i op' y z e
      obtain ⟨h, h3⟩ := Bool.and_eq_true_iff.mp h
      obtain ⟨h1, h2⟩ := Bool.and_eq_true_iff.mp h
      obtain ⟨p, rfl⟩ := dBin_eq e
      have e2 := of_decide_eq_true h1
      subst e2
      exact trip (pe_imp (pe_op hr (iha c y h2 X Z ok).1 (ihb c z h3 X Z ok).1) fun σ H Q q => rO2_of q) (fun _ => rfl) md2 rfl
    · cases h
  have cmp : ∀ op, opC o = some op → (match dCmp x with | some (op', y, z) => decide (op = op') && notSet z && okE T a c y && okE T b c z | _ => false) = true → OpR X (compareOp op) (rO2 (zof X F Z) o) →
      PE X x (TIE (zof X F Z) (calls P n) (.o2 o mt a b)) ∧ PT X x (TIT (zof X F Z) (calls P n) (.o2 o mt a b)) ∧ ((isAndE (.o2 o mt a b) || isOrE (.o2 o mt a b)) = true → PW X x (TIT (zof X F Z) (calls P n) (.o2 o mt a b))) := fun op eo h hr => by
    split at h
    · rename_i op' y z e
      obtain ⟨h, h3⟩ := Bool.and_eq_true_iff.mp h
      obtain ⟨h, h2⟩ := Bool.and_eq_true_iff.mp h
      obtain ⟨h1, h0⟩ := Bool.and_eq_true_iff.mp h
      obtain ⟨p, rfl⟩ := dCmp_eq e
      have e2 := of_decide_eq_true h1
      subst e2
      refine ⟨pe_imp (pe_cmpR hr (iha c y h2 X Z ok).1 (ihb c z h3 X Z ok).1 (nomarks h0)) fun σ H Q q => rO2_of q, ?_, fun z => nomatch z⟩
      exact pt_of_cmp hr (iha c y h2 X Z ok).1 (ihb c z h3 X Z ok).1 (nomarks h0) (fun σ H Q q => rO2_of q) md2 (cmp_bl (by rw [eo]; exact fun z => nomatch z))
    · cases h
  have two : ∀ f, (match dCall x with | some (g, [y, z]) => decide (g = f) && isGl c g && notStar y && notStar z && okE T a c y && okE T b c z | _ => false) = true → f ∈ biN → (∃ id, bootBuiltins f = some (.builtin id) ∧ CallR X (.builtin id) (fun vs H Q => ∃ v u, vs = [v, u] ∧ rO2 (zof X F Z) o v u H Q)) →
      PE X x (TIE (zof X F Z) (calls P n) (.o2 o mt a b)) ∧ PT X x (TIT (zof X F Z) (calls P n) (.o2 o mt a b)) ∧ ((isAndE (.o2 o mt a b) || isOrE (.o2 o mt a b)) = true → PW X x (TIT (zof X F Z) (calls P n) (.o2 o mt a b))) := fun f h hf ⟨id, hb, hr⟩ => by
    split at h
    · rename_i g y z e
      obtain ⟨h, h6⟩ := Bool.and_eq_true_iff.mp h
      obtain ⟨h, h5⟩ := Bool.and_eq_true_iff.mp h
      obtain ⟨h, h4⟩ := Bool.and_eq_true_iff.mp h
      obtain ⟨h, h3⟩ := Bool.and_eq_true_iff.mp h
      obtain ⟨h1, h2⟩ := Bool.and_eq_true_iff.mp h
      obtain ⟨p, q, rfl⟩ := dCall_eq e
      have e2 := of_decide_eq_true h1
      subst e2
      obtain ⟨b1, b2⟩ := nameB _ hf
      have n1 := nostar1 (es := [z]) (env := X.env) h3
      have n2 := nostar1 (es := []) (env := X.env) h4
      refine trip (pe_imp (pe_callB hr (ok.glob h2) (ok.bi _ hf) hb (pa_cons (iha c y h5 X Z ok).1 (pa_cons (ihb c z h6 X Z ok).1 pa_nil n2) n1) b1 b2 n1 (nostarA (es := [z]) (by simp [h4]))) fun σ H Q q => ?_) (fun _ => rfl) md2 rfl
      obtain ⟨m, h, σ', lk, ls, rt⟩ := rO2_of q
      exact ⟨m, h, σ', lk, ls, rt.mono fun v H1 ⟨m2, h2, σ2, lk2, ls2, rt2⟩ => ⟨m2, h2, σ2, lk2, ls2, rt2.mono fun u H2 r => ⟨v, u, rfl, r⟩⟩⟩
    · cases h
  have mem : ∀ f : Str, (biN.contains f) = true → f ∈ biN := fun f h => List.contains_iff_mem.mp h
  obtain ⟨b1, b2, b3, b4, b5, b6, b7, b8, b9, b10⟩ := boot1
  cases o with
  | add => exact bin _ rfl h o_add
  | sub => exact bin _ rfl h o_sub
  | mul => exact bin _ rfl h o_mul
  | fdiv => exact bin _ rfl h o_fdiv
  | mod => exact bin _ rfl h o_mod
  | pow => exact bin _ rfl h o_pow
  | shl => exact bin _ rfl h o_shl
  | shr => exact bin _ rfl h o_shr
  | band => exact bin _ rfl h o_band
  | bor => exact bin _ rfl h o_bor
  | eq => exact cmp _ rfl h (o_eq hu)
  | ne => exact cmp _ rfl h (o_ne hu)
  | lt => exact cmp _ rfl h o_lt
  | le => exact cmp _ rfl h o_le
  | gt => exact cmp _ rfl h o_gt
  | ge => exact cmp _ rfl h o_ge
  | inn => exact cmp _ rfl h o_in
  | nin => exact cmp _ rfl h o_nin
  | max2 => exact two "max" h (mem _ (by decide +kernel)) ⟨_, b9, o_max ok.hc⟩
  | min2 => exact two "min" h (mem _ (by decide +kernel)) ⟨_, b10, o_min ok.hc⟩
  | ix =>
    unfold okE at h
    simp only [] at h
    split at h
    · rename_i y z e
      obtain ⟨h, h3⟩ := Bool.and_eq_true_iff.mp h
      obtain ⟨h1, h2⟩ := Bool.and_eq_true_iff.mp h
      obtain ⟨p, rfl⟩ := dSub_eq e
      exact trip (pe_imp (pe_ix (o_ix (F := F) (Z := Z)) (iha c y h2 X Z ok).1 (ihb c z h3 X Z ok).1 (plainIx h1)) fun σ H Q q => rO2_of q) (fun _ => rfl) md2 rfl
    · cases h

/-! ### and, or, not, if -/
theorem s_and1 {a : Ex} (ih : SE T P n F a) : SE T P n F (.and1 a) := fun c x h X Z ok => by
  unfold okE at h
  split at h
  · rename_i y e
    obtain ⟨p, rfl⟩ := dBool_eq e
    obtain ⟨i1, i2, _⟩ := ih c y h X Z ok
    have t1 : TIE (zof X F Z) (calls P n) (.and1 a) = TIE (zof X F Z) (calls P n) a := by unfold TIE; simp only [ev]
    have t2 : TIT (zof X F Z) (calls P n) (.and1 a) = TIT (zof X F Z) (calls P n) a := by unfold TIT; simp only [ev]
    rw [t1, t2]
    exact ⟨pe_one i1, (pw_and1 i2).pt, fun _ => pw_and1 i2⟩
  · cases h
theorem s_or1 {a : Ex} (ih : SE T P n F a) : SE T P n F (.or1 a) := fun c x h X Z ok => by
  unfold okE at h
  split at h
  · rename_i y e
    obtain ⟨p, rfl⟩ := dBool_eq e
    obtain ⟨i1, i2, _⟩ := ih c y h X Z ok
    have t1 : TIE (zof X F Z) (calls P n) (.or1 a) = TIE (zof X F Z) (calls P n) a := by unfold TIE; simp only [ev]
    have t2 : TIT (zof X F Z) (calls P n) (.or1 a) = TIT (zof X F Z) (calls P n) a := by unfold TIT; simp only [ev]
    rw [t1, t2]
    exact ⟨pe_one i1, (pw_or1 i2).pt, fun _ => pw_or1 i2⟩
  · cases h
/-- a value that is a truth value -/
theorem bl_of {K : PySem.W.Frag} {fa : Nat → Addr} {m : LM} {H : Hp} {b : Bool} {v : HV} (r : WR K fa m H (.d (.bl b)) v) : v = .bl b := r
theorem tie_and {a b : Ex} {σ : L2.St} {H : Hp} {Q : VK} (q : TIE (zof X F Z) (calls P n) (.andc a b) σ H Q) : tAndV (TIE (zof X F Z) (calls P n) a) (TIE (zof X F Z) (calls P n) b) σ H Q := by
  obtain ⟨m, h, σ', lk, ls, rt⟩ := q
  unfold ev at rt
  refine ⟨m, h, σ', lk, ls, rt.bind.mono fun v H1 ⟨w, h1, m1, _, st, lk1, wr, rt⟩ => ?_⟩
  match w, wr, rt with
  | .d (.bl true), wr, rt => exact ⟨true, bl_of wr, by rw [if_pos rfl]; exact ⟨m1, h1, σ', lk1, ls.step lk st, rt⟩⟩
  | .d (.bl false), wr, rt => exact ⟨false, bl_of wr, by rw [if_neg Bool.false_ne_true]; exact rel_here lk1 rt rfl⟩
  | .d .non, _, rt => exact False.elim rt
  | .d (.int _), _, rt => exact False.elim rt
  | .d (.str _), _, rt => exact False.elim rt
  | .d (.tup _), _, rt => exact False.elim rt
  | .d (.lst _), _, rt => exact False.elim rt
  | .d (.fn _), _, rt => exact False.elim rt
  | .d (.scr _), _, rt => exact False.elim rt
  | .ref _, _, rt => exact False.elim rt
  | .exn _ _, _, rt => exact False.elim rt
theorem tie_or {a b : Ex} {σ : L2.St} {H : Hp} {Q : VK} (q : TIE (zof X F Z) (calls P n) (.orc a b) σ H Q) : tOrV (TIE (zof X F Z) (calls P n) a) (TIE (zof X F Z) (calls P n) b) σ H Q := by
  obtain ⟨m, h, σ', lk, ls, rt⟩ := q
  unfold ev at rt
  refine ⟨m, h, σ', lk, ls, rt.bind.mono fun v H1 ⟨w, h1, m1, _, st, lk1, wr, rt⟩ => ?_⟩
  match w, wr, rt with
  | .d (.bl true), wr, rt => exact ⟨true, bl_of wr, by rw [if_pos rfl]; exact rel_here lk1 rt rfl⟩
  | .d (.bl false), wr, rt => exact ⟨false, bl_of wr, by rw [if_neg Bool.false_ne_true]; exact ⟨m1, h1, σ', lk1, ls.step lk st, rt⟩⟩
  | .d .non, _, rt => exact False.elim rt
  | .d (.int _), _, rt => exact False.elim rt
  | .d (.str _), _, rt => exact False.elim rt
  | .d (.tup _), _, rt => exact False.elim rt
  | .d (.lst _), _, rt => exact False.elim rt
  | .d (.fn _), _, rt => exact False.elim rt
  | .d (.scr _), _, rt => exact False.elim rt
  | .ref _, _, rt => exact False.elim rt
  | .exn _ _, _, rt => exact False.elim rt
abbrev relB : LM → S → Hp → W → Bool → Prop := fun _ _ _ w b => w = .d (.bl b)
theorem tit_and {a b : Ex} {σ : L2.St} {H : Hp} {Q : Bool → Hp → Prop} (q : TIT (zof X F Z) (calls P n) (.andc a b) σ H Q) : tAnd (TIT (zof X F Z) (calls P n) a) (TIT (zof X F Z) (calls P n) b) σ H Q := by
  obtain ⟨m, h, σ', lk, ls, rt⟩ := q
  unfold ev at rt
  refine ⟨m, h, σ', lk, ls, rt.bind.mono fun v H1 ⟨w, h1, m1, _, st, lk1, wr, rt⟩ => ?_⟩
  subst wr
  cases v with
  | true => rw [if_pos rfl]; exact ⟨m1, h1, σ', lk1, ls.step lk st, rt⟩
  | false => rw [if_neg Bool.false_ne_true]; exact rt m1 H1 false Step.refl lk1 rfl
theorem tit_or {a b : Ex} {σ : L2.St} {H : Hp} {Q : Bool → Hp → Prop} (q : TIT (zof X F Z) (calls P n) (.orc a b) σ H Q) : tOr (TIT (zof X F Z) (calls P n) a) (TIT (zof X F Z) (calls P n) b) σ H Q := by
  obtain ⟨m, h, σ', lk, ls, rt⟩ := q
  unfold ev at rt
  refine ⟨m, h, σ', lk, ls, rt.bind.mono fun v H1 ⟨w, h1, m1, _, st, lk1, wr, rt⟩ => ?_⟩
  subst wr
  cases v with
  | true => rw [if_pos rfl]; exact rt m1 H1 true Step.refl lk1 rfl
  | false => rw [if_neg Bool.false_ne_true]; exact ⟨m1, h1, σ', lk1, ls.step lk st, rt⟩
theorem s_andc {a b : Ex} (iha : SE T P n F a) (ihb : SE T P n F b) : SE T P n F (.andc a b) := fun c x h X Z ok => by
  unfold okE at h
  split at h
  · rename_i y z r p
    obtain ⟨h, h3⟩ := Bool.and_eq_true_iff.mp h
    obtain ⟨h1, h2⟩ := Bool.and_eq_true_iff.mp h
    obtain ⟨a1, a2, _⟩ := iha c y h2 X Z ok
    obtain ⟨b1, b2, b3⟩ := ihb c _ h3 X Z ok
    have pw := b3 (by rw [h1]; rfl)
    have w : PW X (.BoolOp .And (y :: z :: r) p) (TIT (zof X F Z) (calls P n) (.andc a b)) := ⟨fun wh pins s σ H Q I q => (pw_and a2 pw).run wh pins s σ H Q I (tit_and q)⟩
    exact ⟨pe_imp (pe_and a1 b1) fun σ H Q q => tie_and q, w.pt, fun _ => w⟩
  · cases h
theorem s_orc {a b : Ex} (iha : SE T P n F a) (ihb : SE T P n F b) : SE T P n F (.orc a b) := fun c x h X Z ok => by
  unfold okE at h
  split at h
  · rename_i y z r p
    obtain ⟨h, h3⟩ := Bool.and_eq_true_iff.mp h
    obtain ⟨h1, h2⟩ := Bool.and_eq_true_iff.mp h
    obtain ⟨a1, a2, _⟩ := iha c y h2 X Z ok
    obtain ⟨b1, b2, b3⟩ := ihb c _ h3 X Z ok
    have pw := b3 (by rw [h1]; cases isAndE b <;> rfl)
    have w : PW X (.BoolOp .Or (y :: z :: r) p) (TIT (zof X F Z) (calls P n) (.orc a b)) := ⟨fun wh pins s σ H Q I q => (pw_or a2 pw).run wh pins s σ H Q I (tit_or q)⟩
    exact ⟨pe_imp (pe_or a1 b1) fun σ H Q q => tie_or q, w.pt, fun _ => w⟩
  · cases h
theorem s_not {a : Ex} (ih : SE T P n F a) : SE T P n F (.not a) := fun c x h X Z ok => by
  unfold okE at h
  split at h
  · rename_i y e
    obtain ⟨p, rfl⟩ := dUn_eq e
    obtain ⟨a1, a2, _⟩ := ih c y h X Z ok
    refine ⟨pe_imp (pe_not a1) fun σ H Q q => ?_, pt_imp (pt_not a2) fun σ H Q q => ?_, fun z => nomatch z⟩
    · obtain ⟨m, h, σ', lk, ls, rt⟩ := q
      unfold ev at rt
      refine ⟨m, h, σ', lk, ls, rt.bind.mono fun v H1 ⟨w, h1, m1, _, st, lk1, wr, rt⟩ => ?_⟩
      match w, wr, rt with
      | .d (.bl k), wr, rt => exact ⟨k, bl_of wr, rel_here lk1 rt rfl⟩
      | .d .non, _, rt => exact False.elim rt
      | .d (.int _), _, rt => exact False.elim rt
      | .d (.str _), _, rt => exact False.elim rt
      | .d (.tup _), _, rt => exact False.elim rt
      | .d (.lst _), _, rt => exact False.elim rt
      | .d (.fn _), _, rt => exact False.elim rt
      | .d (.scr _), _, rt => exact False.elim rt
      | .ref _, _, rt => exact False.elim rt
      | .exn _ _, _, rt => exact False.elim rt
    · obtain ⟨m, h, σ', lk, ls, rt⟩ := q
      unfold ev at rt
      refine ⟨m, h, σ', lk, ls, rt.bind.mono fun v H1 ⟨w, h1, m1, _, st, lk1, wr, rt⟩ => ?_⟩
      subst wr
      exact rt m1 H1 _ Step.refl lk1 rfl
  · cases h
theorem pt_ifExp {t a b : Expr} {p : Pos} {tc ta tb : TT} (ht : PT X t tc) (ha : PT X a ta) (hb : PT X b tb) : PT X (.IfExp t a b p) (fun σ H Q => tc σ H fun k H1 => if k = true then ta σ H1 Q else tb σ H1 Q) := by
  refine ⟨fun pins s σ H Q I h => ?_⟩
  show wpAny _ _ (do if ← isTrue t X.env (eval t X.env) then isTrue a X.env (eval a X.env) else isTrue b X.env (eval b X.env)) _ _ s
  refine wpAny_bind (thn (ht.run pins s σ H _ I h) fun k s1 ⟨H1, I1, q⟩ => ?_)
  cases k with
  | true => exact ha.run pins s1 σ H1 Q I1 q
  | false => exact hb.run pins s1 σ H1 Q I1 q
theorem s_ifx {t a b : Ex} (iht : SE T P n F t) (iha : SE T P n F a) (ihb : SE T P n F b) : SE T P n F (.ifx t a b) := fun c x h X Z ok => by
  unfold okE at h
  split at h
  · rename_i y z u e
    obtain ⟨p, rfl⟩ := dIf_eq e
    obtain ⟨h, h3⟩ := Bool.and_eq_true_iff.mp h
    obtain ⟨h1, h2⟩ := Bool.and_eq_true_iff.mp h
    obtain ⟨_, t2, _⟩ := iht c y h1 X Z ok
    obtain ⟨a1, a2, _⟩ := iha c z h2 X Z ok
    obtain ⟨b1, b2, _⟩ := ihb c u h3 X Z ok
    refine ⟨pe_imp (pe_ifExp t2 a1 b1) fun σ H Q q => ?_, pt_imp (pt_ifExp t2 a2 b2) fun σ H Q q => ?_, fun z => nomatch z⟩
    · obtain ⟨m, h, σ', lk, ls, rt⟩ := q
      unfold ev at rt
      refine ⟨m, h, σ', lk, ls, rt.bind.mono fun v H1 ⟨w, h1, m1, _, st, lk1, wr, rt⟩ => ?_⟩
      subst wr
      cases v with
      | true => rw [if_pos rfl]; exact ⟨m1, h1, σ', lk1, ls.step lk st, rt⟩
      | false => rw [if_neg Bool.false_ne_true]; exact ⟨m1, h1, σ', lk1, ls.step lk st, rt⟩
    · obtain ⟨m, h, σ', lk, ls, rt⟩ := q
      unfold ev at rt
      refine ⟨m, h, σ', lk, ls, rt.bind.mono fun v H1 ⟨w, h1, m1, _, st, lk1, wr, rt⟩ => ?_⟩
      subst wr
      cases v with
      | true => rw [if_pos rfl]; exact ⟨m1, h1, σ', lk1, ls.step lk st, rt⟩
      | false => rw [if_neg Bool.false_ne_true]; exact ⟨m1, h1, σ', lk1, ls.step lk st, rt⟩
  · cases h
end
end G

set_option linter.all false
set_option Elab.async false
set_option maxRecDepth 100000
set_option maxHeartbeats 1000000
namespace G
open PySem L2 PyProof.Rows
section
variable {T : Tab} {P : Prog} {n : Nat} {F : Nat → Addr} {c : Cc} {X : Cx} {Z : Zn}
theorem s_nil : SA T P n F .nil := fun c xs h X Z ok => by
  cases xs with
  | cons a b => cases h
  | nil =>
    refine ⟨pa_imp pa_nil fun σ H Q q => ?_, rfl⟩
    obtain ⟨m, h, σ', lk, ls, rt⟩ := q
    unfold evs at rt
    exact rt m H [] Step.refl lk .nil
theorem s_cons {a : Ex} {r : Exs} (iha : SE T P n F a) (ihr : SA T P n F r) : SA T P n F (.cons a r) := fun c xs h X Z ok => by
  cases xs with
  | nil => cases h
  | cons y ys =>
    unfold okEs at h
    obtain ⟨h, h3⟩ := Bool.and_eq_true_iff.mp h
    obtain ⟨h1, h2⟩ := Bool.and_eq_true_iff.mp h
    obtain ⟨g1, g2⟩ := ihr c ys h3 X Z ok
    refine ⟨pa_imp (pa_cons (iha c y h2 X Z ok).1 g1 (nostar1 h1)) fun σ H Q q => ?_, by rw [List.all_cons, h1, g2]; rfl⟩
    obtain ⟨m, h, σ', lk, ls, rt⟩ := q
    unfold evs at rt
    refine ⟨m, h, σ', lk, ls, rt.bind.mono fun v H1 ⟨w, h1, m1, _, st, lk1, wr, rt⟩ => ?_⟩
    refine ⟨m1, h1, σ', lk1, ls.step lk st, rt.bind.mono fun vs H2 ⟨ws, h2, m2, _, st2, lk2, wrs, rt⟩ => ?_⟩
    exact rt m2 H2 (v :: vs) Step.refl lk2 (.cons (WR.step lk1 st2 wr) wrs)
theorem s_no : SO T P n F .no := fun c x h X Z ok => by
  cases x with
  | some y => cases h
  | none =>
    refine po_imp po_none fun σ H Q q => ?_
    obtain ⟨m, h, σ', lk, ls, rt⟩ := q
    unfold evo at rt
    exact rt m H none Step.refl lk rfl
theorem s_yes {a : Ex} (iha : SE T P n F a) : SO T P n F (.yes a) := fun c x h X Z ok => by
  cases x with
  | none => cases h
  | some y =>
    refine po_imp (po_some (iha c y h X Z ok).1) fun σ H Q q => ?_
    obtain ⟨m, h, σ', lk, ls, rt⟩ := q
    unfold evo at rt
    refine ⟨m, h, σ', lk, ls, rt.bind.mono fun v H1 ⟨w, h1, m1, _, st, lk1, wr, rt⟩ => ?_⟩
    obtain ⟨i, e, rt⟩ := rt.ofO
    match w, e, wr with
    | .d (.int j), e, wr => cases e; exact ⟨i, wr, rt m1 H1 _ Step.refl lk1 rfl⟩
    | .d .non, e, _ => cases e
    | .d (.bl _), e, _ => cases e
    | .d (.str _), e, _ => cases e
    | .d (.tup _), e, _ => cases e
    | .d (.lst _), e, _ => cases e
    | .d (.fn _), e, _ => cases e
    | .d (.scr _), e, _ => cases e
    | .ref _, e, _ => cases e
    | .exn _ _, e, _ => cases e
theorem allD_len : ∀ {ws : List W} {ds : List D}, allD ws = some ds → ds.length = ws.length
  | [], ds, e => by cases e; rfl
  | .d x :: r, ds, e => by
    obtain ⟨es, e1, e2⟩ := Option.map_eq_some_iff.mp (show (allD r).map (x :: ·) = some ds from e)
    subst e2
    simp [allD_len e1]
  | .ref _ :: _, _, e => by cases e
  | .exn _ _ :: _, _, e => by cases e
theorem s_tup {es : Exs} (ih : SA T P n F es) : SE T P n F (.tup es) := fun c x h X Z ok => by
  unfold okE at h
  split at h
  · rename_i ys e
    obtain ⟨k, p, rfl⟩ := dTup_eq e
    refine trip (pe_imp (pe_tup (ih c ys h X Z ok).1) fun σ H Q q => ?_) (fun _ => rfl) (fun σ h => by unfold ev; exact md_r _) rfl
    obtain ⟨m, h, σ', lk, ls, rt⟩ := q
    unfold ev at rt
    rw [asked_f] at rt
    obtain ⟨m, h, σ'', lk, ls, rt⟩ := Rt.many lk ls rt
    refine ⟨m, h, σ'', lk, ls, rt.mono fun vs H1 ⟨ws, h1, m1, st, lk1, wrs, rt⟩ => ?_⟩
    obtain ⟨ds, e1, rt⟩ := rt.ofO
    obtain ⟨cl, rt⟩ := rt.ifT
    refine ⟨?_, fun p hp => ?_⟩
    · rw [← wrs.length, ← allD_len e1]; exact le_line cl
    · exact rt m1 _ (.ref p) (Step.new hp) (lk1.new hp) (new_tup lk1 hp (allD_of e1 wrs))
  · cases h
theorem s_lst {mt : Bool} {es : Exs} (ih : SA T P n F es) : SE T P n F (.lst mt es) := fun c x h X Z ok => by
  unfold okE at h
  split at h
  · rename_i ys e
    obtain ⟨p, rfl⟩ := dList_eq e
    refine trip (pe_imp (pe_lst (ih c ys h X Z ok).1) fun σ H Q q => ?_) (fun _ => rfl) (fun σ h => by unfold ev; exact md_r _) rfl
    obtain ⟨m, h, σ', lk, ls, rt⟩ := q
    unfold ev at rt
    rw [asked_f] at rt
    obtain ⟨m, h, σ'', lk, ls, rt⟩ := Rt.many lk ls rt
    refine ⟨m, h, σ'', lk, ls, rt.mono fun vs H1 ⟨ws, h1, m1, st, lk1, wrs, rt⟩ => ?_⟩
    obtain ⟨cl, rt⟩ := rt.ifT
    refine ⟨by rw [← wrs.length]; exact le_line cl, fun p hp => ?_⟩
    cases mt with
    | true => exact Rt.put rt lk1 hp wrs
    | false =>
      obtain ⟨ds, e1, rt⟩ := rt.ofO
      have st1 : Step m1 H1 m1 (upd H1 p (.lst vs)) := Step.new hp
      exact rt m1 _ (.ref p) st1 (lk1.new hp) ⟨p, vs, rfl, ⟨upd_same, still_new lk1 hp⟩, (allD_of e1 wrs).step lk1 st1⟩
  · cases h
theorem s_slc {mt : Bool} {a : Ex} {lo hi : Oe} (iha : SE T P n F a) (ihl : SO T P n F lo) (ihh : SO T P n F hi) : SE T P n F (.slc mt a lo hi) := fun c x h X Z ok => by
  unfold okE at h
  split at h
  · rename_i y l u e
    obtain ⟨p, q, rfl⟩ := dSlice_eq e
    obtain ⟨h, h3⟩ := Bool.and_eq_true_iff.mp h
    obtain ⟨h1, h2⟩ := Bool.and_eq_true_iff.mp h
    refine trip (pe_imp (pe_slice (o_slice (F := F) (Z := Z)) (iha c y h1 X Z ok).1 (ihl c l h2 X Z ok) (ihh c u h3 X Z ok)) fun σ H Q q => ?_) (fun _ => rfl) (fun σ h => by unfold ev; exact md_r _) rfl
    obtain ⟨m, h, σ', lk, ls, rt⟩ := q
    unfold ev at rt
    rw [asked_f] at rt
    refine ⟨m, h, σ', lk, ls, rt.bind.mono fun v H1 ⟨w, h1, m1, _, st, lk1, wr, rt⟩ => ?_⟩
    have ls1 := ls.step lk st
    refine ⟨m1, h1, σ', lk1, ls1, rt.bind.mono fun o1 H2 ⟨o1', h2, m2, _, st2, lk2, e1, rt⟩ => ?_⟩
    subst e1
    refine ⟨m2, h2, σ', lk2, ls1.step lk1 st2, rt.bind.mono fun o2 H3 ⟨o2', h3, m3, _, st3, lk3, e2, rt⟩ => ?_⟩
    subst e2
    exact ⟨σ, mt, m3, h3, w, lk3, WR.step lk2 st3 (WR.step lk1 st2 wr), rt⟩
  · cases h

/-! ### calls -/
theorem pair_app {α β : Type} {R : α → β → Prop} : ∀ {a : List α} {b : List β} {a' : List α} {b' : List β}, Paired R a b → Paired R a' b' → Paired R (a ++ a') (b ++ b')
  | _, _, _, _, .nil, s => s
  | _, _, _, _, .cons r t, s => .cons r (pair_app t s)
theorem fill_full {f : Fn} {ws : List W} (h : ws.length = f.nPar) : fill f ws = ws := by
  unfold fill
  rw [h, Nat.sub_self, Nat.sub_zero, List.drop_length]
  simp
theorem run_fill {k : Nat} {f : Fn} {ws : List W} {h : S} (e : P.fns[k]? = some f) (hl : (fill f ws).length = f.nPar) : ∀ n, runFn P n k ws h = runFn P n k (fill f ws) h
  | 0 => rfl
  | n + 1 => by
    unfold runFn
    rw [e]
    simp only []
    rw [fill_full hl]
theorem s_call {k : Nat} {es : Exs} (ih : SA T P n F es) : SE T P n F (.call k es) := fun c x h X Z ok => by
  unfold okE at h
  split at h
  · rename_i f y ys e
    obtain ⟨p, q, rfl⟩ := dCall_eq e
    obtain ⟨h, h4⟩ := Bool.and_eq_true_iff.mp h
    obtain ⟨h, h3⟩ := Bool.and_eq_true_iff.mp h
    obtain ⟨h1, h2⟩ := Bool.and_eq_true_iff.mp h
    obtain ⟨f1, f2⟩ := ok.fn k f (of_decide_eq_true h1)
    obtain ⟨g1, g2⟩ := ih c _ h4 X Z ok
    have ny : notStar y = true ∧ ys.all notStar = true := by rw [List.all_cons, Bool.and_eq_true] at g2; exact g2
    refine trip ?_ (fun _ => rfl) (fun σ h => by unfold ev; exact md_r _) rfl
    refine ⟨fun pins s σ H Q I q => ?_⟩
    obtain ⟨m, h, σ', lk, ls, rt⟩ := q
    unfold ev at rt
    rw [asked_f] at rt
    refine wpAny_Call_Name_kw (ld_glob I (ok.glob h2) f1 ?_ (plain_of h3).1)
    refine PySem.W.callWith_K (h₀ := X.base) I.ok.mod.kin f2 (thn (g1.run _ pins s σ H _ I (Rt.many lk ls rt)) fun us s1 ⟨vs, H1, I1, r, ws, h1, m1, st, lk1, wrs, rt⟩ => ⟨I1.kIn, ?_⟩) (nostar1 ny.1) (nostarA ny.2)
    cases ef : P.fns[k]? with
    | none =>
      have : runFn P n k ws h1 = .bad := by
        cases n with
        | zero => rfl
        | succ n => unfold runFn; rw [ef]
      have rt : Rt (zof X F Z) σ (runFn P n k ws h1) (WRz (zof X F Z)) m1 H1 Q := rt
      rw [this] at rt
      exact False.elim rt
    | some f0 =>
      obtain ⟨fd, ps, l1, fo, bd⟩ := (ok.fo k f0 ef).ex
      by_cases hl : (fill f0 ws).length = f0.nPar
      · have hle : ws.length ≤ f0.nPar ∧ f0.nPar - ws.length ≤ f0.dfl.length := by
          unfold fill at hl
          rw [List.length_append, List.length_map, List.length_drop] at hl
          omega
        obtain ⟨ds, dvs, b1, b2, b3⟩ := bd (f0.nPar - ws.length) hle.2
        refine run_fnSD (E := WE Z.wx) fo ok.hr b1 b2 (passAt ok.tk σ) I1 r ?_
        refine ⟨m1, h1, fill f0 ws, hl, lk1, pair_app wrs (WRs_of (Z := zof X F Z) (b3 _ _)), ?_⟩
        have rt : Rt (zof X F Z) σ (runFn P n k ws h1) (WRz (zof X F Z)) m1 H1 Q := rt
        rw [run_fill ef hl] at rt
        cases er : runFn P n k (fill f0 ws) h1 with
        | ok w h2 => rw [er] at rt; exact rt
        | exc kk dd h2 => rw [er] at rt; exact rt
        | bad => rw [er] at rt; exact rt
      · have : runFn P n k ws h1 = .bad := by
          cases n with
          | zero => rfl
          | succ n => unfold runFn; rw [ef]; simp only []; rw [if_neg hl]
        have rt : Rt (zof X F Z) σ (runFn P n k ws h1) (WRz (zof X F Z)) m1 H1 Q := rt
        rw [this] at rt
        exact False.elim rt
  · cases h
end
end G

set_option linter.all false
set_option Elab.async false
set_option maxRecDepth 100000
set_option maxHeartbeats 1000000
namespace G
open PySem L2 PyProof.Rows
section
variable {T : Tab} {P : Prog} {n : Nat} {F : Nat → Addr} {c : Cc} {X : Cx} {Z : Zn}
theorem getM_at {h : S} {k : Nat} {xs : List W} (e : getM h k = some xs) : h[k]? = some (.lst false xs) := by
  unfold getM at e
  split at e
  · rename_i ys q; cases e; exact q
  · cases e
theorem getLW_at {h : S} {w : W} {xs : List W} (e : getLW h w = some xs) : ∃ k b, w = .ref k ∧ h[k]? = some (.lst b xs) := by
  cases w with
  | ref k =>
    have e : getL h k = some xs := e
    unfold getL at e
    split at e
    · rename_i b ys q; cases e; exact ⟨k, b, rfl, q⟩
    · cases e
  | d x => cases e
  | exn a b => cases e
theorem s_app {a b : Ex} (iha : SE T P n F a) (ihb : SE T P n F b) : SE T P n F (.app a b) := fun c x h X Z ok => by
  unfold okE at h
  split at h
  · rename_i y mm z e
    obtain ⟨p, q, rfl, hl⟩ := dMeth_eq e
    obtain ⟨h, h5⟩ := Bool.and_eq_true_iff.mp h
    obtain ⟨h, h4⟩ := Bool.and_eq_true_iff.mp h
    obtain ⟨h, h3⟩ := Bool.and_eq_true_iff.mp h
    obtain ⟨h1, h2⟩ := Bool.and_eq_true_iff.mp h
    have em := of_decide_eq_true h1
    subst em
    have n1 := nostar1 (es := []) (env := X.env) h3
    refine trip (pe_imp (pe_bm PySem.F.plainAttrs_list PySem.F.slot_list_append PySem.F.type_list_append mt_append (iha c y h4 X Z ok).1 (pa_cons (ihb c z h5 X Z ok).1 pa_nil n1) (nobase h2) (by rw [n1]; rfl) hl n1 rfl) fun σ H Q q => ?_)
      (fun _ => rfl) (fun σ h => by unfold ev; exact md_r _) rfl
    obtain ⟨m, h, σ', lk, ls, rt⟩ := q
    unfold ev at rt
    rw [asked_f] at rt
    refine ⟨m, h, σ', lk, ls, rt.bind.mono fun v H1 ⟨w, h1, m1, _, st, lk1, wr, rt⟩ => ?_⟩
    obtain ⟨zs, e0, rt⟩ := rt.ofO
    obtain ⟨k, bk, ew, e0k⟩ := getLW_at e0
    subst ew
    obtain ⟨ad0, ys0, e2, e3, e4, wrs0⟩ := lk1.lst e0k wr
    refine ⟨by subst e2; exact .inl ⟨rfl, ys0, .of e4⟩, m1, h1, σ', lk1, ls.step lk st, rt.bind.mono fun u H2 ⟨w2, h2, m2, _, st2, lk2, wr2, rt⟩ => ?_⟩
    obtain ⟨xs, e1, rt⟩ := rt.ofO
    obtain ⟨cl, rt⟩ := rt.ifT
    obtain ⟨ad, ys, e2, e3, e4, wrs⟩ := lk2.lst (getM_at e1) (WR.step lk1 st2 wr)
    subst e2
    refine ⟨ad, ys, u, rfl, rfl, e4, by rw [← wrs.length, sl_eq]; exact cl, ?_⟩
    exact rt m2 _ .non (Step.write lk2 e3) (lk2.write e3 (pair_app wrs (.cons wr2 .nil))) rfl
  · cases h
theorem getLast_at {α : Type} {xs : List α} {y : α} (e : xs.getLast? = some y) : xs[xs.length - 1]? = some y := by
  rw [List.getLast?_eq_getElem?] at e; exact e
theorem WRs.dropLast {K : PySem.W.Frag} {fa : Nat → Addr} {m : LM} {H : Hp} {xs : List W} {ys : List HV} (r : WRs K fa m H xs ys) : WRs K fa m H xs.dropLast ys.dropLast := by
  induction r with
  | nil => exact .nil
  | cons a t ih =>
    cases t with
    | nil => exact .nil
    | cons b u => exact .cons a ih
theorem s_pop {a : Ex} (iha : SE T P n F a) : SE T P n F (.pop a) := fun c x h X Z ok => by
  unfold okE at h
  split at h
  · rename_i y mm e
    obtain ⟨p, q, rfl, hl⟩ := dMeth_eq e
    obtain ⟨h, h3⟩ := Bool.and_eq_true_iff.mp h
    obtain ⟨h1, h2⟩ := Bool.and_eq_true_iff.mp h
    have em := of_decide_eq_true h1
    subst em
    refine trip (pe_imp (pe_bm0 PySem.F.plainAttrs_list PySem.F.slot_list_pop PySem.F.type_list_pop mt_pop (iha c y h3 X Z ok).1 (nobase h2) hl) fun σ H Q q => ?_) (fun _ => rfl) (fun σ h => by unfold ev; exact md_r _) rfl
    obtain ⟨m, h, σ', lk, ls, rt⟩ := q
    unfold ev at rt
    rw [asked_f] at rt
    refine ⟨m, h, σ', lk, ls, rt.bind.mono fun v H1 ⟨w, h1, m1, _, st, lk1, wr, rt⟩ => ?_⟩
    cases w with
    | ref k =>
      obtain ⟨xs, e1, rt⟩ := rt.ofO
      obtain ⟨ad, ys, e2, e3, e4, wrs⟩ := lk1.lst (getM_at e1) wr
      subst e2
      cases el : xs.getLast? with
      | none => rw [el] at rt; exact False.elim rt
      | some w0 =>
        rw [el] at rt
        obtain ⟨y0, g1, g2⟩ := wrs.get (getLast_at el)
        refine ⟨.inl ⟨rfl, ys, .of e4⟩, ad, ys, y0, rfl, rfl, e4, by rw [← wrs.length]; exact g1, ?_⟩
        have st2 : Step m1 H1 m1 (upd H1 ad (.lst ys.dropLast)) := Step.write lk1 e3
        exact rt m1 _ y0 st2 (lk1.write e3 wrs.dropLast) (WR.step lk1 st2 g2)
    | d x => exact False.elim rt
    | exn a b => exact False.elim rt
  · cases h
theorem s_frz {a : Ex} (iha : SE T P n F a) : SE T P n F (.frz a) := fun c x h X Z ok => by
  unfold okE at h
  obtain ⟨a1, a2, _⟩ := iha c x h X Z ok
  have core : ∀ {m : LM} {h : S} {H : Hp} {w : W} {v : HV} {σ : L2.St} {Q : VK}, Lk X.K F m h H → WR X.K F m H w v → Rt (zof X F Z) σ (match w with
      | .ref n => (ofO h (getM h n)).bind fun xs h => (ofO h (allD xs)).bind fun ds h => .ok (.d (.lst ds)) (h.set n .dead)
      | _ => .bad) (WRz (zof X F Z)) m H Q → Q v H := fun {m h H w v σ Q} lk wr rt => by
    cases w with
    | ref k =>
      obtain ⟨xs, e1, rt⟩ := rt.ofO
      obtain ⟨ds, e5, rt⟩ := rt.ofO
      obtain ⟨ad, ys, e2, e3, e4, wrs⟩ := lk.lst (getM_at e1) wr
      subst e2
      have st2 : Step m H ⟨m.l.set k none, m.r⟩ H := Step.kill
      refine rt ⟨m.l.set k none, m.r⟩ H (.ref ad) st2 (lk.kill k) ⟨ad, ys, rfl, ⟨e4, fun hl => hl.elim (fun ⟨j, hj⟩ => ?_) (lk.dis k ad e3)⟩, (allD_of e5 wrs).step lk st2⟩
      by_cases z : k = j
      · subst z
        rw [List.getElem?_set_self (List.getElem?_eq_some_iff.mp e3).1] at hj
        cases hj
      · rw [List.getElem?_set_ne z] at hj
        exact z (lk.inj k j ad e3 hj)
    | d x => exact False.elim rt
    | exn a b => exact False.elim rt
  refine ⟨pe_imp a1 fun σ H Q q => ?_, pt_imp a2 fun σ H Q q => ?_, fun z => nomatch z⟩
  · obtain ⟨m, h, σ', lk, ls, rt⟩ := q
    unfold ev at rt
    exact ⟨m, h, σ', lk, ls, rt.bind.mono fun v H1 ⟨w, h1, m1, _, st, lk1, wr, rt⟩ => core lk1 wr rt⟩
  · obtain ⟨m, h, σ', lk, ls, rt⟩ := q
    unfold ev at rt
    exact False.elim rt
end
end G

set_option linter.all false
set_option Elab.async false
set_option maxRecDepth 100000
set_option maxHeartbeats 1000000
namespace G
open PySem L2 PyProof.Rows
section
variable {T : Tab} {P : Prog} {n : Nat} {F : Nat → Addr} {c : Cc} {X : Cx} {Z : Zn}
/-! ### targets -/
def SG (T : Tab) (P : Prog) (n : Nat) (F : Nat → Addr) (t : Tg) : Prop := ∀ (c : Cc) (x : Expr), okG T t c x = true → ∀ (X : Cx) (Z : Zn), Ok T P n c X F Z → PG X x (TIG (zof X F Z) (calls P n) t)
def SGs (T : Tab) (P : Prog) (n : Nat) (F : Nat → Addr) (t : Tgs) : Prop := ∀ (c : Cc) (x : List Expr), okGs T t c x = true → ∀ (X : Cx) (Z : Zn), Ok T P n c X F Z → PGs X x (TIGs (zof X F Z) (calls P n) t) ∧ x.all notStar = true
theorem Off.refl (vs : List Nat) (σ : L2.St) : Off vs σ σ := ⟨rfl, fun _ _ => rfl⟩
theorem Off.set {σ : L2.St} (i : Nat) (v : Option HV) : Off [i] σ (σ.set i v) := ⟨by simp, fun j hj => List.getElem?_set_ne (fun e => hj (by simp [e]))⟩
theorem Off.trans {a b : List Nat} {σ τ υ : L2.St} (x : Off a σ τ) (y : Off b τ υ) : Off (a ++ b) σ υ :=
  ⟨y.1.trans x.1, fun j hj => (y.2 j fun q => hj (List.mem_append_right _ q)).trans (x.2 j fun q => hj (List.mem_append_left _ q))⟩
theorem g_nm (i : Nat) : SG T P n F (.nm i) := fun c x h X Z ok => by
  unfold okG at h
  split at h
  · rename_i nm e
    obtain ⟨p, rfl⟩ := dName_eq e
    obtain ⟨h, h3⟩ := Bool.and_eq_true_iff.mp h
    obtain ⟨h1, h2⟩ := Bool.and_eq_true_iff.mp h
    obtain ⟨g1, g2, g3⟩ := ok.stores (of_decide_eq_true h1) h2
    refine pg_imp (pg_name ok.nd g1 g2 g3) fun v σ H Q q => ?_
    obtain ⟨m, h, σ', w, lk, ls, wr, rt⟩ := q
    unfold stg at rt
    exact rt m H _ Step.refl lk ⟨ls.set wr, Off.set i _⟩
  · cases h
theorem nostarAssign {e : Expr} {es : List Expr} {env : Env} (h : notStar e = true) : (assignEach (e :: es) env) = (false, assign e env) :: assignEach es env := by
  cases e <;> first | rfl | cases h
theorem nostarFind {env : Env} : ∀ {es : List Expr}, es.all notStar = true → (assignEach es env).findIdx? (·.1) = none ∧ (assignEach es env).length = es.length
  | [], _ => ⟨rfl, rfl⟩
  | e :: es, h => by
    rw [List.all_cons, Bool.and_eq_true] at h
    obtain ⟨a, b⟩ := nostarFind (env := env) h.2
    rw [nostarAssign h.1]
    refine ⟨?_, by simp [b]⟩
    rw [List.findIdx?_cons]
    simp only [Bool.false_eq_true, if_false]
    rw [a]; rfl
-- the slots of a target may be stored
mutual
theorem slots_A : ∀ (t : Tg) (c : Cc) (x : Expr), okG T t c x = true → ∀ i ∈ slots t, i ∈ c.A
  | .nm i, c, x, h, j, hj => by
    have e : j = i := by simpa [slots] using hj
    subst e
    unfold okG at h
    split at h
    · exact List.contains_iff_mem.mp (Bool.and_eq_true_iff.mp h).2
    · cases h
  | .tp ts, c, x, h, j, hj => by
    unfold okG at h
    split at h
    · exact slotsL_A ts c _ h j hj
    · cases h
  | .sub a i, c, x, h, j, hj => nomatch hj
theorem slotsL_A : ∀ (t : Tgs) (c : Cc) (x : List Expr), okGs T t c x = true → ∀ i ∈ slotsL t, i ∈ c.A
  | .nil, c, x, h, j, hj => nomatch hj
  | .cons t r, c, x, h, j, hj => by
    cases x with
    | nil => cases h
    | cons y ys =>
      unfold okGs at h
      obtain ⟨h, h3⟩ := Bool.and_eq_true_iff.mp h
      obtain ⟨h1, h2⟩ := Bool.and_eq_true_iff.mp h
      rcases List.mem_append.mp hj with q | q
      · exact slots_A t c y h2 j q
      · exact slotsL_A r c ys h3 j q
end
theorem Off.mono {a b : List Nat} {σ τ : L2.St} (x : Off a σ τ) (k : ∀ i ∈ a, i ∈ b) : Off b σ τ := ⟨x.1, fun j hj => x.2 j fun q => hj (k j q)⟩
/-- at other slots -/
theorem Rt.shift {α β : Type} {σ τ : L2.St} {r : R α} {rel rel' : LM → S → Hp → α → β → Prop} {m : LM} {H : Hp} {Q : β → Hp → Prop} (hw : ∀ k d H, Z.wx k d σ H → Z.wx k d τ H) (hr : ∀ m h H a b, rel' m h H a b → rel m h H a b) (x : Rt Z σ r rel m H Q) : Rt Z τ r rel' m H Q := by
  cases r with
  | ok a h1 => exact fun m1 H1 b st lk q => x m1 H1 b st lk (hr _ _ _ _ _ q)
  | exc k ds h1 => exact fun m1 H1 cls d st lk q => hw cls d H1 (x m1 H1 cls d st lk q)
  | bad => exact x
theorem WRs.set {K : PySem.W.Frag} {fa : Nat → Addr} {m : LM} {H : Hp} : ∀ {xs : List W} {ys : List HV} (i : Nat) {w : W} {v : HV}, WRs K fa m H xs ys → WR K fa m H w v → WRs K fa m H (xs.set i w) (ys.set i v)
  | _, _, _, _, _, .nil, _ => .nil
  | _, _, 0, _, _, .cons _ t, r => .cons r t
  | _, _, i + 1, _, _, .cons a t, r => .cons a (WRs.set i t r)
theorem gs_nil : SGs T P n F .nil := fun c xs h X Z ok => by
  cases xs with
  | cons a b => cases h
  | nil =>
    refine ⟨pgs_imp pgs_nil fun vs σ H Q q => ?_, rfl⟩
    obtain ⟨m, h, σ', ws, lk, ls, wrs, rt⟩ := q
    cases wrs with
    | nil =>
      unfold stgs at rt
      exact ⟨rfl, rt m H σ Step.refl lk ⟨ls, Off.refl _ _⟩⟩
    | cons a b =>
      unfold stgs at rt
      exact False.elim rt
theorem gs_cons {t : Tg} {r : Tgs} (iht : SG T P n F t) (ihr : SGs T P n F r) : SGs T P n F (.cons t r) := fun c xs h X Z ok => by
  cases xs with
  | nil => cases h
  | cons y ys =>
    unfold okGs at h
    obtain ⟨h, h3⟩ := Bool.and_eq_true_iff.mp h
    obtain ⟨h1, h2⟩ := Bool.and_eq_true_iff.mp h
    obtain ⟨g1, g2⟩ := ihr c ys h3 X Z ok
    refine ⟨pgs_imp (pgs_cons (iht c y h2 X Z ok) g1 (by rw [nostarAssign h1]; rfl)) fun vs σ H Q q => ?_, by rw [List.all_cons, h1, g2]; rfl⟩
    obtain ⟨m, h, σ', ws, lk, ls, wrs, rt⟩ := q
    cases wrs with
    | nil => unfold stgs at rt; exact False.elim rt
    | cons wr wrr =>
      rename_i w v wt vt
      unfold stgs at rt
      refine ⟨v, vt, rfl, m, h, σ', w, lk, ls, wr, rt.bind.mono fun σ1 H1 ⟨σ1', h1, m1, _, st, lk1, ⟨ls1, of1⟩, rt⟩ => ?_⟩
      refine ⟨m1, h1, σ1', wt, lk1, ls1, WRs.step lk st wrr, ?_⟩
      refine rt.shift (Z := zof X F Z) (fun k d H z => ok.wi σ σ1 k d H (of1.mono (slots_A t c y h2)) z) fun m h H a b z => ⟨z.1, of1.trans z.2⟩
theorem pg_or {x : Expr} {t t' : TG} (h : PG X x t) (h' : PG X x t') : PG X x (fun v σ H Q => t v σ H Q ∨ t' v σ H Q) :=
  ⟨fun pins s σ H v u Q I r q => q.elim (h.run pins s σ H v u Q I r) (h'.run pins s σ H v u Q I r)⟩
theorem lenT_ok : ∀ (t : Tgs) (c : Cc) (x : List Expr), okGs T t c x = true → x.length = lenT t
  | .nil, c, x, h => by
    cases x with
    | nil => rfl
    | cons a b => cases h
  | .cons t r, c, x, h => by
    cases x with
    | nil => cases h
    | cons y ys =>
      unfold okGs at h
      exact congrArg (· + 1) (lenT_ok r c ys (Bool.and_eq_true_iff.mp h).2)
theorem g_tp {ts : Tgs} (ih : SGs T P n F ts) : SG T P n F (.tp ts) := fun c x h X Z ok => by
  unfold okG at h
  split at h
  · rename_i ys e
    obtain ⟨k, p, rfl⟩ := dTup_eq e
    obtain ⟨g1, g2⟩ := ih c ys h X Z ok
    have hl := lenT_ok ts c ys h
    obtain ⟨f1, f2⟩ := nostarFind (env := X.env) g2
    refine pg_imp (pg_or (pg_tup (n := lenT ts) ok.hc g1 (f2.trans hl) f1) (pg_lst (n := lenT ts) ok.hc g1 (f2.trans hl) f1)) fun v σ H Q q => ?_
    obtain ⟨m, h, σ', w, lk, ls, wr, rt⟩ := q
    unfold stg at rt
    match w, wr, rt with
    | .d (.tup xs), wr, rt =>
      obtain ⟨cl, rt⟩ := rt.ifT
      obtain ⟨a, vs, e1, sq, rs⟩ := wr
      exact .inl ⟨a, vs, e1, sq, by rw [← rs.length]; exact cl, m, h, σ', _, lk, ls, WRs_of (Z := zof X F Z) rs, rt⟩
    | .d (.lst xs), wr, rt =>
      obtain ⟨cl, rt⟩ := rt.ifT
      obtain ⟨a, vs, e1, sq, rs⟩ := wr
      exact .inr ⟨a, vs, e1, sq.sq, by rw [← rs.length]; exact cl, m, h, σ', _, lk, ls, WRs_of (Z := zof X F Z) rs, rt⟩
    | .d .non, _, rt => exact False.elim rt
    | .d (.bl _), _, rt => exact False.elim rt
    | .d (.int _), _, rt => exact False.elim rt
    | .d (.str _), _, rt => exact False.elim rt
    | .d (.fn _), _, rt => exact False.elim rt
    | .d (.scr _), _, rt => exact False.elim rt
    | .ref _, _, rt => exact False.elim rt
    | .exn _ _, _, rt => exact False.elim rt
  · cases h
theorem g_sub {a i : Ex} (iha : SE T P n F a) (ihi : SE T P n F i) : SG T P n F (.sub a i) := fun c x h X Z ok => by
  unfold okG at h
  split at h
  · rename_i y z e
    obtain ⟨p, rfl⟩ := dSub_eq e
    obtain ⟨h, h3⟩ := Bool.and_eq_true_iff.mp h
    obtain ⟨h1, h2⟩ := Bool.and_eq_true_iff.mp h
    refine pg_imp (pg_sub (iha c y h2 X Z ok).1 (ihi c z h3 X Z ok).1 set_list (fun v => by cases z <;> first | rfl | cases h1)) fun v σ H Q q => ?_
    obtain ⟨m, h, σ', w, lk, ls, wr, rt⟩ := q
    unfold stg at rt
    refine ⟨m, h, σ', lk, ls, rt.bind.mono fun o H1 ⟨wo, h1, m1, _, st, lk1, wro, rt⟩ => ?_⟩
    refine ⟨m1, h1, σ', lk1, ls.step lk st, rt.bind.mono fun ii H2 ⟨wi, h2, m2, _, st2, lk2, wri, rt⟩ => ?_⟩
    cases wo with
    | ref k =>
      obtain ⟨i0, e1, rt⟩ := rt.ofO
      obtain ⟨xs, e2, rt⟩ := rt.ofO
      obtain ⟨j, e3, rt⟩ := rt.ofO
      obtain ⟨ad, ys, e4, e5, e6, wrs⟩ := lk2.lst (getM_at e2) (WR.step lk1 st2 wro)
      subst e4
      have ei : ii = .int i0 := by
        cases wi with
        | d x => cases x <;> first | (cases e1; exact wri) | cases e1
        | ref _ => cases e1
        | exn _ _ => cases e1
      subst ei
      refine ⟨ad, ys, i0, j, rfl, rfl, e6, by rw [← wrs.length]; exact e3, ?_⟩
      have st3 : Step m2 H2 m2 (upd H2 ad (.lst (ys.set j v))) := Step.write lk2 e5
      have wv := WR.step lk1 st2 (WR.step lk st wr)
      refine rt m2 _ σ st3 (lk2.write e5 (WRs.set j wrs wv)) ⟨((ls.step lk st).step lk1 st2).step lk2 st3, Off.refl _ _⟩
    | d x => exact False.elim rt
    | exn a b => exact False.elim rt
  · cases h
end
end G

set_option linter.all false
set_option Elab.async false
set_option maxRecDepth 100000
set_option maxHeartbeats 1000000
namespace G
open PySem L2 PyProof.Rows
section
variable {T : Tab} {P : Prog} {n : Nat} {F : Nat → Addr} {c : Cc} {X : Cx} {Z : Zn}
/-! ### what is walked -/
/-- a walk gives the told members, as long as what is locked stays locked -/
def ItR (K : PySem.W.Frag) (fa : Nat → Addr) (m1 : LM) (h1 : S) (H1 : Hp) (p : List W × List Nat) (J : L2.It) : Prop :=
  ∃ (G0 : Hp → Prop) (Y : Nat → Hp → HV → Hp → Prop), Walk J p.1.length G0 Y ∧ ∀ m2 h2 H2, StepW m1 H1 m2 H2 → Lk K fa m2 h2 H2 → Kept (lockAll h1 p.2) h2 → G0 H2 ∧
    ∀ i x H', i < p.1.length → Y i H2 x H' → ∃ w, p.1[i]? = some w ∧ Step m2 H2 m2 H' ∧ Lk K fa m2 h2 H' ∧ WR K fa m2 H' w x
def TII (Z : Zn) (C : Calls) (it : It) : TI := fun σ H R => ∃ m h σ', Lk Z.K Z.fa m h H ∧ LS Z.K Z.fa m H σ' σ ∧ Rt Z σ (evit C it σ' h) (fun m1 h1 H1 p J => ItR Z.K Z.fa m1 h1 H1 p J) m H R
def SI (T : Tab) (P : Prog) (n : Nat) (F : Nat → Addr) (it : It) : Prop := ∀ (c : Cc) (g x : Expr), okI T it c g x = true → ∀ (X : Cx) (Z : Zn), Ok T P n c X F Z → PI X g x (TII (zof X F Z) (calls P n) it)
theorem pi_imp {g x : Expr} {w w' : TI} (h : PI X g x w) (k : ∀ σ H R, w' σ H R → w σ H R) : PI X g x w' := ⟨fun pins s σ H R I q => h.run pins s σ H R I (k σ H R q)⟩
theorem RDs.back {K : PySem.W.Frag} {fa : Nat → Addr} {p : Addr → Prop} {H : Hp} : ∀ {xs : List D} {ys : List HV} {i : Nat} {y : HV}, RDs K fa p H xs ys → ys[i]? = some y → ∃ x, xs[i]? = some x ∧ RD K fa p H x y
  | [], ys, i, y, r, e => by cases (show ys = [] from r); simp at e
  | x :: xs, ys, 0, y, r, e => by
    obtain ⟨z, t, e1, a, b⟩ := r
    subst e1
    simp at e; subst e
    exact ⟨x, rfl, a⟩
  | x :: xs, ys, i + 1, y, r, e => by
    obtain ⟨z, t, e1, a, b⟩ := r
    subst e1
    obtain ⟨x', h1, h2⟩ := RDs.back (i := i) b (by simpa using e)
    exact ⟨x', by simpa using h1, h2⟩
theorem WRs.back {K : PySem.W.Frag} {fa : Nat → Addr} {m : LM} {H : Hp} : ∀ {xs : List W} {ys : List HV} {i : Nat} {y : HV}, WRs K fa m H xs ys → ys[i]? = some y → ∃ x, xs[i]? = some x ∧ WR K fa m H x y
  | _, _, _, _, .nil, e => by simp at e
  | _, _, 0, _, .cons r _, e => by simp at e; subst e; exact ⟨_, rfl, r⟩
  | _, _, i + 1, x, .cons _ t, e => by
    obtain ⟨y, h1, h2⟩ := WRs.back (i := i) t (by simpa using e)
    exact ⟨y, by simpa using h1, h2⟩
theorem walkL {K : PySem.W.Frag} {a : Addr} {n : Nat} : Walk (Itl K a) n (fun H => ∃ ys, SqL K H a ys ∧ ys.length = n) (fun i H x H' => H' = H ∧ ∀ ys, SqL K H a ys → ys[i]? = some x) :=
  ⟨fun i H hi ⟨ys, s, l⟩ => ⟨ys, ys[i]'(by omega), s, by simp⟩, fun H ⟨ys, s, l⟩ => ⟨ys, s, by omega⟩, fun i H x H' _ _ y => y⟩
theorem walkT {K : PySem.W.Frag} {a : Addr} {n : Nat} : Walk (Itt K a) n (fun H => ∃ ys, SqT K H a ys ∧ ys.length = n) (fun i H x H' => H' = H ∧ ∀ ys, SqT K H a ys → ys[i]? = some x) :=
  ⟨fun i H hi ⟨ys, s, l⟩ => ⟨ys, ys[i]'(by omega), s, by simp⟩, fun H ⟨ys, s, l⟩ => ⟨ys, s, by omega⟩, fun i H x H' _ _ y => y⟩
theorem mem_lock {h : S} {k : Nat} {b : Bool} {xs : List W} (e : h[k]? = some (.lst b xs)) : (lockAll h (isOpen h (.ref k)))[k]? = some (.lst true xs) := by
  unfold isOpen
  simp only []
  rw [e]
  cases b with
  | true => exact e
  | false =>
    show (lockOne h k)[k]? = _
    unfold lockOne
    rw [e]
    exact List.getElem?_set_self (List.getElem?_eq_some_iff.mp e).1
/-- the walk of a value -/
inductive ItV (K : PySem.W.Frag) (H : Hp) : HV → L2.It → Prop
  | lst {a : Addr} {ys : List HV} (s : SqL K H a ys) : ItV K H (.ref a) (Itl K a)
  | tup {a : Addr} {ys : List HV} (s : SqT K H a ys) : ItV K H (.ref a) (Itt K a)
  | str (x : Str) : ItV K H (.str x) (Its x)
theorem itemsR {K : PySem.W.Frag} {fa : Nat → Addr} {m : LM} {h : S} {H : Hp} {w : W} {v : HV} {xs : List W} (lk : Lk K fa m h H) (wr : WR K fa m H w v) (e : itemsOf h w = some xs) : ∃ J, ItV K H v J ∧ ItR K fa m h H (xs, isOpen h w) J := by
  cases w with
  | d x =>
    cases x with
    | tup ds =>
      cases e
      obtain ⟨a, ys, e1, sq, rs⟩ := wr
      subst e1
      refine ⟨_, .tup sq, _, _, walkT, fun m2 h2 H2 st lk2 k => ⟨⟨ys, st.sqT lk sq, by simp [rs.length]⟩, fun i x H' hi ⟨e, y⟩ => ?_⟩⟩
      subst e
      have s2 := st.sqT lk sq
      obtain ⟨d, g1, g2⟩ := (rs.stepW lk st).back (y ys s2)
      exact ⟨.d d, by simp [g1], Step.refl, lk2, g2⟩
    | lst ds =>
      cases e
      obtain ⟨a, ys, e1, sq, rs⟩ := wr
      subst e1
      refine ⟨_, .lst sq.sq, _, _, walkL, fun m2 h2 H2 st lk2 k => ⟨⟨ys, (st.sqL sq).sq, by simp [rs.length]⟩, fun i x H' hi ⟨e, y⟩ => ?_⟩⟩
      subst e
      obtain ⟨d, g1, g2⟩ := (rs.stepW lk st).back (y ys (st.sqL sq).sq)
      exact ⟨.d d, by simp [g1], Step.refl, lk2, g2⟩
    | scr ds =>
      cases e
      obtain ⟨a, ys, e1, sq, rs⟩ := wr
      subst e1
      refine ⟨_, .lst sq.sq, _, _, walkL, fun m2 h2 H2 st lk2 k => ⟨⟨ys, (st.sk lk sq).sq, by simp [rs.length]⟩, fun i x H' hi ⟨e, y⟩ => ?_⟩⟩
      subst e
      obtain ⟨d, g1, g2⟩ := (rs.stepW lk st).back (y ys (st.sk lk sq).sq)
      exact ⟨.d d, by simp [g1], Step.refl, lk2, g2⟩
    | str s =>
      cases e
      cases (show v = .str ⟨s.toArray⟩ from wr)
      have wk := walk_str (z := ⟨s.toArray⟩)
      have hl : (⟨s.toArray⟩ : Str).cps.size = (s.map fun c => W.d (.str [c])).length := by simp
      rw [hl] at wk
      refine ⟨_, .str _, _, _, wk, fun m2 h2 H2 st lk2 k => ⟨trivial, fun i x H' hi ⟨e, cc, g1, g2⟩ => ?_⟩⟩
      subst e; subst g2
      refine ⟨.d (.str [cc]), ?_, Step.refl, lk2, rfl⟩
      have : s[i]? = some cc := by simpa using g1
      simp [this]
    | non => cases e
    | bl b => cases e
    | int i => cases e
    | fn k => cases e
  | ref k =>
    have e : getL h k = some xs := e
    have e0 : ∃ b, h[k]? = some (.lst b xs) := by
      unfold getL at e
      split at e
      · rename_i b ys q; cases e; exact ⟨b, q⟩
      · cases e
    obtain ⟨b, e0⟩ := e0
    obtain ⟨a, ys, e1, e2, e3, wrs⟩ := lk.lst e0 wr
    subst e1
    refine ⟨_, .lst (.of e3), _, _, walkL, fun m2 h2 H2 st lk2 kp => ?_⟩
    have e4 := kp k xs (mem_lock e0)
    have hk : k < m.l.length := (List.getElem?_eq_some_iff.mp e2).1
    obtain ⟨o, ho, a2, ys2, e5, e6, wrs2⟩ := lk2.cell k _ e4
    subst e5
    have e7 := st.live k a2 hk ho
    rw [e2] at e7
    cases e7
    refine ⟨⟨ys2, .of e6, wrs2.length.symm⟩, fun i x H' hi ⟨e, y⟩ => ?_⟩
    subst e
    obtain ⟨w, g1, g2⟩ := wrs2.back (y ys2 (.of e6))
    exact ⟨w, g1, Step.refl, lk2, g2⟩
  | exn a b => cases e
theorem pi_val {g x : Expr} {te : TE} (he : PE X x te) : PI X g x (fun σ H R => te σ H fun v H1 => ∃ J, ItV X.K H1 v J ∧ R J H1) := by
  refine ⟨fun pins s σ H R I q => ?_⟩
  refine thn (he.run pins s σ H _ I q) fun u s1 ⟨v, H1, I1, r1, J, iv, q⟩ => ?_
  cases iv with
  | @lst a ys sq =>
    cases r1
    obtain ⟨its, rv, pl, hz⟩ := I1.list sq
    exact wpAny_pyIter_list pl.isList (pi_one (tk := s1.toks) I1 _ (turn_list a _) ⟨_, Heap.get?_push_size _ rfl, rfl, rfl⟩ q)
  | @tup a ys sq =>
    cases r1
    obtain ⟨its, rv, pl, hz⟩ := I1.tuple sq
    exact wpAny_pyIter_tuple (show s1.heap.IsTuple a its.toArray from pl) (pi_one (tk := s1.toks) I1 _ (turn_tuple a _) ⟨_, Heap.get?_push_size _ rfl, rfl, rfl⟩ q)
  | str z =>
    obtain ⟨t, rfl⟩ := r1
    cases ha : z.cps.all (· < 128)
    · exact wpAny_pyIter_wide ha (pi_one (tk := s1.toks) I1 _ (turn_str _ z t "str_iterator" (.inr rfl)) ⟨_, Heap.get?_push_size _ rfl, rfl, rfl⟩ q)
    · exact wpAny_pyIter_ascii ha (pi_one (tk := s1.toks) I1 _ (turn_str _ z t "str_ascii_iterator" (.inl rfl)) ⟨_, Heap.get?_push_size _ rfl, rfl, rfl⟩ q)
theorem i_seq {a : Ex} (ih : SE T P n F a) : SI T P n F (.seq a) := fun c g x h X Z ok => by
  unfold okI at h
  refine pi_imp (pi_val (ih c x h X Z ok).1) fun σ H R q => ?_
  obtain ⟨m, h, σ', lk, ls, rt⟩ := q
  unfold evit at rt
  refine ⟨m, h, σ', lk, ls, rt.bind.mono fun v H1 ⟨w, h1, m1, _, st, lk1, wr, rt⟩ => ?_⟩
  obtain ⟨xs, e, rt⟩ := rt.ofO
  obtain ⟨J, iv, ir⟩ := itemsR lk1 wr e
  exact ⟨J, iv, rt m1 H1 J Step.refl lk1 ir⟩
theorem intW_at {w : W} {i : Int} (e : intW w = some i) : w = .d (.int i) := by
  cases w with
  | d x => cases x <;> first | (cases e; rfl) | cases e
  | ref _ => cases e
  | exn _ _ => cases e
theorem small_at {i : Int} (h : small62 i = true) : -(2 ^ 62) ≤ i ∧ i < 2 ^ 62 := by
  unfold small62 at h
  simp only [decide_eq_true_eq] at h
  omega
theorem rngR {K : PySem.W.Frag} {fa : Nat → Addr} {m : LM} {h : S} {H : Hp} {i j : Int} : ItR K fa m h H (rngOf i j, []) (Itr i (j - i).toNat) := by
  have wk := walk_range (lo := i) (n := (j - i).toNat)
  have hl : (j - i).toNat = (rngOf i j).length := by unfold rngOf; simp
  have wk2 : Walk (Itr i (j - i).toNat) (rngOf i j).length (fun _ => True) (YFn fun i_1 : Nat => .int (i + (i_1 : Nat))) := hl ▸ wk
  refine ⟨_, _, wk2, fun m2 h2 H2 st lk2 kp => ⟨trivial, fun k x H' hi y => ?_⟩⟩
  have y : H' = H2 ∧ x = .int (i + (k : Nat)) := y
  obtain ⟨y1, y2⟩ := y
  subst y1; subst y2
  refine ⟨.d (.int (i + (k : Nat))), ?_, Step.refl, lk2, rfl⟩
  unfold rngOf
  have : k < (j - i).toNat := by rw [hl]; exact hi
  simp [this]
theorem i_rng1 {a : Ex} (ih : SE T P n F a) : SI T P n F (.rng1 a) := fun c g x h X Z ok => by
  unfold okI at h
  split at h
  · rename_i f y e
    obtain ⟨h, h4⟩ := Bool.and_eq_true_iff.mp h
    obtain ⟨h, h3⟩ := Bool.and_eq_true_iff.mp h
    obtain ⟨h1, h2⟩ := Bool.and_eq_true_iff.mp h
    obtain ⟨p, q, rfl⟩ := dCall_eq e
    have ef := of_decide_eq_true h1
    subst ef
    have n1 := nostar1 (es := []) (env := X.env) h3
    refine pi_imp (pi_range1 (ok.glob h2) (ok.bi _ (by decide +kernel)) (pa_cons (ih c y h4 X Z ok).1 pa_nil n1) (by rw [n1]; rfl)) fun σ H R q => ?_
    obtain ⟨m, h, σ', lk, ls, rt⟩ := q
    unfold evit at rt
    refine ⟨m, h, σ', lk, ls, rt.bind.mono fun v H1 ⟨w, h1, m1, _, st, lk1, wr, rt⟩ => ?_⟩
    obtain ⟨i, e1, rt2⟩ := rt.ofO
    obtain ⟨cl, rt3⟩ := rt2.ifT
    have ew := intW_at e1
    clear rt rt2
    subst ew
    cases (show v = .int i from wr)
    obtain ⟨s1, s2⟩ := small_at cl
    have rr := rngR (K := X.K) (fa := F) (m := m1) (h := h1) (H := H1) (i := 0) (j := i)
    rw [Int.sub_zero] at rr
    exact ⟨i, rfl, s1, s2, rt3 m1 H1 _ Step.refl lk1 rr⟩
  · cases h
theorem i_rng2 {a b : Ex} (iha : SE T P n F a) (ihb : SE T P n F b) : SI T P n F (.rng2 a b) := fun c g x h X Z ok => by
  unfold okI at h
  split at h
  · rename_i f y z e
    obtain ⟨h, h6⟩ := Bool.and_eq_true_iff.mp h
    obtain ⟨h, h5⟩ := Bool.and_eq_true_iff.mp h
    obtain ⟨h, h4⟩ := Bool.and_eq_true_iff.mp h
    obtain ⟨h, h3⟩ := Bool.and_eq_true_iff.mp h
    obtain ⟨h1, h2⟩ := Bool.and_eq_true_iff.mp h
    obtain ⟨p, q, rfl⟩ := dCall_eq e
    have ef := of_decide_eq_true h1
    subst ef
    have n1 := nostar1 (es := [z]) (env := X.env) h3
    have n2 := nostar1 (es := []) (env := X.env) h4
    refine pi_imp (pi_range2 (ok.glob h2) (ok.bi _ (by decide +kernel)) (pa_cons (iha c y h5 X Z ok).1 (pa_cons (ihb c z h6 X Z ok).1 pa_nil n2) n1) (by rw [n1, n2]; rfl) (by rw [n2]; rfl)) fun σ H R q => ?_
    obtain ⟨m, h, σ', lk, ls, rt⟩ := q
    unfold evit at rt
    refine ⟨m, h, σ', lk, ls, rt.bind.mono fun v H1 ⟨w, h1, m1, _, st, lk1, wr, rt⟩ => ?_⟩
    refine ⟨m1, h1, σ', lk1, ls.step lk st, rt.bind.mono fun u H2 ⟨w2, h2, m2, _, st2, lk2, wr2, rt⟩ => ?_⟩
    obtain ⟨i, e1, rt2⟩ := rt.ofO
    obtain ⟨j, e2, rt3⟩ := rt2.ofO
    obtain ⟨cl, rt4⟩ := rt3.ifT
    clear rt rt2 rt3
    obtain ⟨c1, c2⟩ := Bool.and_eq_true_iff.mp cl
    have ew := intW_at e1
    subst ew
    have ew2 := intW_at e2
    subst ew2
    cases (show v = .int i from wr)
    cases (show u = .int j from wr2)
    obtain ⟨s1, s2⟩ := small_at c1
    obtain ⟨s3, s4⟩ := small_at c2
    exact ⟨i, j, rfl, ⟨s1, s2, s3, s4⟩, rt4 m2 H2 _ Step.refl lk2 rngR⟩
  · cases h
end
end G

set_option linter.all false
set_option Elab.async false
set_option maxRecDepth 100000
set_option maxHeartbeats 1000000
namespace G
open PySem L2 PyProof.Rows
section
variable {T : Tab} {P : Prog} {n : Nat} {F : Nat → Addr} {c : Cc} {X : Cx} {Z : Zn}
/-! ### comprehensions -/
theorem bind_eq_ok {α β : Type} {r : R α} {f : α → S → R β} {b : β} {h2 : S} (e : r.bind f = .ok b h2) : ∃ a h1, r = .ok a h1 ∧ f a h1 = .ok b h2 := by
  cases r with
  | ok a h1 => exact ⟨a, h1, rfl, e⟩
  | exc k ds h1 => cases e
  | bad => cases e
theorem ofO_eq_ok {α : Type} {o : Option α} {h h1 : S} {a : α} (e : ofO h o = .ok a h1) : o = some a ∧ h1 = h := by
  cases o with
  | none => cases e
  | some b => cases e; exact ⟨rfl, rfl⟩
theorem calm_eq_ok {α : Type} {r : R α} {a : α} {h1 : S} (e : calm r = .ok a h1) : r = .ok a h1 := by
  cases r with
  | ok a h1 => exact e
  | exc k ds h1 => cases e
  | bad => cases e
theorem wipe_get (σ : L2.St) : ∀ (vs : List Nat) (j : Nat), (L2.wipe σ vs)[j]? = if j ∈ vs then (if j < σ.length then some none else none) else σ[j]?
  | [], j => by simp [L2.wipe]
  | v :: vs, j => by
    unfold L2.wipe
    by_cases z : v = j
    · subst z
      by_cases hl : v < σ.length
      · rw [List.getElem?_set_self (by rw [wipe_length]; exact hl)]; simp [hl]
      · rw [List.getElem?_eq_none (by rw [List.length_set, wipe_length]; omega)]; simp [hl]
    · rw [List.getElem?_set_ne z, wipe_get σ vs j]
      have : ¬ j = v := fun q => z q.symm
      simp [this]
theorem wipe_off {σ b : L2.St} {vs own : List Nat} (o : Off vs (L2.wipe σ own) b) (k : ∀ i ∈ vs, i ∈ own) : L2.wipe b own = L2.wipe σ own := by
  apply List.ext_getElem?
  intro j
  have hl : b.length = σ.length := by rw [o.1, wipe_length]
  rw [wipe_get, wipe_get, hl]
  by_cases z : j ∈ own
  · rw [if_pos z, if_pos z]
  · rw [if_neg z, if_neg z, o.2 j (fun q => z (k j q)), wipe_get, if_neg z]
theorem LS.map {K : PySem.W.Frag} {fa : Nat → Addr} {m m1 : LM} {H H1 : Hp} {σ' : Lo} {σ : L2.St} (l : LS K fa m H σ' σ) (u : ∀ w v, WR K fa m H w v → WR K fa m1 H1 w v) : LS K fa m1 H1 σ' σ :=
  ⟨l.len, fun i w e => let ⟨v, a, b⟩ := l.at_ i w e; ⟨v, a, u w v b⟩⟩
theorem lk_lockOne {K : PySem.W.Frag} {fa : Nat → Addr} {m : LM} {h : S} {H : Hp} (lk : Lk K fa m h H) (k : Nat) : Lk K fa m (lockOne h k) H := by
  unfold lockOne
  split
  · rename_i xs e; exact lk.mark e
  · exact lk
theorem lk_openOne {K : PySem.W.Frag} {fa : Nat → Addr} {m : LM} {h : S} {H : Hp} (lk : Lk K fa m h H) (k : Nat) : Lk K fa m (openOne h k) H := by
  unfold openOne
  split
  · rename_i xs e; exact lk.mark e
  · exact lk
theorem lk_lockAll {K : PySem.W.Frag} {fa : Nat → Addr} {m : LM} {H : Hp} : ∀ (ns : List Nat) {h : S}, Lk K fa m h H → Lk K fa m (lockAll h ns) H
  | [], _, lk => lk
  | k :: ns, _, lk => lk_lockAll ns (lk_lockOne lk k)
theorem lk_openAll {K : PySem.W.Frag} {fa : Nat → Addr} {m : LM} {H : Hp} : ∀ (ns : List Nat) {h : S}, Lk K fa m h H → Lk K fa m (openAll h ns) H
  | [], _, lk => lk
  | k :: ns, _, lk => lk_openAll ns (lk_openOne lk k)
/-- what was kept aside becomes a told list -/
theorem Lk.tell {K : PySem.W.Frag} {fa : Nat → Addr} {l : List (Option Addr)} {r : List Addr} {p : Addr} {h : S} {H : Hp} {xs : List D} {ys : List HV} {b : Bool} (lk : Lk K fa ⟨l, p :: r⟩ h H) (np : p ∉ r) (hp : H p = some (.lst ys)) (rs : RDs K fa (still ⟨l, p :: r⟩) H xs ys) :
    Lk K fa ⟨l ++ [some p], r⟩ (h ++ [.lst b (xs.map W.d)]) H := by
  have nl : ∀ a, live ⟨l ++ [some p], r⟩ a → live ⟨l, p :: r⟩ a := fun a hl => by
    rcases hl with ⟨k, hk⟩ | hl
    · by_cases z : k < l.length
      · have hk : (l ++ [some p])[k]? = some (some a) := hk
        rw [List.getElem?_append_left z] at hk
        exact .inl ⟨k, hk⟩
      · have hk : (l ++ [some p])[k]? = some (some a) := hk
        rw [List.getElem?_append_right (Nat.le_of_not_lt z)] at hk
        have y := List.mem_of_getElem? hk
        simp at y; subst y
        exact .inr (List.mem_cons_self ..)
    · exact .inr (List.mem_cons_of_mem _ hl)
  have up : ∀ x v, WR K fa ⟨l, p :: r⟩ H x v → WR K fa ⟨l ++ [some p], r⟩ H x v := fun x v q => by
    cases x with
    | d x => exact RD.imp (fun a k hl => k (nl a hl)) x v q
    | ref k =>
      have hk : k < l.length := q.1
      refine ⟨by simp; omega, fun a e => q.2 a ?_⟩
      have e : (l ++ [some p])[k]? = some (some a) := e
      rw [List.getElem?_append_left hk] at e
      exact e
    | exn _ _ => exact q
  have hlen : l.length = h.length := lk.len
  have ds : ∀ (i : Nat) (a : Addr), l[i]? = some (some a) → a ≠ p := fun i a e z => lk.dis i a e (z ▸ List.mem_cons_self ..)
  refine ⟨by simp [hlen], fun i j a hi hj => ?_, fun i a hi ha => ?_, fun a ha => lk.rsv a (List.mem_cons_of_mem _ ha), fun k cc e => ?_⟩
  · have hi : (l ++ [some p])[i]? = some (some a) := hi
    have hj : (l ++ [some p])[j]? = some (some a) := hj
    by_cases a1 : i < l.length
    · rw [List.getElem?_append_left a1] at hi
      by_cases a2 : j < l.length
      · rw [List.getElem?_append_left a2] at hj; exact lk.inj i j a hi hj
      · rw [List.getElem?_append_right (Nat.le_of_not_lt a2)] at hj
        have z := List.mem_of_getElem? hj
        simp at z
        exact absurd z (ds i a hi)
    · rw [List.getElem?_append_right (Nat.le_of_not_lt a1)] at hi
      have z := List.mem_of_getElem? hi
      simp at z
      by_cases a2 : j < l.length
      · rw [List.getElem?_append_left a2] at hj; exact absurd z (ds j a hj)
      · have l1 := (List.getElem?_eq_some_iff.mp hi).1
        rw [List.getElem?_append_right (Nat.le_of_not_lt a2)] at hj
        have l2 := (List.getElem?_eq_some_iff.mp hj).1
        simp at l1 l2
        omega
  · have hi : (l ++ [some p])[i]? = some (some a) := hi
    by_cases a1 : i < l.length
    · rw [List.getElem?_append_left a1] at hi
      exact lk.dis i a hi (List.mem_cons_of_mem _ ha)
    · rw [List.getElem?_append_right (Nat.le_of_not_lt a1)] at hi
      have z := List.mem_of_getElem? hi
      simp at z; subst z
      exact np ha
  · by_cases a1 : k < h.length
    · rw [List.getElem?_append_left a1] at e
      obtain ⟨u, hu, cr⟩ := lk.cell k cc e
      refine ⟨u, ?_, ?_⟩
      · show (l ++ [some p])[k]? = some u
        rw [List.getElem?_append_left (by omega)]; exact hu
      cases cc with
      | dead => exact cr
      | lst b xs =>
        obtain ⟨a, zs, e1, e2, w⟩ := cr
        exact ⟨a, zs, e1, e2, Paired.mapP w fun _ _ q => up _ _ q⟩
      | dct b kvs => exact cr
      | ins c fs => exact cr
    · rw [List.getElem?_append_right (Nat.le_of_not_lt a1)] at e
      have l1 := (List.getElem?_eq_some_iff.mp e).1
      have z := List.mem_of_getElem? e
      simp at z l1; subst z
      have n0 : k = l.length := by omega
      subst n0
      refine ⟨some p, by simp, p, ys, rfl, hp, ?_⟩
      have w0 : ∀ {xs : List D} {ys : List HV}, RDs K fa (still ⟨l, p :: r⟩) H xs ys → WRs K fa ⟨l ++ [some p], r⟩ H (xs.map W.d) ys := fun {xs} => by
        induction xs with
        | nil => intro ys q; cases (show ys = [] from q); exact .nil
        | cons x xs ih =>
          intro ys q
          obtain ⟨y, t, e, h1, h2⟩ := q
          subst e
          exact .cons (up (.d x) y h1) (ih h2)
      exact w0 rs
theorem compGo_calm (step : W → S → R (Option D)) : ∀ (xs : List W) (h : S), (∃ ds h1, compGo step xs h = .ok ds h1) ∨ compGo step xs h = .bad
  | [], h => .inl ⟨_, _, rfl⟩
  | x :: r, h => by
    unfold compGo
    cases e : step x h with
    | ok o h1 =>
      rcases compGo_calm step r h1 with ⟨ds, h2, q⟩ | q
      · exact .inl ⟨_, h2, by simp only [calm, bind_ok, q]; rfl⟩
      · exact .inr (by simp only [calm, bind_ok, q]; rfl)
    | exc k ds h1 => exact .inr rfl
    | bad => exact .inr rfl
abbrev zNo (X : Cx) (F : Nat → Addr) (Z : Zn) : Zn := ⟨X.K, F, Z.ea, Z.fl, fun _ _ _ _ => False⟩
/-- a turn of it, behind the target: tests and member -/
structure TurnOk (X : Cx) (F : Nat → Addr) (st : Lo → S → R (Option D)) (tt : TT) (te : TE) : Prop where
  go : ∀ (σ2 : L2.St) (σa : Lo) (m : LM) (h h2 : S) (H : Hp) (o : Option D) (Nx : Hp → Prop) (Ny : VK), Lk X.K F m h H → LS X.K F m H σa σ2 → st σa h = .ok o h2 →
    (∀ m1 H1, Step m H m1 H1 → Lk X.K F m1 h2 H1 → match o with
      | none => Nx H1
      | some d => ∀ y, RD X.K F (still m1) H1 d y → Ny y H1) → tt σ2 H fun b H3 => if b = true then te σ2 H3 Ny else Nx H3
theorem comp_core {mt : Bool} {own : List Nat} {tg : Tg} {it : It} {C : Calls} (kc : KC C) {tt : TT} {te : TE} {stp : Lo → S → R (Option D)} (hin : ∀ i ∈ slots tg, i ∈ own) (hk : ∀ σ h, KR h (stp σ h)) (tn : TurnOk X F stp tt te) {σ : L2.St} {H : Hp} {Q : VK} {m : LM} {h : S} {σ' : Lo} (lk : Lk X.K F m h H) (ls : LS X.K F m H σ' σ)
    (rt : Rt (zof X F Z) σ ((evit C it σ' h).bind fun (p : List W × List Nat) h =>
      openR p.2 ((compGo (fun x h => (stg C tg x (wipe σ' own) h).bind stp) p.1 (lockAll h p.2)).bind fun ds h =>
        if ds.length ≤ big then fin mt true (.lst ds) h else .bad)) (WRz (zof X F Z)) m H Q) :
    tLc (TII (zof X F Z) C it) (TIG (zNo X F Z) C tg) tt te own σ H Q := by
  refine ⟨m, h, σ', lk, ls, rt.bind.mono fun J H1 ⟨p, h1, m1, _, st1, lk1, ir, rt⟩ => ?_⟩
  intro D hD
  have ls1 := ls.step lk st1
  obtain ⟨G0, Y, wk, hw⟩ := ir
  have tD : D ∉ m1.r := fun z => by
    obtain ⟨ys, e⟩ := lk1.rsv D z
    rw [hD] at e; cases e
  -- all of it comes out
  obtain ⟨dsA, h3, eqA⟩ : ∃ ds h3, compGo (fun x h => (stg C tg x (wipe σ' own) h).bind stp) p.1 (lockAll h1 p.2) = .ok ds h3 := by
    rcases compGo_calm (fun x h => (stg C tg x (wipe σ' own) h).bind stp) p.1 (lockAll h1 p.2) with ⟨ds, h3, q⟩ | q
    · exact ⟨ds, h3, q⟩
    · rw [q] at rt; exact False.elim rt
  rw [eqA, bind_ok] at rt
  have cl : dsA.length ≤ big := by
    by_cases z : dsA.length ≤ big
    · exact z
    · rw [if_neg z] at rt; exact False.elim rt
  rw [if_pos cl] at rt
  refine lc_it wk (fun i H2 => ∃ l2 h2 acc ds dsR, Lk X.K F ⟨l2, D :: m1.r⟩ h2 H2 ∧ Step m1 H1 ⟨l2, m1.r⟩ H2 ∧ Kept (lockAll h1 p.2) h2 ∧ H2 D = some (.lst acc) ∧ RDs X.K F (still ⟨l2, D :: m1.r⟩) H2 ds acc ∧
    LS X.K F ⟨l2, D :: m1.r⟩ H2 σ' σ ∧ compGo (fun x h => (stg C tg x (wipe σ' own) h).bind stp) (p.1.drop i) h2 = .ok dsR h3 ∧ ds ++ dsR = dsA) ?_ ?_ ?_ ?_
  · obtain ⟨lk2, up⟩ := (lk_lockAll p.2 lk1).aside (p := D) (ys := []) hD
    exact ⟨m1.l, _, [], [], dsA, lk2, Step.new hD, Kept.refl _, upd_same, rfl, ls1.map up, eqA, rfl⟩
  · intro i H2 hi ⟨l2, h2, acc, ds, dsR, lk2, st2, kp, eD, rs, ls2, eq, ea⟩
    exact (hw _ h2 H2 (Step.wide hD st2) lk2 kp).1
  · intro i x H2 H2' hi ⟨l2, h2, acc, ds, dsR, lk2, st2, kp, eD, rs, ls2, eq, ea⟩ y
    obtain ⟨w, g1, st3, lk3, wr⟩ := (hw _ h2 H2 (Step.wide hD st2) lk2 kp).2 i x H2' hi y
    obtain ⟨hi', e0⟩ := List.getElem?_eq_some_iff.mp g1
    rw [List.drop_eq_getElem_cons hi', e0] at eq
    unfold compGo at eq
    obtain ⟨o, h4, q1, eq⟩ := bind_eq_ok eq
    obtain ⟨dsB, h5, q2, eq⟩ := bind_eq_ok eq
    obtain ⟨σa, h6, q3, q4⟩ := bind_eq_ok (calm_eq_ok q1)
    have eD' : H2' D = some (.lst acc) := st3.same D (List.mem_cons_self ..) _ eD
    have ls3 := (ls2.step lk2 st3).wipe own
    refine ⟨_, h2, _, w, lk3, ls3, wr, ?_⟩
    rw [q3]
    intro m6 H6 σ6 st6 lk6 ⟨ls6, of6⟩
    refine ⟨wipe_off of6 hin, tn.go σ6 σa m6 h6 h4 H6 o _ _ lk6 ls6 q4 fun m7 H7 st7 lk7 => ?_⟩
    -- behind the turn
    obtain ⟨l7, r7⟩ := m7
    have e7 : r7 = D :: m1.r := by
      have a1 := st7.res
      have a2 := st6.res
      rw [a2] at a1
      exact a1
    subst e7
    have st67 : Step ⟨l2, D :: m1.r⟩ H2 ⟨l7, D :: m1.r⟩ H7 := (st3.trans st6).trans st7
    have eD7 : H7 D = some (.lst acc) := st67.same D (List.mem_cons_self ..) _ eD
    have kp7 : Kept (lockAll h1 p.2) h4 := by
      have k1 : KR h2 (stg C tg w (wipe σ' own) h2) := kr_stg kc tg w _ h2
      rw [q3] at k1
      have k2 : KR h6 (stp σa h6) := hk σa h6
      rw [q4] at k2
      exact (kp.trans k1).trans k2
    cases o with
    | none =>
      have eq' : dsB = dsR ∧ h5 = h3 := by cases eq; exact ⟨rfl, rfl⟩
      obtain ⟨rfl, rfl⟩ := eq'
      refine ⟨l7, h4, acc, ds, dsB, lk7, ?_, kp7, eD7, rs.step lk2 st67, ls2.step lk2 st67, q2, ea⟩
      have z := Step.less (o := .lst acc) hD st2 st67
      rwa [show upd H7 D (.lst acc) = H7 from by
        funext a
        by_cases y : a = D
        · subst y; rw [upd_same]; exact eD7.symm
        · rw [upd_ne y]] at z
    | some d =>
      have eq' : dsR = d :: dsB ∧ h5 = h3 := by cases eq; exact ⟨rfl, rfl⟩
      obtain ⟨rfl, rfl⟩ := eq'
      intro y ry
      obtain ⟨lk8, up8⟩ := Lk.wset (m := ⟨l7, m1.r⟩) (ys := acc ++ [y]) lk7
      have rs7 := rs.step lk2 st67
      refine ⟨acc, eD7, ?_, l7, h4, acc ++ [y], ds ++ [d], dsB, lk8, Step.less hD st2 st67, kp7, upd_same, ?_, (ls2.step lk2 st67).map fun w v q => ?_, q2, by rw [← ea]; simp⟩
      · have a1 := congrArg List.length ea
        have a2 := rs.length
        rw [sizeLine_eq]
        unfold big at cl
        simp at a1
        omega
      · have all : ∀ {xs : List G.D} {ys : List HV}, RDs X.K F (still ⟨l7, D :: m1.r⟩) H7 xs ys → RDs X.K F (still ⟨l7, D :: m1.r⟩) (upd H7 D (.lst (acc ++ [y]))) xs ys := fun {xs} => by
          induction xs with
          | nil => intro ys q; exact q
          | cons x xs ih =>
            intro ys q
            obtain ⟨y, t, e, h1, h2⟩ := q
            exact ⟨y, t, e, up8 _ _ h1, ih h2⟩
        exact all (rs7.app (RDs.one ry))
      · cases w with
        | d x => exact up8 _ _ q
        | ref n => exact q
        | exn _ _ => exact q
  · intro H2 ⟨l2, h2, acc, ds, dsR, lk2, st2, kp, eD, rs, ls2, eq, ea⟩
    rw [List.drop_eq_nil_of_le (Nat.le_refl _)] at eq
    have eq' : dsR = [] ∧ h2 = h3 := by cases eq; exact ⟨rfl, rfl⟩
    obtain ⟨rfl, rfl⟩ := eq'
    rw [List.append_nil] at ea
    subst ea
    cases mt with
    | false =>
      have rt : Rt (zof X F Z) σ (.ok (.d (.lst ds)) (openAll h2 p.2)) (WRz (zof X F Z)) m1 H1 Q := rt
      refine rt ⟨l2, m1.r⟩ H2 (.ref D) st2 (lk_openAll p.2 lk2.less) ⟨D, acc, rfl, ⟨eD, fun hl => ?_⟩, ?_⟩
      · rcases hl with ⟨k, hk⟩ | hl
        · exact lk2.dis k D hk (List.mem_cons_self ..)
        · exact tD hl
      · exact RDs.imp (fun _ k hl => k (hl.elim .inl fun z => .inr (List.mem_cons_of_mem _ z))) _ _ rs
    | true =>
      have rt : Rt (zof X F Z) σ (.ok (.ref h2.length) (openAll (h2 ++ [.lst false (ds.map W.d)]) p.2)) (WRz (zof X F Z)) m1 H1 Q := rt
      have hl : l2.length = h2.length := lk2.len
      refine rt ⟨l2 ++ [some D], m1.r⟩ H2 (.ref D) ?_ (lk_openAll p.2 (lk2.tell tD eD rs)) ⟨?_, fun a e => ?_⟩
      · refine ⟨Nat.le_trans st2.len (by simp), fun k a hk e => ?_, fun a u e k => ⟨(st2.keep a u e k).1, fun hl => ?_⟩, rfl, st2.same⟩
        · have e : (l2 ++ [some D])[k]? = some (some a) := e
          rw [List.getElem?_append_left (Nat.lt_of_lt_of_le hk st2.len)] at e
          exact st2.live k a hk e
        · rcases hl with ⟨j, hj⟩ | hl
          · have hj : (l2 ++ [some D])[j]? = some (some a) := hj
            by_cases z : j < l2.length
            · rw [List.getElem?_append_left z] at hj
              exact (st2.keep a u e k).2 (.inl ⟨j, hj⟩)
            · rw [List.getElem?_append_right (Nat.le_of_not_lt z)] at hj
              have y := List.mem_of_getElem? hj
              simp at y
              exact ne_of_none e hD y
          · exact (st2.keep a u e k).2 (.inr hl)
      · show h2.length < (l2 ++ [some D]).length
        simp; omega
      · have e : (l2 ++ [some D])[h2.length]? = some (some a) := e
        rw [← hl] at e
        simp at e
        rw [e]
theorem turn_plain {Z : Zn} {e : Ex} {te : TE} {C : Calls} (h : te = TIE (zNo X F Z) C e) : TurnOk X F (fun σ h => (ev C e false σ h).bind fun y h => (ofO h (asD y)).bind fun d h => .ok (some d) h) tYes te := by
  subst h
  refine ⟨fun σ2 σa m h h2 H o Nx Ny lk ls eq k => ?_⟩
  show TIE (zNo X F Z) C e σ2 H Ny
  obtain ⟨y, h3, q1, q2⟩ := bind_eq_ok eq
  obtain ⟨d, h4, q3, q4⟩ := bind_eq_ok q2
  obtain ⟨q5, q6⟩ := ofO_eq_ok q3
  subst q6
  cases q4
  refine ⟨m, h, σa, lk, ls, ?_⟩
  rw [q1]
  intro m1 H1 v st lk1 wr
  refine k m1 H1 st lk1 v ?_
  cases y with
  | d x => cases q5; exact wr
  | ref _ => cases q5
  | exn _ _ => cases q5
theorem turn_test {Z : Zn} {e t : Ex} {tt : TT} {te : TE} {C : Calls} (h : te = TIE (zNo X F Z) C e) (ht : tt = TIT (zNo X F Z) C t) : TurnOk X F (fun σ h => (ev C t true σ h).bind fun c h => match c with
    | .d (.bl true) => (ev C e false σ h).bind fun y h => (ofO h (asD y)).bind fun d h => .ok (some d) h
    | .d (.bl false) => .ok none h
    | _ => .bad) tt te := by
  subst h; subst ht
  refine ⟨fun σ2 σa m h h2 H o Nx Ny lk ls eq k => ?_⟩
  obtain ⟨cv, h3, q1, q2⟩ := bind_eq_ok eq
  refine ⟨m, h, σa, lk, ls, ?_⟩
  rw [q1]
  intro m1 H1 b st lk1 er
  subst er
  cases b with
  | true =>
    rw [if_pos rfl]
    obtain ⟨y, h4, q3, q4⟩ := bind_eq_ok (show (ev C e false σa h3).bind _ = _ from q2)
    obtain ⟨d, h5, q5, q6⟩ := bind_eq_ok q4
    obtain ⟨q7, q8⟩ := ofO_eq_ok q5
    subst q8
    cases q6
    refine ⟨m1, h3, σa, lk1, ls.step lk st, ?_⟩
    rw [q3]
    intro m2 H2 v st2 lk2 wr
    refine k m2 H2 (st.trans st2) lk2 v ?_
    cases y with
    | d x => cases q7; exact wr
    | ref _ => cases q7
    | exn _ _ => cases q7
  | false =>
    rw [if_neg (by decide)]
    cases (show R.ok none h3 = R.ok o h2 from q2)
    exact k m1 H1 st lk1
theorem kr_plain {C : Calls} (kc : KC C) (e : Ex) (σ : Lo) (h : S) : KR h ((ev C e false σ h).bind fun y h => (ofO h (asD y)).bind fun d h => .ok (some d) h) :=
  (kr_ev kc e false σ h).bind fun y h1 _ => (KR.ofO h1 _).bind fun d h2 _ => Kept.refl h2
theorem kr_test {C : Calls} (kc : KC C) (e t : Ex) (σ : Lo) (h : S) : KR h ((ev C t true σ h).bind fun c h => match c with
    | .d (.bl true) => (ev C e false σ h).bind fun y h => (ofO h (asD y)).bind fun d h => .ok (some d) h
    | .d (.bl false) => .ok none h
    | _ => .bad) := (kr_ev kc t true σ h).bind fun c h1 _ => by
  split
  · exact kr_plain kc e σ h1
  · exact Kept.refl h1
  · trivial
theorem kc_calls (P : Prog) (n : Nat) : KC (calls P n) := kr_run P n
/-- what a comprehension's text gives: as a value and as a name's -/
structure CompOk (X : Cx) (F : Nat → Addr) (Z : Zn) (C : Calls) (e : Ex) (a : Expr) (b : List Comprehension) (sc : Scope) (p : Pos) : Prop where
  ex : PE X (.ListComp a b sc p) (TIE (zof X F Z) C e)
  st : ∀ (i : Nat) (y : Str) (py spos : Pos), X.N[i]? = some y → X.env.scope.names.lookup y = some .local → swapsWith (.ListComp a b sc p) (some (.Name y py)) spos.line X.env = pure true →
    ∃ t : TE, PS X (.Assign [.Name y py] (.ListComp a b sc p) spos) (tAsg t (gName i)) ∧ ∀ σ H Q, TIE (zof X F Z) C e σ H Q → t σ H Q
theorem compOk_of {C : Calls} {e : Ex} {a g i : Expr} {ifs : List Expr} {sc : Scope} {p : Pos} {own : List (Str × Nat)} {wi : TI} {tg : TG} {tt : TT} {te : TE} (hc : X.calm = true) (hN : X.N.Nodup) (hi : PI X g i wi) (ok : BlkOk X.N X.env.scope sc own)
    (hg : ∀ (s : Shared) (H : Hp) (C : Addr) (cl : List (Str × Addr)) (fp : List Addr), PG (X.blk s H sc (compEnvC sc cl C X.env) fp) g tg) (ht : ∀ (s : Shared) (H : Hp) (C : Addr) (cl : List (Str × Addr)) (fp : List Addr), PTs (X.blk s H sc (compEnvC sc cl C X.env) fp) ifs tt)
    (he : ∀ (s : Shared) (H : Hp) (C : Addr) (cl : List (Str × Addr)) (fp : List Addr), PE (X.blk s H sc (compEnvC sc cl C X.env) fp) a te) (hs : ∀ x, foldedSetIterable i X.env x = pure x)
    (core : ∀ σ H Q, TIE (zof X F Z) C e σ H Q → tLc wi tg tt te (own.map (·.2)) σ H Q) : CompOk X F Z C e a [⟨g, i, ifs, 0⟩] sc p :=
  ⟨pe_imp (pe_lc hc hN hi ok hg ht he hs) core, fun i y py spos h1 h2 h3 => ⟨_, ps_setLc hc hN h1 h2 h3 hi ok hg ht he hs, core⟩⟩
theorem within_at {own vs : List Nat} (h : within own vs = true) : ∀ i ∈ vs, i ∈ own := fun i hi => by
  have := List.all_eq_true.mp h i hi
  simpa using this
theorem c_comp {mt : Bool} {own : List Nat} {e : Ex} {tg : Tg} {it : It} (ihe : SE T P n F e) (ihg : SG T P n F tg) (ihi : SI T P n F it) (x : Expr) (h : okE T (.comp mt own e tg it) c x = true) (ok : Ok T P n c X F Z) :
    ∃ a b sc p, x = .ListComp a b sc p ∧ CompOk X F Z (calls P n) (.comp mt own e tg it) a b sc p := by
  unfold okE at h
  split at h
  · rename_i y g i sc eq
    obtain ⟨p, rfl⟩ := dComp_eq eq
    obtain ⟨h, h7⟩ := Bool.and_eq_true_iff.mp h
    obtain ⟨h, h6⟩ := Bool.and_eq_true_iff.mp h
    obtain ⟨h, h5⟩ := Bool.and_eq_true_iff.mp h
    obtain ⟨h, h4⟩ := Bool.and_eq_true_iff.mp h
    obtain ⟨h, h3⟩ := Bool.and_eq_true_iff.mp h
    obtain ⟨h1, h2⟩ := Bool.and_eq_true_iff.mp h
    have e2 := of_decide_eq_true h2
    refine ⟨y, _, sc, p, rfl, compOk_of (own := ownP c.N own) (tt := tYes) (te := TIE (zNo X F Z) (calls P n) e) (tg := TIG (zNo X F Z) (calls P n) tg) ok.hc ok.nd (ihi c g i h7 X Z ok) ?_ (fun s H C cl fp => ?_) (fun s H C cl fp => pts_nil) (fun s H C cl fp => ?_) (nofold h4) fun σ H Q q => ?_⟩
    · rw [ok.hN, ok.hs]; exact blkOk_by h1
    · exact ihg (c.blk sc) g h6 _ _ (ok.blk s H cl C fp)
    · exact (ihe (c.blk sc) y h5 _ _ (ok.blk s H cl C fp)).1
    · obtain ⟨m, h, σ', lk, ls, rt⟩ := q
      unfold ev at rt
      rw [asked_f] at rt
      rw [e2]
      exact comp_core (kc_calls P n) (within_at h3) (kr_plain (kc_calls P n) e) (turn_plain rfl) lk ls rt
  · cases h
theorem c_compc {mt : Bool} {own : List Nat} {e t : Ex} {tg : Tg} {it : It} (ihe : SE T P n F e) (ihg : SG T P n F tg) (ihi : SI T P n F it) (iht : SE T P n F t) (x : Expr) (h : okE T (.compc mt own e tg it t) c x = true) (ok : Ok T P n c X F Z) :
    ∃ a b sc p, x = .ListComp a b sc p ∧ CompOk X F Z (calls P n) (.compc mt own e tg it t) a b sc p := by
  unfold okE at h
  split at h
  · rename_i y g i z sc eq
    obtain ⟨p, rfl⟩ := dComp_eq eq
    obtain ⟨h, h8⟩ := Bool.and_eq_true_iff.mp h
    obtain ⟨h, h7⟩ := Bool.and_eq_true_iff.mp h
    obtain ⟨h, h6⟩ := Bool.and_eq_true_iff.mp h
    obtain ⟨h, h5⟩ := Bool.and_eq_true_iff.mp h
    obtain ⟨h, h4⟩ := Bool.and_eq_true_iff.mp h
    obtain ⟨h, h3⟩ := Bool.and_eq_true_iff.mp h
    obtain ⟨h1, h2⟩ := Bool.and_eq_true_iff.mp h
    have e2 := of_decide_eq_true h2
    refine ⟨y, _, sc, p, rfl, compOk_of (own := ownP c.N own) (tt := TIT (zNo X F Z) (calls P n) t) (te := TIE (zNo X F Z) (calls P n) e) (tg := TIG (zNo X F Z) (calls P n) tg) ok.hc ok.nd (ihi c g i h7 X Z ok) ?_ (fun s H C cl fp => ?_) (fun s H C cl fp => pts_one ?_) (fun s H C cl fp => ?_) (nofold h4) fun σ H Q q => ?_⟩
    · rw [ok.hN, ok.hs]; exact blkOk_by h1
    · exact ihg (c.blk sc) g h6 _ _ (ok.blk s H cl C fp)
    · exact (iht (c.blk sc) z h8 _ _ (ok.blk s H cl C fp)).2.1
    · exact (ihe (c.blk sc) y h5 _ _ (ok.blk s H cl C fp)).1
    · obtain ⟨m, h, σ', lk, ls, rt⟩ := q
      unfold ev at rt
      rw [asked_f] at rt
      rw [e2]
      exact comp_core (kc_calls P n) (within_at h3) (kr_test (kc_calls P n) e t) (turn_test rfl rfl) lk ls rt
  · cases h
theorem s_comp {mt : Bool} {own : List Nat} {e : Ex} {tg : Tg} {it : It} (ihe : SE T P n F e) (ihg : SG T P n F tg) (ihi : SI T P n F it) : SE T P n F (.comp mt own e tg it) := fun c x h X Z ok => by
  obtain ⟨a, b, sc, p, rfl, k⟩ := c_comp ihe ihg ihi x h ok
  exact trip k.ex (fun _ => rfl) (fun σ h => by unfold ev; exact md_r _) rfl
theorem s_compc {mt : Bool} {own : List Nat} {e t : Ex} {tg : Tg} {it : It} (ihe : SE T P n F e) (ihg : SG T P n F tg) (ihi : SI T P n F it) (iht : SE T P n F t) : SE T P n F (.compc mt own e tg it t) := fun c x h X Z ok => by
  obtain ⟨a, b, sc, p, rfl, k⟩ := c_compc ihe ihg ihi iht x h ok
  exact trip k.ex (fun _ => rfl) (fun σ h => by unfold ev; exact md_r _) rfl
end
end G

set_option linter.all false
set_option Elab.async false
set_option maxRecDepth 100000
set_option maxHeartbeats 1000000
namespace G
open PySem L2 PyProof.Rows
/-! ### statements -/
/-- how a statement ends -/
inductive Fv where
  | nx (σ : L2.St) | rt (v : HV) | bk (σ : L2.St) | ct (σ : L2.St)
def RF (K : PySem.W.Frag) (fa : Nat → Addr) (A : List Nat) (σ : L2.St) : LM → S → Hp → Fl → Fv → Prop := fun m _ H a b => match a, b with
  | .nx s, .nx t => LS K fa m H s t ∧ Off A σ t
  | .bk s, .bk t => LS K fa m H s t ∧ Off A σ t
  | .ct s, .ct t => LS K fa m H s t ∧ Off A σ t
  | .rt w, .rt v => WR K fa m H w v
  | _, _ => False
def QF (E : Ends) : Fv → Hp → Prop := fun f H => match f with
  | .nx σ => E.nx σ H
  | .bk σ => E.bk σ H
  | .ct σ => E.ct σ H
  | .rt v => E.rt v H
abbrev RtS (Z : Zn) (A : List Nat) (σ : L2.St) (r : R Fl) (m : LM) (H : Hp) (E : Ends) : Prop := Rt Z σ r (RF Z.K Z.fa A σ) m H (QF E)
def TIS (Z : Zn) (A : List Nat) (C : Calls) (s : St) : TS := fun E σ H => ∃ m h σ', Lk Z.K Z.fa m h H ∧ LS Z.K Z.fa m H σ' σ ∧ RtS Z A σ (ex C s σ' h) m H E
def TISs (Z : Zn) (A : List Nat) (C : Calls) (s : Sts) : TS := fun E σ H => ∃ m h σ', Lk Z.K Z.fa m h H ∧ LS Z.K Z.fa m H σ' σ ∧ RtS Z A σ (exs C s σ' h) m H E
def SS (T : Tab) (P : Prog) (n : Nat) (F : Nat → Addr) (s : St) : Prop := ∀ (c : Cc) (x : Stmt), okS T s c x = true → ∀ (X : Cx) (Z : Zn), Ok T P n c X F Z → PS X x (TIS (zof X F Z) c.A (calls P n) s)
def SSs (T : Tab) (P : Prog) (n : Nat) (F : Nat → Addr) (s : Sts) : Prop := ∀ (c : Cc) (x : List Stmt), okSs T s c x = true → ∀ (X : Cx) (Z : Zn), Ok T P n c X F Z → PSs X x (TISs (zof X F Z) c.A (calls P n) s)
theorem ps_imp {X : Cx} {e : Stmt} {t t' : TS} (h : PS X e t) (k : ∀ D σ H, t' D σ H → t D σ H) : PS X e t' := ⟨fun pins s σ H D I w => h.run pins s σ H D I (k D σ H w)⟩
theorem pss_imp {X : Cx} {e : List Stmt} {t t' : TS} (h : PSs X e t) (k : ∀ D σ H, t' D σ H → t D σ H) : PSs X e t' := ⟨fun pins s σ H D I w => h.run pins s σ H D I (k D σ H w)⟩
theorem Off.tr {a : List Nat} {σ τ υ : L2.St} (x : Off a σ τ) (y : Off a τ υ) : Off a σ υ := ⟨y.1.trans x.1, fun j hj => (y.2 j hj).trans (x.2 j hj)⟩
section
variable {T : Tab} {P : Prog} {n : Nat} {F : Nat → Addr} {c : Cc} {X : Cx} {Z : Zn}
/-- from slots that changed by now -/
theorem RtS.shift {A : List Nat} {σ τ : L2.St} {r : R Fl} {m : LM} {H : Hp} {E : Ends} (hw : ∀ k d H, Z.wx k d σ H → Z.wx k d τ H) (o : Off A σ τ) (x : RtS Z A σ r m H E) : RtS Z A τ r m H E := by
  refine Rt.shift hw (fun m h H a b z => ?_) x
  cases a <;> cases b <;> first | exact ⟨z.1, o.tr z.2⟩ | exact z
theorem RtS.mono {A : List Nat} {σ : L2.St} {r : R Fl} {m : LM} {H : Hp} {E E' : Ends} (x : RtS Z A σ r m H E) (h1 : ∀ s H, E.nx s H → E'.nx s H) (h2 : ∀ v H, E.rt v H → E'.rt v H) (h3 : ∀ s H, E.bk s H → E'.bk s H) (h4 : ∀ s H, E.ct s H → E'.ct s H) : RtS Z A σ r m H E' :=
  Rt.mono x fun b H q => by cases b <;> first | exact h1 _ _ q | exact h2 _ _ q | exact h3 _ _ q | exact h4 _ _ q
/-- going on behind a statement -/
theorem RtS.bind {A : List Nat} {σ : L2.St} {r : R Fl} {f : Fl → S → R Fl} {m : LM} {H : Hp} {E : Ends} (hw : ∀ τ k d H, Off A σ τ → Z.wx k d σ H → Z.wx k d τ H) (x : RtS Z A σ (r.bind f) m H E) :
    Rt Z σ r (RF Z.K Z.fa A σ) m H fun b H1 => ∃ a h1 m1, Step m H m1 H1 ∧ Lk Z.K Z.fa m1 h1 H1 ∧ RF Z.K Z.fa A σ m1 h1 H1 a b ∧ (∀ τ, Off A σ τ → RtS Z A τ (f a h1) m1 H1 E) ∧ RtS Z A σ (f a h1) m1 H1 E :=
  (Rt.bind x).mono fun b H1 ⟨a, h1, m1, _, st, lk, rl, y⟩ => ⟨a, h1, m1, st, lk, rl, fun τ o => RtS.shift (hw τ · · · o) o y, y⟩
theorem Ok.wz (ok : Ok T P n c X F Z) : ∀ τ k d H σ, Off c.A σ τ → (zof X F Z).wx k d σ H → (zof X F Z).wx k d τ H := fun τ k d H σ o z => ok.wi σ τ k d H o z
theorem t_nil : SSs T P n F .nil := fun c x h X Z ok => by
  unfold okSs at h
  cases x with
  | nil => exact pss_imp pss_nil fun E σ H ⟨m, h, σ', lk, ls, rt⟩ => rt m H (.nx σ) Step.refl lk ⟨ls, Off.refl _ _⟩
  | cons _ _ => cases h
theorem t_cons {s : St} {r : Sts} (ih : SS T P n F s) (ihr : SSs T P n F r) : SSs T P n F (.cons s r) := fun c x h X Z ok => by
  unfold okSs at h
  cases x with
  | nil => cases h
  | cons y ys =>
    obtain ⟨h1, h2⟩ := Bool.and_eq_true_iff.mp h
    refine pss_imp (pss_cons (ih c y h1 X Z ok) (ihr c ys h2 X Z ok)) fun E σ H ⟨m, h, σ', lk, ls, rt⟩ => ?_
    unfold exs at rt
    refine ⟨m, h, σ', lk, ls, (RtS.bind (fun τ k d H o => ok.wz τ k d H σ o) rt).mono fun b H1 ⟨a, h1, m1, st, lk1, rl, rt1, rt2⟩ => ?_⟩
    match a, b, rl, rt1, rt2 with
    | .nx s1, .nx τ, rl, rt1, rt2 => exact ⟨m1, h1, s1, lk1, rl.1, rt1 τ rl.2⟩
    | .bk s1, .bk τ, rl, rt1, rt2 => exact rt2 m1 H1 (.bk τ) Step.refl lk1 rl
    | .ct s1, .ct τ, rl, rt1, rt2 => exact rt2 m1 H1 (.ct τ) Step.refl lk1 rl
    | .rt w, .rt v, rl, rt1, rt2 => exact rt2 m1 H1 (.rt v) Step.refl lk1 rl
theorem t_nev : SS T P n F .nev := fun c x h X Z ok => ps_imp (t := tNever) ps_never fun E σ H ⟨m, h, σ', lk, ls, rt⟩ => rt
theorem t_pass : SS T P n F .pass := fun c x h X Z ok => by
  have k : ∀ E σ H, TIS (zof X F Z) c.A (calls P n) .pass E σ H → tNext E σ H := fun E σ H ⟨m, h, σ', lk, ls, rt⟩ => rt m H (.nx σ) Step.refl lk ⟨ls, Off.refl _ _⟩
  unfold okS at h
  split at h
  · exact ps_imp ps_pass k
  · exact ps_imp ps_doc k
  · cases h
theorem t_brk : SS T P n F .brk := fun c x h X Z ok => by
  unfold okS at h
  split at h
  · exact ps_imp ps_break fun E σ H ⟨m, h, σ', lk, ls, rt⟩ => rt m H (.bk σ) Step.refl lk ⟨ls, Off.refl _ _⟩
  · cases h
theorem t_cnt : SS T P n F .cnt := fun c x h X Z ok => by
  unfold okS at h
  split at h
  · exact ps_imp ps_continue fun E σ H ⟨m, h, σ', lk, ls, rt⟩ => rt m H (.ct σ) Step.refl lk ⟨ls, Off.refl _ _⟩
  · cases h
theorem t_retN : SS T P n F .retN := fun c x h X Z ok => by
  unfold okS at h
  split at h
  · exact ps_imp ps_retN fun E σ H ⟨m, h, σ', lk, ls, rt⟩ => rt m H (.rt .non) Step.refl lk rfl
  · cases h
theorem t_ret {e : Ex} (ih : SE T P n F e) : SS T P n F (.ret e) := fun c x h X Z ok => by
  unfold okS at h
  split at h
  · rename_i y p
    refine ps_imp (ps_ret (ih c y h X Z ok).1) fun E σ H ⟨m, h, σ', lk, ls, rt⟩ => ?_
    unfold ex at rt
    exact ⟨m, h, σ', lk, ls, (Rt.bind rt).mono fun v H1 ⟨w, h1, m1, _, st, lk1, wr, rt⟩ => rt m1 H1 (.rt v) Step.refl lk1 wr⟩
  · cases h
theorem noswap {x : Expr} {t : Option Expr} {l : Nat} {env : Env} (h : notComp x = true) : swapsWith x t l env = pure false := by
  cases x <;> first | rfl | cases h
theorem t_expr {e : Ex} (ih : SE T P n F e) : SS T P n F (.expr e) := fun c x h X Z ok => by
  unfold okS at h
  split at h
  · rename_i y p
    obtain ⟨h1, h2⟩ := Bool.and_eq_true_iff.mp h
    refine ps_imp (ps_expr (ih c y h2 X Z ok).1 (noswap h1)) fun E σ H ⟨m, h, σ', lk, ls, rt⟩ => ?_
    unfold ex at rt
    exact ⟨m, h, σ', lk, ls, (Rt.bind rt).mono fun v H1 ⟨w, h1, m1, _, st, lk1, wr, rt⟩ => rt m1 H1 (.nx σ) Step.refl lk1 ⟨ls.step lk st, Off.refl _ _⟩⟩
  · cases h
theorem nocel {x g : Expr} {l : Nat} {env : Env} (h : (notComp x || isCel env.scope g) = true) : swapsWithSole [g] x l env = pure false := by
  rcases Bool.or_eq_true_iff.mp h with h | h
  · exact noswap h
  · unfold isCel at h
    cases g with
    | Name y p =>
      simp only [] at h
      have k : env.kindOf y = some .cell := by
        show env.scope.names.lookup y = _
        split at h
        · assumption
        · cases h
      show swapsWith x (some (.Name y p)) l env = _
      unfold swapsWith
      cases x <;> first | rfl | (simp only [k]; cases env.blockKind == ScopeKind.function <;> rfl)
    | _ => cases h
theorem nopair {g x : Expr} {env : Env} (h : notPair g x = true) : swappedStores [g] x env = pure none := by
  unfold notPair at h
  unfold swappedStores
  rcases Bool.or_eq_true_iff.mp h with h | h
  · cases g <;> first | rfl | cases h
  · cases x <;> first | (cases g <;> rfl) | cases h
theorem noeach {g : Expr} {env : Env} (h : notStar g = true) : (assignEach [g] env).map (·.2) = [assign g env] := by
  cases g <;> first | rfl | cases h
theorem t_asg {tg : Tg} {e : Ex} (ih : SE T P n F e) (ihg : SG T P n F tg) : SS T P n F (.asg tg e) := fun c x h X Z ok => by
  unfold okS at h
  split at h
  · rename_i g y p
    obtain ⟨h, h5⟩ := Bool.and_eq_true_iff.mp h
    obtain ⟨h, h4⟩ := Bool.and_eq_true_iff.mp h
    obtain ⟨h, h3⟩ := Bool.and_eq_true_iff.mp h
    obtain ⟨h1, h2⟩ := Bool.and_eq_true_iff.mp h
    refine ps_imp (ps_asg (ih c y h4 X Z ok).1 (ihg c g h5 X Z ok) (nocel (by rw [ok.hs]; exact h1)) (nopair h2) (noeach h3)) fun E σ H ⟨m, h, σ', lk, ls, rt⟩ => ?_
    unfold ex at rt
    refine ⟨m, h, σ', lk, ls, (Rt.bind rt).mono fun v H1 ⟨w, h1, m1, _, st, lk1, wr, rt⟩ => ?_⟩
    refine ⟨m1, h1, σ', w, lk1, ls.step lk st, wr, (Rt.bind rt).mono fun τ H2 ⟨a, h2, m2, _, st2, lk2, ⟨ls2, of2⟩, rt⟩ => ?_⟩
    exact rt m2 H2 (.nx τ) Step.refl lk2 ⟨ls2, of2.mono (slots_A tg c g h5)⟩
  · cases h
theorem t_ifs {t : Ex} {a b : Sts} (ih : SE T P n F t) (iha : SSs T P n F a) (ihb : SSs T P n F b) : SS T P n F (.ifs t a b) := fun c x h X Z ok => by
  unfold okS at h
  split at h
  · rename_i y p q ps
    obtain ⟨h, h3⟩ := Bool.and_eq_true_iff.mp h
    obtain ⟨h1, h2⟩ := Bool.and_eq_true_iff.mp h
    refine ps_imp (ps_if (ih c y h1 X Z ok).2.1 (iha c p h2 X Z ok) (ihb c q h3 X Z ok)) fun E σ H ⟨m, h, σ', lk, ls, rt⟩ => ?_
    unfold ex at rt
    refine ⟨m, h, σ', lk, ls, (Rt.bind rt).mono fun v H1 ⟨w, h1, m1, _, st, lk1, e, rt⟩ => ?_⟩
    subst e
    cases v with
    | true => rw [if_pos rfl]; exact ⟨m1, h1, σ', lk1, ls.step lk st, rt⟩
    | false => rw [if_neg (by decide)]; exact ⟨m1, h1, σ', lk1, ls.step lk st, rt⟩
  · cases h
theorem addI_eq {x y z : W} (e : addI x y = some z) : ∃ i j : Int, x = .d (.int i) ∧ y = .d (.int j) ∧ z = .d (.int (i + j)) := by
  unfold addI at e
  split at e
  · cases e; exact ⟨_, _, rfl, rfl, rfl⟩
  · cases e
theorem t_aug {i : Nat} {e : Ex} (ih : SE T P n F e) : SS T P n F (.aug i e) := fun c x h X Z ok => by
  unfold okS at h
  split at h
  · rename_i x p y q
    obtain ⟨h, h4⟩ := Bool.and_eq_true_iff.mp h
    obtain ⟨h, h3⟩ := Bool.and_eq_true_iff.mp h
    obtain ⟨h1, h2⟩ := Bool.and_eq_true_iff.mp h
    obtain ⟨g1, g2, g3⟩ := ok.stores (of_decide_eq_true h1) h2
    refine ps_imp (ps_aug ok.nd g1 g2 (ih c y h4 X Z ok).1 ip_add g3) fun E σ H ⟨m, h, σ', lk, ls, rt⟩ => ?_
    unfold ex at rt
    obtain ⟨w0, e0, rt⟩ := rt.ofO
    have e0 : σ'[i]? = some (some w0) := by
      cases z : σ'[i]? with
      | none => rw [z] at e0; cases e0
      | some o => rw [z] at e0; cases o <;> first | (cases e0; rfl) | cases e0
    obtain ⟨v0, a1, a2⟩ := ls.at_ i w0 e0
    refine ⟨v0, a1, m, h, σ', lk, ls, (Rt.bind rt).mono fun v H1 ⟨w, h1, m1, _, st, lk1, wr, rt⟩ => ?_⟩
    obtain ⟨z, ez, rt⟩ := rt.ofO
    obtain ⟨i0, j0, r1, r2, r3⟩ := addI_eq ez
    subst r1; subst r2; subst r3
    cases (show v0 = .int i0 from a2)
    cases (show v = .int j0 from wr)
    refine ⟨i0, j0, rfl, rfl, rt m1 H1 (.nx _) Step.refl lk1 ⟨(ls.step lk st).set rfl, (Off.set i _).mono fun j hj => ?_⟩⟩
    simp at hj; subst hj
    simpa using h3
  · cases h
theorem t_par {i j : Nat} {a b : Ex} (iha : SE T P n F a) (ihb : SE T P n F b) : SS T P n F (.par i j a b) := fun c x h X Z ok => by
  unfold okS okPar at h
  split at h
  · rename_i x px y py k1 p1 u v k2 p2 p
    simp only [Bool.and_eq_true] at h
    obtain ⟨⟨⟨⟨⟨⟨⟨⟨⟨⟨⟨⟨⟨⟨⟨h1, h2⟩, h3⟩, h4⟩, h5⟩, h6⟩, h7⟩, h8⟩, h9⟩, h10⟩, h11⟩, h12⟩, h13⟩, h14⟩, h15⟩, h16⟩ := h
    have lo : ∀ z, isLo c.sc z = true → X.env.scope.names.lookup z = some .local := fun z hz => by
      rw [ok.hs]
      unfold isLo at hz
      split at hz
      · assumption
      · cases hz
    have lx := lo x h5
    have ly := lo y h6
    have hxy := of_decide_eq_true h4
    have fk : X.env.blockKind = .function := by
      unfold Env.blockKind
      rw [ok.hs]
      unfold isFnK at h7
      split at h7
      · rename_i e; rw [e]; rfl
      · cases h7
    have n1 := nostar1 (es := [v]) (env := X.env) h11
    have n2 := nostar1 (es := []) (env := X.env) h12
    have hw : swappedStores [.Tuple [.Name x px, .Name y py] k1 p1] (.Tuple [u, v] k2 p2) X.env = pure (some [x, y]) := by
      have kx : X.env.kindOf x = some .local := lx
      have ky : X.env.kindOf y = some .local := ly
      have f1 : ([u, v].all (foldedForSure 8)) = false := by simpa only [Bool.not_eq_true'] using h9
      have f2 : ([u, v].all (constantsAlone 8)) = false := by simpa only [Bool.not_eq_true'] using h10
      have pl : (py.line == px.line) = true := by rw [beq_iff_eq] at h8 ⊢; exact h8.symm
      unfold swappedStores
      simp only [fk, f1, f2]
      simp only [List.filterMap_cons, kx, ky, Expr.pos, List.head?, Option.map, Option.getD, beq_self_eq_true, Bool.true_and, pl, if_true, List.filterMap_nil]
      have hd : ([x, y].eraseDups.length != [x, y].length) = false := by
        have : (y == x) = false := by simpa using fun e : y = x => hxy e.symm
        simp [List.eraseDups_cons, this]
      simp only [hd]
      rw [if_neg (fun q => by cases q), if_neg (fun q => by cases u <;> first | (cases h11; done) | (cases v <;> first | (cases h12; done) | cases q)), if_neg (fun q => by cases q), if_neg (by decide), if_neg (by decide)]
    refine ps_imp (ps_par ok.hc ok.nd (by rw [ok.hN]; exact of_decide_eq_true h1) (by rw [ok.hN]; exact of_decide_eq_true h2) (of_decide_eq_true h3) lx ly (pa_cons (iha c u h15 X Z ok).1 (pa_cons (ihb c v h16 X Z ok).1 pa_nil n2) n1) hw) fun E σ H ⟨m, h, σ', lk, ls, rt⟩ => ?_
    unfold ex at rt
    refine ⟨m, h, σ', lk, ls, (Rt.bind rt).mono fun v H1 ⟨w, h1, m1, _, st, lk1, wr, rt⟩ => ?_⟩
    refine ⟨m1, h1, σ', lk1, ls.step lk st, (Rt.bind rt).mono fun v2 H2 ⟨w2, h2, m2, _, st2, lk2, wr2, rt⟩ => ?_⟩
    refine ⟨v, v2, rfl, rt m2 H2 (.nx _) Step.refl lk2 ⟨(((ls.step lk st).step lk1 st2).set (WR.step lk1 st2 wr)).set wr2, ?_⟩⟩
    refine ((Off.set i _).mono fun k hk => ?_).tr ((Off.set j _).mono fun k hk => ?_)
    · simp at hk; subst hk; simpa using h13
    · simp at hk; subst hk; simpa using h14
  · cases h
/-- o[i] of a list by values -/
theorem get_list : PGet X (rIxL X.K) := by
  intro pins s σ H x y v u Q I rx ry h
  obtain ⟨p, xs, i, z, rfl, rfl, hq, he, q⟩ := h
  cases rx
  obtain ⟨t, rfl⟩ := ry
  obtain ⟨its, r, pl, hz⟩ := I.list hq
  obtain ⟨j, h1, h2, h3, h4, h5⟩ := atI_get he
  obtain ⟨w, ew, rw'⟩ := r.get h2
  have hl := r.length
  have hn := line63
  have fin : EP X pins σ Q w s := ⟨z, H, I, rw', q⟩
  by_cases h0 : 0 ≤ i
  · have hj : i.toNat = j := by
      rw [seqIndex_of h0 h5] at h1
      exact Option.some.inj h1
    exact wpAny_getItem_list pl.isList h0 (by omega) (by rw [hj]; simpa using ew) fin
  · have hj : (i + (its.toArray.size : Int)).toNat = j := by
      rw [seqIndex_neg (by omega) h4] at h1
      rw [List.size_toArray, ← hl]
      exact Option.some.inj h1
    exact wpAny_getItem_list_neg pl.isList (by omega) (by rw [List.size_toArray] <;> omega) (by omega) (by rw [hj]; simpa using ew) fin
theorem t_augS {a i e : Ex} (iha : SE T P n F a) (ihi : SE T P n F i) (ihe : SE T P n F e) : SS T P n F (.augS a i e) := fun c x h X Z ok => by
  unfold okS at h
  split at h
  · rename_i x k p1 y p
    obtain ⟨h, h4⟩ := Bool.and_eq_true_iff.mp h
    obtain ⟨h, h3⟩ := Bool.and_eq_true_iff.mp h
    obtain ⟨h1, h2⟩ := Bool.and_eq_true_iff.mp h
    refine ps_imp (ps_augS (iha c x h2 X Z ok).1 (ihi c k h3 X Z ok).1 get_list (ihe c y h4 X Z ok).1 ip_add set_list (fun _ _ _ => by cases k <;> first | rfl | cases h1)) fun E σ H ⟨m, h, σ', lk, ls, rt⟩ => ?_
    unfold ex at rt
    refine ⟨m, h, σ', lk, ls, (Rt.bind rt).mono fun v H1 ⟨w, h1, m1, _, st, lk1, wr, rt⟩ => ?_⟩
    have ls1 := ls.step lk st
    refine ⟨m1, h1, σ', lk1, ls1, (Rt.bind rt).mono fun v2 H2 ⟨w2, h2, m2, _, st2, lk2, wr2, rt⟩ => ?_⟩
    have ls2 := ls1.step lk1 st2
    cases w with
    | ref nn =>
      have rt : Rt (zof X F Z) σ ((ofO h2 (intW w2)).bind fun k h => (ofO h (getL h nn)).bind fun xs h => (ofO h (atZ xs k)).bind fun old h => (ev (calls P n) e false σ' h).bind fun y h => (ofO h (addI old y)).bind fun z h =>
        (ofO h (getM h nn)).bind fun xs h => (ofO h (ixZ xs.length k)).bind fun j h => .ok (.nx σ') (h.set nn (.lst false (xs.set j z)))) (RF X.K F c.A σ) m2 H2 (QF E) := rt
      obtain ⟨i0, e1, rt1⟩ := rt.ofO
      obtain ⟨xs, e2, rt2⟩ := rt1.ofO
      obtain ⟨old, e3, rt3⟩ := rt2.ofO
      clear rt rt1 rt2
      have ew := intW_at e1
      subst ew
      cases (show v2 = .int i0 from wr2)
      obtain ⟨b, e2⟩ : ∃ b, h2[nn]? = some (.lst b xs) := by
        unfold getL at e2
        split at e2
        · rename_i b ys q; cases e2; exact ⟨b, q⟩
        · cases e2
      obtain ⟨ad, ys, e4, e5, e6, wrs⟩ := lk2.lst e2 (WR.step lk1 st2 wr)
      subst e4
      obtain ⟨j, g1, g2⟩ := atZ_get e3
      obtain ⟨v3, g3, g4⟩ := wrs.get g1
      refine ⟨ad, ys, i0, v3, rfl, rfl, .of e6, (g2 ys wrs.length.symm).trans g3, ?_⟩
      refine ⟨m2, h2, σ', lk2, ls2, (Rt.bind rt3).mono fun v4 H4 ⟨w4, h4, m4, _, st4, lk4, wr4, rt⟩ => ?_⟩
      obtain ⟨z, ez, rt⟩ := rt.ofO
      have g4 := WR.step lk2 st4 g4
      obtain ⟨i1, j1, r1, r2, r3⟩ := addI_eq ez
      subst r1; subst r2; subst r3
      cases (show v3 = .int i1 from g4)
      cases (show v4 = .int j1 from wr4)
      refine ⟨i1, j1, rfl, rfl, ?_⟩
      obtain ⟨xs', e7, rt⟩ := rt.ofO
      obtain ⟨jj, e8, rt⟩ := rt.ofO
      obtain ⟨ad', ys', e9, e10, e11, wrs'⟩ := lk4.lst (getM_at e7) (WR.step lk2 st4 (WR.step lk1 st2 wr))
      cases e9
      have st5 : Step m4 H4 m4 (upd H4 ad (.lst (ys'.set jj (.int (i1 + j1))))) := Step.write lk4 e10
      refine ⟨ad, ys', i0, jj, rfl, rfl, e11, by rw [← wrs'.length]; exact e8, ?_⟩
      exact rt m4 _ (.nx σ) st5 (lk4.write e10 (WRs.set jj wrs' rfl)) ⟨(ls2.step lk2 st4).step lk4 st5, Off.refl _ _⟩
    | d x => exact False.elim rt
    | exn a b => exact False.elim rt
  · cases h
end
end G

set_option linter.all false
set_option Elab.async false
set_option maxRecDepth 100000
set_option maxHeartbeats 1000000
namespace G
open PySem L2 PyProof.Rows
section
variable {T : Tab} {P : Prog} {n : Nat} {F : Nat → Addr} {c : Cc} {X : Cx} {Z : Zn}
theorem Rt.openBind {α β γ : Type} {σ : L2.St} {ns : List Nat} {r : R α} {f : α → S → R β} {rel : LM → S → Hp → β → γ → Prop} {m : LM} {H : Hp} {Q : γ → Hp → Prop} (x : Rt Z σ (openR ns (r.bind f)) rel m H Q) :
    Rt Z σ (r.bind fun a h => openR ns (f a h)) rel m H Q := by
  cases r with
  | ok a h => exact x
  | exc k ds h => exact fun m1 H1 cls d st lk q => x m1 H1 cls d st (lk_openAll ns lk) q
  | bad => exact x
theorem openAll_len : ∀ (ns : List Nat) (h : S), (openAll h ns).length = h.length
  | [], h => rfl
  | k :: ns, h => by
    show (openAll (openOne h k) ns).length = _
    rw [openAll_len ns]
    unfold openOne
    split <;> simp
theorem t_for {tg : Tg} {it : It} {b : Sts} (ihg : SG T P n F tg) (ihi : SI T P n F it) (ihb : SSs T P n F b) : SS T P n F (.for tg it b) := fun c x h X Z ok => by
  unfold okS at h
  split at h
  · rename_i g y body p
    obtain ⟨h, h4⟩ := Bool.and_eq_true_iff.mp h
    obtain ⟨h, h3⟩ := Bool.and_eq_true_iff.mp h
    obtain ⟨h1, h2⟩ := Bool.and_eq_true_iff.mp h
    have sA := slots_A tg c g h2
    refine ps_imp (ps_for ok.po ok.hc (ihi c g y h3 X Z ok) (ihg c g h2 X Z ok) (ihb c body h4 X Z ok) (nofold h1)) fun E σ H ⟨m, h, σ0, lk, ls, rt⟩ => ?_
    unfold ex at rt
    refine ⟨m, h, σ0, lk, ls, (Rt.bind rt).mono fun J H1 ⟨pr, h1, m1, _, st1, lk1, ir, rt⟩ => ?_⟩
    obtain ⟨G0, Y, wk, hw⟩ := ir
    refine for_it wk (fun i τ H2 => ∃ m2 h2 σ', Step m1 H1 m2 H2 ∧ Lk X.K F m2 h2 H2 ∧ LS X.K F m2 H2 σ' τ ∧ Off c.A σ τ ∧ Kept (lockAll h1 pr.2) h2 ∧
      RtS (zof X F Z) c.A τ (openR pr.2 (forGo (fun x σ h => (stg (calls P n) tg x σ h).bind fun σ h => exs (calls P n) b σ h) (pr.1.drop i) σ' h2)) m2 H2 E) ?_ ?_ ?_ ?_
    · exact ⟨m1, _, σ0, Step.refl, lk_lockAll pr.2 lk1, ls.step lk st1, Off.refl _ _, Kept.refl _, rt⟩
    · intro i τ H2 hi ⟨m2, h2, σ', st2, lk2, ls2, of2, kp, rt2⟩
      exact (hw m2 h2 H2 st2.w lk2 kp).1
    · intro i x τ H2 H2' hi ⟨m2, h2, σ', st2, lk2, ls2, of2, kp, rt2⟩ yy
      obtain ⟨w, g1, st3, lk3, wr⟩ := (hw m2 h2 H2 st2.w lk2 kp).2 i x H2' hi yy
      obtain ⟨hi', e0⟩ := List.getElem?_eq_some_iff.mp g1
      rw [List.drop_eq_getElem_cons hi', e0] at rt2
      unfold forGo at rt2
      have rt3 := Rt.go st3 (Rt.openBind rt2)
      -- the target, then the body
      have rt4 : Rt (zof X F Z) τ ((stg (calls P n) tg w σ' h2).bind fun σa ha => (exs (calls P n) b σa ha).bind fun f h => openR pr.2 (match f with
          | .nx σ => forGo (fun x σ h => (stg (calls P n) tg x σ h).bind fun σ h => exs (calls P n) b σ h) (pr.1.drop (i + 1)) σ h
          | .ct σ => forGo (fun x σ h => (stg (calls P n) tg x σ h).bind fun σ h => exs (calls P n) b σ h) (pr.1.drop (i + 1)) σ h
          | .bk σ => .ok (.nx σ) h
          | .rt w => .ok (.rt w) h)) (RF X.K F c.A τ) m2 H2' (QF E) := by
        cases q : stg (calls P n) tg w σ' h2 with
        | ok σa ha => rw [q] at rt3; exact rt3
        | exc k ds ha => rw [q] at rt3; exact rt3
        | bad => rw [q] at rt3; exact rt3
      refine ⟨m2, h2, σ', w, lk3, ls2.step lk2 st3, wr, (Rt.bind rt4).mono fun τ4 H4 ⟨σa, ha, m4, q4, st4, lk4, ⟨ls4, of4⟩, rt5⟩ => ?_⟩
      have of4' := of4.mono sA
      have rt6 : Rt (zof X F Z) τ4 _ (RF X.K F c.A τ4) m4 H4 (QF E) := RtS.shift (Z := zof X F Z) (fun k d H z => ok.wi τ τ4 k d H of4' z) of4' rt5
      refine ⟨m4, ha, σa, lk4, ls4, (Rt.bind rt6).mono fun fv H5 ⟨fl, h5, m5, q5, st5, lk5, rf, rt7⟩ => ?_⟩
      have kp5 : Kept (lockAll h1 pr.2) h5 := by
        have k1 : KR h2 (stg (calls P n) tg w σ' h2) := kr_stg (kc_calls P n) tg w _ h2
        rw [q4] at k1
        have k2 : KR ha (exs (calls P n) b σa ha) := kr_exs (kc_calls P n) b σa ha
        rw [q5] at k2
        exact (kp.trans k1).trans k2
      have st15 : Step m1 H1 m5 H5 := ((st2.trans st3).trans st4).trans st5
      match fl, fv, rf, rt7 with
      | .nx s5, .nx τ5, rf, rt7 =>
        exact ⟨m5, h5, s5, st15, lk5, rf.1, (of2.tr of4').tr rf.2, kp5, RtS.shift (Z := zof X F Z) (fun k d H z => ok.wi τ4 τ5 k d H rf.2 z) rf.2 rt7⟩
      | .ct s5, .ct τ5, rf, rt7 =>
        exact ⟨m5, h5, s5, st15, lk5, rf.1, (of2.tr of4').tr rf.2, kp5, RtS.shift (Z := zof X F Z) (fun k d H z => ok.wi τ4 τ5 k d H rf.2 z) rf.2 rt7⟩
      | .bk s5, .bk τ5, rf, rt7 =>
        exact rt7 m5 H5 (.nx τ5) Step.refl (lk_openAll pr.2 lk5) rf
      | .rt w5, .rt v5, rf, rt7 =>
        exact rt7 m5 H5 (.rt v5) Step.refl (lk_openAll pr.2 lk5) rf
    · intro τ H2 ⟨m2, h2, σ', st2, lk2, ls2, of2, kp, rt2⟩
      rw [List.drop_eq_nil_of_le (Nat.le_refl _)] at rt2
      exact rt2 m2 H2 (.nx τ) Step.refl (lk_openAll pr.2 lk2) ⟨ls2, Off.refl _ _⟩
  · cases h
theorem t_whl {k : Nat} {t : Ex} {b : Sts} (iht : SE T P n F t) (ihb : SSs T P n F b) : SS T P n F (.whl k t b) := fun c x h X Z ok => by
  unfold okS at h
  split at h
  · rename_i y body p
    obtain ⟨h1, h2⟩ := Bool.and_eq_true_iff.mp h
    refine ps_imp (ps_while ok.po (iht c y h1 X Z ok).2.1 (ihb c body h2 X Z ok)) fun E σ H ⟨m, h, σ0, lk, ls, rt⟩ => ?_
    unfold ex at rt
    refine ⟨fun j τ H2 => ∃ m2 h2 σ', Lk X.K F m2 h2 H2 ∧ LS X.K F m2 H2 σ' τ ∧ RtS (zof X F Z) c.A τ (whlGo (fun σ h => ev (calls P n) t true σ h) (fun σ h => exs (calls P n) b σ h) j σ' h2) m2 H2 E, ⟨k, m, h, σ0, lk, ls, rt⟩, ?_⟩
    rintro j τ H2 ⟨m2, h2, σ', lk2, ls2, rt2⟩
    cases j with
    | zero => exact False.elim rt2
    | succ j =>
      unfold whlGo at rt2
      refine ⟨m2, h2, σ', lk2, ls2, (Rt.bind rt2).mono fun v H3 ⟨w, h3, m3, _, st3, lk3, e, rt3⟩ => ?_⟩
      subst e
      cases v with
      | false =>
        rw [if_neg (by decide)]
        exact rt3 m3 H3 (.nx τ) Step.refl lk3 ⟨ls2.step lk2 st3, Off.refl _ _⟩
      | true =>
        rw [if_pos rfl]
        refine ⟨fun τ4 H4 => ∃ m4 h4 σ4, Lk X.K F m4 h4 H4 ∧ LS X.K F m4 H4 σ4 τ4 ∧ RtS (zof X F Z) c.A τ4 (whlGo (fun σ h => ev (calls P n) t true σ h) (fun σ h => exs (calls P n) b σ h) j σ4 h4) m4 H4 E,
          fun τ4 H4 z => ⟨j, by omega, z⟩, m3, h3, σ', lk3, ls2.step lk2 st3, (Rt.bind rt3).mono fun fv H5 ⟨fl, h5, m5, q5, st5, lk5, rf, rt7⟩ => ?_⟩
        match fl, fv, rf, rt7 with
        | .nx s5, .nx τ5, rf, rt7 =>
          exact ⟨m5, h5, s5, lk5, rf.1, RtS.shift (Z := zof X F Z) (fun k d H z => ok.wi τ τ5 k d H rf.2 z) rf.2 rt7⟩
        | .ct s5, .ct τ5, rf, rt7 =>
          exact ⟨m5, h5, s5, lk5, rf.1, RtS.shift (Z := zof X F Z) (fun k d H z => ok.wi τ τ5 k d H rf.2 z) rf.2 rt7⟩
        | .bk s5, .bk τ5, rf, rt7 =>
          exact rt7 m5 H5 (.nx τ5) Step.refl lk5 rf
        | .rt w5, .rt v5, rf, rt7 =>
          exact rt7 m5 H5 (.rt v5) Step.refl lk5 rf
  · cases h
/-- a comprehension that goes to a name -/
def SC (T : Tab) (P : Prog) (n : Nat) (F : Nat → Addr) (e : Ex) : Prop := isCompE e = true → ∀ (c : Cc) (x : Expr), okE T e c x = true → ∀ (X : Cx) (Z : Zn), Ok T P n c X F Z → ∃ a b sc p, x = .ListComp a b sc p ∧ CompOk X F Z (calls P n) e a b sc p
theorem t_lcs {i : Nat} {e : Ex} (ih : SC T P n F e) : SS T P n F (.lcs i e) := fun c x h X Z ok => by
  unfold okS okLcs at h
  split at h
  · rename_i y py a b sc p sp
    simp only [Bool.and_eq_true] at h
    obtain ⟨⟨⟨⟨⟨⟨⟨h1, h2⟩, h3⟩, h4⟩, h5⟩, h6⟩, h7⟩, h8⟩ := h
    obtain ⟨a', b', sc', p', ex, k⟩ := ih h2 c _ h8 X Z ok
    cases ex
    have ly : X.env.scope.names.lookup y = some .local := by
      rw [ok.hs]
      unfold isLo at h3
      split at h3
      · assumption
      · cases h3
    have fk : X.env.scope.kind = .function := by
      rw [ok.hs]
      unfold isFnK at h4
      split at h4
      · assumption
      · cases h4
    obtain ⟨t, ps, core⟩ := k.st i y py sp (by rw [ok.hN]; exact of_decide_eq_true h1) ly (sw_true fk ly h5 (by simpa only [Bool.not_eq_true'] using h6))
    refine ps_imp ps fun E σ H ⟨m, h, σ', lk, ls, rt⟩ => ?_
    unfold G.ex at rt
    refine core σ H _ ⟨m, h, σ', lk, ls, (Rt.bind rt).mono fun v H1 ⟨w, h1, m1, _, st, lk1, wr, rt⟩ => ?_⟩
    refine rt m1 H1 (.nx _) Step.refl lk1 ⟨(ls.step lk st).set wr, (Off.set i _).mono fun j hj => ?_⟩
    simp at hj; subst hj
    simpa using h7
  · cases h
end
end G

set_option linter.all false
set_option Elab.async false
set_option maxRecDepth 100000
set_option maxHeartbeats 1000000
namespace G
open PySem L2 PyProof.Rows
/-! ### lists and tuples alike -/
inductive Kd where
  | l | t
def Kd.sq : Kd → PySem.W.Frag → Hp → Addr → List HV → Prop
  | .l => SqL
  | .t => SqT
def Kd.cells : Kd → Heap → Addr → Array Value → Prop
  | .l, h, a, xs => h.IsList a xs
  | .t, h, a, xs => h.IsTuple a xs
def Kd.cur : Kd → Heap → Addr → Addr → Nat → Prop
  | .l, h, c, a, i => h.IsListIter c a i
  | .t, h, c, a, i => h.IsTupleIter c a i
def Kd.start : Kd → Addr → Obj
  | .l, a => { cls := .type "list_iterator", data := .fields #[.ref a, .int 0 0] }
  | .t, a => { cls := .type "tuple_iterator", data := .fields #[.ref a, .int 0 0] }
theorem Kd.begin (k : Kd) (a : Addr) (xs : Array Value) : Begins (.ref a) (k.start a) fun h => k.cells h a xs := by
  cases k
  · exact begins_list a xs
  · exact begins_tuple a xs
theorem Kd.draws (k : Kd) {P : Program} {w : World} {A : Around} (hh : A.handled = none) {c a : Addr} (ne : a ≠ c) (xs : Array Value) :
    Draws P w A c [c, a] xs.size (fun i v => xs[i]? = some v) (fun i h => k.cur h c a i ∧ k.cells h a xs) := by
  cases k
  · exact Draws.list hh c a ne xs
  · exact Draws.tuple hh c a ne xs
theorem Kd.of {k : Kd} {X : Cx} {pins : List (Addr × Obj)} {σ : L2.St} {H : Hp} {s : Shared} {a : Addr} {ys : List HV} (I : Inv X pins σ H s) (q : k.sq X.K H a ys) : ∃ vs : List Value, Vals ys vs ∧ k.cells s.heap a vs.toArray ∧ ys.length ≤ sizeLine := by
  cases k
  · obtain ⟨vs, r, p, z⟩ := I.list q; exact ⟨vs, r, p.isList, z⟩
  · obtain ⟨vs, r, p, z⟩ := I.tuple q; exact ⟨vs, r, (show s.heap.IsTuple a vs.toArray from p), z⟩
theorem Kd.same {k : Kd} {X : Cx} {pins : List (Addr × Obj)} {σ : L2.St} {H : Hp} {s : Shared} {a : Addr} {ys zs : List HV} (I : Inv X pins σ H s) (q : k.sq X.K H a ys) (q' : k.sq X.K H a zs) : ys = zs := by
  cases k
  · exact I.list_inj q q'
  · exact I.tuple_inj q q'
theorem Kd.curAt {k : Kd} {h h' : Heap} {c a : Addr} {i : Nat} (x : k.cur h c a i) (hk : ∀ o, h.get? c = some o → h'.get? c = some o) : k.cur h' c a i := by
  cases k
  · exact Heap.IsListIter.at x hk
  · exact Heap.IsTupleIter.at x hk
theorem Kd.curObj {k : Kd} {h : Heap} {c a : Addr} {i : Nat} (x : k.cur h c a i) : ∃ o, h.get? c = some o ∧ ∀ v, o.data ≠ .cell v := by
  cases k
  · obtain ⟨o, e, _, d⟩ := x; exact ⟨o, e, fun v q => by rw [d] at q; cases q⟩
  · obtain ⟨o, e, _, d⟩ := x; exact ⟨o, e, fun v q => by rw [d] at q; cases q⟩
theorem Kd.lt {k : Kd} {h : Heap} {a : Addr} {xs : Array Value} (x : k.cells h a xs) : a < h.objs.size := by
  cases k
  · obtain ⟨o, e, _⟩ := x; exact Heap.lt_size e
  · obtain ⟨o, e, _⟩ := x; exact Heap.lt_size e
theorem Kd.born {k : Kd} {h : Heap} {c a : Addr} (e : h.get? c = some (k.start a)) : k.cur h c a 0 := by
  cases k
  · exact ⟨_, e, rfl, rfl⟩
  · exact ⟨_, e, rfl, rfl⟩
/-- enumerate: each in a new pair behind its place -/
def ItE (K : PySem.W.Frag) (k : Kd) (a : Addr) : L2.It :=
  ⟨fun i H => ∃ ys y, k.sq K H a ys ∧ ys[i]? = some y, fun i H v H' => ∃ T y, v = .ref T ∧ H T = none ∧ H' = upd H T (.tup [.int (i : Nat), y]) ∧ ∀ ys, k.sq K H a ys → ys[i]? = some y, fun i H => ∃ ys, k.sq K H a ys ∧ ys.length = i⟩
theorem turnE {P : Program} {w : World} {K : PySem.W.Frag} {k : Kd} {gs : List Expr} {kk : Nat} {tp : Pos} (a e c : Addr) (ec : e ≠ c) (ac : a ≠ c) (ae : e ≠ a) :
    Turn P w K (.Tuple gs kk tp) (ItE K k a) [e, c] e (fun i h => (∃ old, IsEnum h e c ((i : Nat) : Int) old) ∧ k.cur h c a i) where
  mem := by simp
  obj := fun i h ⟨⟨old, he⟩, hc⟩ b hb => by
    rcases List.mem_cons.mp hb with z | z
    · subst z; exact ⟨_, he, fun v q => nomatch q⟩
    · rw [List.mem_singleton.mp z]; exact Kd.curObj hc
  keep := fun i h h' ⟨⟨old, he⟩, hc⟩ hk => ⟨⟨old, hk e (by simp) _ he⟩, Kd.curAt hc fun o q => hk c (by simp) o q⟩
  item := by
    intro X hP hw hK hc i pins s σ H E I hf ⟨⟨old, he⟩, hcur⟩ ⟨ys, y, sq, hy⟩
    subst hP hw hK
    obtain ⟨vs, rv, cl, hz⟩ := Kd.of I sq
    obtain ⟨u, hu, ru⟩ := rv.get hy
    have dr := k.draws (P := X.prog) (w := X.w) (A := X.A.in1) (I.ok.hd hc) ac vs.toArray
    have hlt : i < vs.toArray.size := by
      have := (List.getElem?_eq_some_iff.mp hu).1
      simpa using this
    have hel : e < s.heap.objs.size := Heap.lt_size he
    obtain ⟨oc, hoc, _⟩ := Kd.curObj hcur
    have hcl : c < s.heap.objs.size := Heap.lt_size hoc
    refine wpAny_pyNext_enum_itemC dr he ⟨hcur, cl⟩ hlt ec (fun z => by rcases List.mem_cons.mp z with z | z; exact ec z; exact ae (List.mem_singleton.mp z)) fun x h' tk hx ho hst hT hsz hkp => ?_
    have eu : x = u := by
      have hx : vs.toArray[i]? = some x := hx
      rw [List.getElem?_toArray, hu] at hx
      exact (Option.some.inj hx).symm
    subst eu
    refine ⟨_, rfl, wpAny_letOwnedTupleGo_enum (s := { s with heap := h', toks := tk + 1 }) ho fun h2 he2 sb => ?_⟩
    have hT2 : h2.get? s.heap.objs.size = some { cls := .type "tuple", data := .seq #[.int i tk, x] } := (sb.2 _ (Nat.ne_of_gt hel)).trans hT
    have ob : ObjOk X.prog X.w (upd H s.heap.objs.size (.tup [.int (i : Nat), y])) h2 s.heap.objs.size (.tup [.int (i : Nat), y]) :=
      ⟨by show 2 ≤ sizeLine; decide, [.int i tk, x], .cons ⟨_, rfl⟩ (.cons ru .nil), ⟨_, hT2, rfl, _, rfl⟩⟩
    have J : Inv X pins σ (upd H s.heap.objs.size (.tup [.int (i : Nat), y])) { s with heap := h2, toks := tk + 1 } :=
      I.turnedNew (ch := [e, c]) (fun b o hb q => (sb.2 b (fun z => hb (by simp [z]))).trans (hkp b o (fun z => hb (by simp [z])) (fun z => hb (by simp [z])) q)) hf (Nat.le_refl _) ob
    refine ⟨.ref s.heap.objs.size, _, J, rfl, ⟨_, y, rfl, I.hok.fresh (Nat.le_refl _), rfl, fun zs hzs => by rw [Kd.same I hzs sq]; exact hy⟩, ⟨⟨x, ?_⟩, Kd.curAt hst.1 fun o q => (sb.2 c (Ne.symm ec)).trans q⟩, fun b hb => ?_⟩
    · have e1 : ((i + 1 : Nat) : Int) = (i : Int) + 1 := by omega
      rw [e1]; exact he2
    · have hbl : b < s.heap.objs.size := by
        rcases List.mem_cons.mp hb with z | z
        · rw [z]; exact hel
        · rw [List.mem_singleton.mp z]; exact hcl
      rw [upd_ne (Nat.ne_of_lt hbl)]
      exact (hf b hb).1
  done := by
    intro X hP hw hK hc i pins s σ H E I hf ⟨⟨old, he⟩, hcur⟩ ⟨ys, sq, hle⟩
    subst hP hw hK
    obtain ⟨vs, rv, cl, hz⟩ := Kd.of I sq
    have dr := k.draws (P := X.prog) (w := X.w) (A := X.A.in1) (I.ok.hd hc) ac vs.toArray
    have en : vs.toArray.size = i := by
      have := rv.length
      simp; omega
    obtain ⟨f0, f1, f2, f3, f4, f5⟩ := hf c (by simp)
    refine wpAny_pyNext_enum_endD dr he (by rw [en]; exact ⟨hcur, cl⟩) fun h' eb => ⟨rfl, I.turned (t' := s.toks) (fun b o hb q => eb b o hb q) f0 f1 f3 f4 f5⟩
  self := fun A i s Q E ⟨⟨_, he⟩, _⟩ h => wpAny_pyIter_enum he h
/-! ### enumerate begins -/
def enuO (c : Addr) : Obj := { cls := .type "enumerate", data := .fields #[.none, .bool false, .ref c, rawInt 0, .none, .none] }
set_option maxHeartbeats 2000000 in
theorem enu_new {v : Value} {H : Heap → Prop} {g : Heap → Heap} {c : Heap → Addr}
    (B : ∀ (P : Program) (w : World) (A : Around) (E : Value → Shared → Prop) (s : Shared) (Q : Value → Shared → Prop), H s.heap → Q (.ref (c s.heap)) { s with heap := g s.heap } → wpAny (model P w) A (pyIter v) Q E s) :
    Meets (Builtin.«enumerate.__new__» ⟨[.type "enumerate", v], []⟩) (fun _ R s => H s.heap ∧ R (.ok (.ret (.ref (g s.heap).objs.size))) { s with heap := (g s.heap).push (enuO (c s.heap)) }) :=
  .of_wp fun P w A R s hR => by
    obtain ⟨hp, gn, dr, tk, os⟩ := s
    obtain ⟨hH, hR⟩ := hR
    have hsub := sub_enumerate
    have it : ∀ {A' : Around} {E : Value → Shared → Prop} {Q : Value → Shared → Prop}, Q (.ref (c hp)) ⟨g hp, gn, dr, tk, os⟩ → wpAny (model P w) A' (pyIter v) Q E ⟨hp, gn, dr, tk, os⟩ :=
      fun q => B P w _ _ ⟨hp, gn, dr, tk, os⟩ _ hH q
    wp_walk using it
    refine wpAny_stack_any fun _ => wpAny_pure ?_
    split
    · rename_i cc _ _ _ _ _
      cases (cc == Value.type "enumerate") <;> (wp_walk using it; exact ⟨_, rfl, hR⟩)
    · wp_walk using it
      exact ⟨_, rfl, hR⟩
theorem enu_call {P : Program} {w : World} {A : Around} {E : Value → Shared → Prop} {s : Shared} {v : Value} {H : Heap → Prop} {g : Heap → Heap} {c : Heap → Addr} {Q : Value → Shared → Prop}
    (B : ∀ (P : Program) (w : World) (A : Around) (E : Value → Shared → Prop) (s : Shared) (Q : Value → Shared → Prop), H s.heap → Q (.ref (c s.heap)) { s with heap := g s.heap } → wpAny (model P w) A (pyIter v) Q E s) (hH : H s.heap)
    (h : IsEnum ((g s.heap).push (enuO (c s.heap))) (g s.heap).objs.size (c s.heap) 0 .none → Q (.ref (g s.heap).objs.size) { s with heap := (g s.heap).push (enuO (c s.heap)) }) :
    wpAny (model P w) A (call (.type "enumerate") [v]) Q E s := by
  have he : IsEnum ((g s.heap).push (enuO (c s.heap))) (g s.heap).objs.size (c s.heap) 0 .none := Heap.get?_push_size _ rfl
  exact callType_new F.called_enumerate (by decide) (F.typeCall_enumerate_1 _) (F.newCall_enumerate_1 _) (fun ob => F.args_object_init_2 ob _) F.entry_enumerate_new (enu_new B) ⟨hH, ⟨_, he, rfl⟩, h he⟩
theorem lock_at : ∀ (ns : List Nat) {h : S} {k : Nat} {b : Bool} {xs : List W}, h[k]? = some (.lst b xs) → (b = true ∨ k ∈ ns) → (lockAll h ns)[k]? = some (.lst true xs)
  | [], h, k, b, xs, e, z => by
    rcases z with z | z
    · subst z; exact e
    · cases z
  | n :: ns, h, k, b, xs, e, z => by
    show (lockAll (lockOne h n) ns)[k]? = _
    by_cases w : n = k
    · subst w
      refine lock_at ns (b := true) ?_ (.inl rfl)
      unfold lockOne
      rw [e]
      cases b with
      | true => exact e
      | false => exact List.getElem?_set_self (List.getElem?_eq_some_iff.mp e).1
    · refine lock_at ns (b := b) ?_ (z.imp id fun z => (List.mem_cons.mp z).resolve_left fun q => w q.symm)
      unfold lockOne
      split
      · rw [List.getElem?_set_ne w]; exact e
      · exact e
/-- a row that is walked in pairs: where it stands, now and as long as what is locked stays -/
theorem seqR {K : PySem.W.Frag} {fa : Nat → Addr} {m : LM} {h : S} {H : Hp} {w : W} {v : HV} {xs : List D} {ns : List Nat} (lk : Lk K fa m h H) (wr : WR K fa m H w v) (e : seqV h w = some xs) (sub : ∀ k ∈ isOpen h w, k ∈ ns) :
    ∃ (k : Kd) (a : Addr) (ys : List HV), v = .ref a ∧ k.sq K H a ys ∧ ∀ m2 h2 H2, StepW m H m2 H2 → Lk K fa m2 h2 H2 → Kept (lockAll h ns) h2 → ∃ zs, k.sq K H2 a zs ∧ RDs K fa (still m2) H2 xs zs ∧ zs.length = xs.length := by
  cases w with
  | d x =>
    cases x with
    | tup ds =>
      cases e
      obtain ⟨a, ys, e1, sq, rs⟩ := wr
      exact ⟨.t, a, ys, e1, sq, fun m2 h2 H2 st _ _ => ⟨ys, st.sqT lk sq, rs.stepW lk st, rs.length.symm⟩⟩
    | lst ds =>
      cases e
      obtain ⟨a, ys, e1, sq, rs⟩ := wr
      exact ⟨.l, a, ys, e1, sq.sq, fun m2 h2 H2 st _ _ => ⟨ys, (st.sqL sq).sq, rs.stepW lk st, rs.length.symm⟩⟩
    | _ => cases e
  | ref k =>
    have e : ((match h[k]? with
      | some (.lst _ xs) => (allD xs).map D.lst
      | _ => none).bind seqD) = some xs := e
    cases q : h[k]? with
    | none => rw [q] at e; cases e
    | some c =>
      cases c with
      | lst b ws =>
        rw [q] at e
        obtain ⟨d, e1, e2⟩ := Option.bind_eq_some_iff.mp e
        obtain ⟨ds, e3, e4⟩ := Option.map_eq_some_iff.mp e1
        subst e4
        cases e2
        obtain ⟨a, ys, f1, f2, f3, wrs⟩ := lk.lst q wr
        refine ⟨.l, a, ys, f1, .of f3, fun m2 h2 H2 st lk2 kp => ?_⟩
        have op : b = true ∨ k ∈ ns := by
          cases b with
          | true => exact .inl rfl
          | false => exact .inr (sub k (by unfold isOpen; simp only []; rw [q]; simp))
        have c2 := kp k ws (lock_at ns q op)
        obtain ⟨o, ho, a2, ys2, g1, g2, wrs2⟩ := lk2.cell k _ c2
        subst g1
        have g3 := st.live k a2 (List.getElem?_eq_some_iff.mp f2).1 ho
        rw [f2] at g3
        cases g3
        have r2 := allD_of e3 wrs2
        exact ⟨ys2, .of g2, r2, r2.length.symm⟩
      | dead => rw [q] at e; cases e
      | dct _ _ => rw [q] at e; cases e
      | ins _ _ => rw [q] at e; cases e
  | exn a b => cases e
section
variable {T : Tab} {P : Prog} {n : Nat} {F : Nat → Addr} {c : Cc} {X : Cx} {Z : Zn}
theorem pi_enuK {e : Expr} {ta : TA} {p pos tp : Pos} {gs : List Expr} {kk : Nat} (hg : Gl X "enumerate") (hm : X.mg "enumerate" = none) (ha : PA X [e] ta) (hs : starEach [e] X.env = [(false, eval e X.env)]) :
    PI X (.Tuple gs kk tp) (.Call (.Name "enumerate" p) [e] [] pos) (fun σ H R => ta σ H fun vs H1 => ∃ (k : Kd) (a : Addr) (ys : List HV), vs = [.ref a] ∧ k.sq X.K H1 a ys ∧ R (ItE X.K k a) H1) := by
  refine ⟨fun pins s σ H R I h => ?_⟩
  refine Call_ (ld_blt I hg hm boot_enumerate (PyProof.Rows.callWith_type1 (thn (ha.run pos pins s σ H _ I h) fun us s1 ⟨vs, H1, I1, r1, k, a, ys, ev, sq, q⟩ => ?_) hs rfl))
  subst ev
  cases r1 with
  | cons r0 rn =>
    cases rn
    cases r0
    obtain ⟨its, rv, cl, _⟩ := Kd.of I1 sq
    refine enu_call (H := fun h => k.cells h a its.toArray) (g := fun h => h.push (k.start a)) (c := fun h => h.objs.size) (fun P w A E s Q hH hq => (k.begin a its.toArray).iter P w A E s Q hH hq) cl fun he => wpAny_pyIter_enum he ?_
    have al : a < s1.heap.objs.size := Kd.lt cl
    have sz : (s1.heap.push (k.start a)).objs.size = s1.heap.objs.size + 1 := Heap.size_push ..
    have bn : ((s1.heap.push (k.start a)).push (enuO s1.heap.objs.size)).get? s1.heap.objs.size = some (k.start a) := Heap.get?_push_of_some _ (Heap.get?_push_size _ (by cases k <;> rfl))
    have I2 : Inv X pins σ H1 { s1 with heap := (s1.heap.push (k.start a)).push (enuO s1.heap.objs.size) } := I1.kept (t' := s1.toks) fun b o e => Heap.get?_push_of_some _ (Heap.get?_push_of_some _ e)
    have ne1 : (s1.heap.push (k.start a)).objs.size ≠ s1.heap.objs.size := by rw [sz]; exact Nat.succ_ne_self _
    have ne2 : (s1.heap.push (k.start a)).objs.size ≠ a := by rw [sz]; exact fun z => absurd al (by rw [← z]; exact Nat.not_lt.mpr (Nat.le_succ _))
    refine ⟨(s1.heap.push (k.start a)).objs.size, [(s1.heap.push (k.start a)).objs.size, s1.heap.objs.size], _, _, H1, rfl, I2, turnE a _ s1.heap.objs.size ne1 (Nat.ne_of_lt al) ne2, ⟨⟨.none, he⟩, Kd.born bn⟩, fun b hb => ?_, q⟩
    have le : s1.heap.objs.size ≤ b := by
      rcases List.mem_cons.mp hb with z | z
      · rw [z, sz]; omega
      · rw [List.mem_singleton.mp z]; exact Nat.le_refl _
    exact I1.fpOk le (I1.hok.fresh le)
theorem enum_get : ∀ (xs : List D) (k i : Nat) (x : D), xs[i]? = some x → (enumOf k xs)[i]? = some (.d (.tup [.int ((k + i : Nat) : Int), x]))
  | [], k, i, x, e => by simp at e
  | y :: xs, k, 0, x, e => by simp at e; subst e; rfl
  | y :: xs, k, i + 1, x, e => by
    have := enum_get xs (k + 1) i x (by simpa using e)
    show (enumOf (k + 1) xs)[i]? = _
    rw [this, show k + 1 + i = k + (i + 1) by omega]
theorem enum_len : ∀ (xs : List D) (k : Nat), (enumOf k xs).length = xs.length
  | [], _ => rfl
  | x :: xs, k => by show (enumOf (k + 1) xs).length + 1 = _; rw [enum_len xs]; rfl
/-- a new pair -/
theorem new_pair {K : PySem.W.Frag} {fa : Nat → Addr} {m : LM} {h : S} {H : Hp} {A : Addr} {xs : List D} {ys : List HV} (lk : Lk K fa m h H) (hA : H A = none) (rs : RDs K fa (still m) H xs ys) :
    Step m H m (upd H A (.tup ys)) ∧ Lk K fa m h (upd H A (.tup ys)) ∧ WR K fa m (upd H A (.tup ys)) (.d (.tup xs)) (.ref A) := by
  have st : Step m H m (upd H A (.tup ys)) := Step.new hA
  exact ⟨st, lk.new hA, A, ys, rfl, .inl (.inl upd_same), rs.step lk st⟩
theorem i_enu {a : Ex} (ih : SE T P n F a) : SI T P n F (.enu a) := fun c g x h X Z ok => by
  unfold okI at h
  obtain ⟨hg, hh⟩ := Bool.and_eq_true_iff.mp h
  clear h
  have h := hh
  clear hh
  obtain ⟨gs, hg⟩ := Option.isSome_iff_exists.mp hg
  obtain ⟨kk, tp, rfl⟩ := dTup_eq hg
  split at h
  · rename_i f y e
    obtain ⟨h, h4⟩ := Bool.and_eq_true_iff.mp h
    obtain ⟨h, h3⟩ := Bool.and_eq_true_iff.mp h
    obtain ⟨h1, h2⟩ := Bool.and_eq_true_iff.mp h
    obtain ⟨p, q, rfl⟩ := dCall_eq e
    have ef := of_decide_eq_true h1
    subst ef
    have n1 := nostar1 (es := []) (env := X.env) h3
    refine pi_imp (pi_enuK (ok.glob h2) (ok.bi _ (by decide +kernel)) (pa_cons (ih c y h4 X Z ok).1 pa_nil n1) (by rw [n1]; rfl)) fun σ H R q => ?_
    obtain ⟨m, h, σ', lk, ls, rt⟩ := q
    unfold evit at rt
    refine ⟨m, h, σ', lk, ls, rt.bind.mono fun v H1 ⟨w, h1, m1, _, st, lk1, wr, rt⟩ => ?_⟩
    obtain ⟨xs, e1, rt⟩ := rt.ofO
    obtain ⟨k, ad, ys, ev, sq, later⟩ := seqR (ns := isOpen h1 w) lk1 wr e1 fun _ z => z
    subst ev
    refine ⟨k, ad, ys, rfl, sq, rt m1 H1 (ItE X.K k ad) Step.refl lk1 ?_⟩
    have hl := enum_len xs 0
    refine ⟨fun H2 => ∃ zs, k.sq X.K H2 ad zs ∧ zs.length = xs.length, (ItE X.K k ad).yld, ⟨fun i H2 hi ⟨zs, s2, l2⟩ => ⟨zs, zs[i]'(by rw [hl] at hi; omega), s2, by simp⟩, fun H2 ⟨zs, s2, l2⟩ => ⟨zs, s2, by rw [hl]; exact l2⟩, fun i H2 x H' _ _ y => y⟩, fun m2 h2 H2 st2 lk2 kp => ?_⟩
    obtain ⟨zs, s2, r2, l2⟩ := later m2 h2 H2 st2 lk2 kp
    refine ⟨⟨zs, s2, l2⟩, fun i x H' hi ⟨A, y, ex, hA, eH, hy⟩ => ?_⟩
    subst ex; subst eH
    obtain ⟨d, g1, g2⟩ := r2.back (hy zs s2)
    obtain ⟨p1, p2, p3⟩ := new_pair (xs := [.int (i : Nat), d]) lk2 hA ⟨_, _, rfl, rfl, _, _, rfl, g2, rfl⟩
    exact ⟨_, by have := enum_get xs 0 i d g1; rwa [Nat.zero_add] at this, p1, p2, p3⟩
  · cases h
/-- zip of two -/
def ItZ2 (K : PySem.W.Frag) (k l : Kd) (a b : Addr) : L2.It :=
  ⟨fun i H => ∃ xs ys x y, k.sq K H a xs ∧ l.sq K H b ys ∧ xs[i]? = some x ∧ ys[i]? = some y,
    fun i H v H' => ∃ T x y, v = .ref T ∧ H T = none ∧ H' = upd H T (.tup [x, y]) ∧ (∀ xs, k.sq K H a xs → xs[i]? = some x) ∧ ∀ ys, l.sq K H b ys → ys[i]? = some y,
    fun i H => ∃ xs ys, k.sq K H a xs ∧ l.sq K H b ys ∧ i ≤ xs.length ∧ i ≤ ys.length ∧ (i = xs.length ∨ i = ys.length)⟩
theorem sep_of {z TI TO i1 i2 a b : Addr} (D : ZipApart z TI TO i1 i2 a b) : ZipSep2 z TI TO i1 i2 [i1, a] [i2, b] where
  TIz := D.TIz
  TOz := D.TOz
  TITO := D.TITO
  TIi1 := D.TIi1
  mem1 := by simp
  zf1 := by simpa using ⟨D.i1z.symm, D.l1z.symm⟩
  Tf1 := by simpa using ⟨D.TOi1, D.l1TO.symm⟩
  TIi2 := D.TIi2
  mem2 := by simp
  zf2 := by simpa using ⟨D.i2z.symm, D.l2z.symm⟩
  Tf2 := by simpa using ⟨D.TOi2, D.l2TO.symm⟩
  sep1_2 := by simpa using ⟨D.i12, D.l2i1.symm⟩
  sep2_1 := by simpa using ⟨D.i12.symm, D.l1i2.symm⟩
theorem turnZ {P : Program} {w : World} {K : PySem.W.Frag} {k l : Kd} {gs : List Expr} {kk : Nat} {tp : Pos} {a b z TI TO i1 i2 : Addr} (D : ZipApart z TI TO i1 i2 a b) :
    Turn P w K (.Tuple gs kk tp) (ItZ2 K k l a b) [z, TI, TO, i1, i2] z (fun i h => IsZip h z TI TO .none ∧ IsPair h TI (.ref i1) (.ref i2) ∧ (∃ x y, IsPair h TO x y) ∧ k.cur h i1 a i ∧ l.cur h i2 b i) where
  mem := by simp
  obj := fun i h ⟨hz, hI, ⟨x, y, hO⟩, c1, c2⟩ c hc => by
    have cs : c = z ∨ c = TI ∨ c = TO ∨ c = i1 ∨ c = i2 := by simpa using hc
    rcases cs with q | q | q | q | q <;> subst q
    · exact ⟨_, hz, fun v q => nomatch q⟩
    · exact ⟨_, hI, fun v q => nomatch q⟩
    · exact ⟨_, hO, fun v q => nomatch q⟩
    · exact Kd.curObj c1
    · exact Kd.curObj c2
  keep := fun i h h' ⟨hz, hI, ⟨x, y, hO⟩, c1, c2⟩ hk =>
    ⟨hk z (by simp) _ hz, hk TI (by simp) _ hI, ⟨x, y, hk TO (by simp) _ hO⟩, Kd.curAt c1 fun o q => hk i1 (by simp) o q, Kd.curAt c2 fun o q => hk i2 (by simp) o q⟩
  item := by
    intro X hP hw hK hc i pins s σ H E I hf ⟨hz, hI, ⟨x0, y0, hO⟩, c1, c2⟩ ⟨xs, ys, x, y, qx, qy, hx, hy⟩
    subst hP hw hK
    obtain ⟨us, ru, cu, _⟩ := Kd.of I qx
    obtain ⟨vs, rv, cv, _⟩ := Kd.of I qy
    obtain ⟨u, hu, eu⟩ := ru.get hx
    obtain ⟨v, hv, ev⟩ := rv.get hy
    have d1 := k.draws (P := X.prog) (w := X.w) (A := X.A.in1) (I.ok.hd hc) D.l1i1 us.toArray
    have d2 := l.draws (P := X.prog) (w := X.w) (A := X.A.in1) (I.ok.hd hc) D.l2i2 vs.toArray
    have zl : z < s.heap.objs.size := Heap.lt_size hz
    refine wpAny_pyNext_zipD2_item (sep_of D) d1 d2 hz hI hO ⟨c1, cu⟩ ⟨c2, cv⟩ (by have := (List.getElem?_eq_some_iff.mp hu).1; simpa using this) (by have := (List.getElem?_eq_some_iff.mp hv).1; simpa using this) fun p q h' tk hp hq zo TO' s1 s2 hT hsz hkp => ?_
    have ep : p = u := by
      have hp : us.toArray[i]? = some p := hp
      rw [List.getElem?_toArray, hu] at hp
      exact (Option.some.inj hp).symm
    have eq : q = v := by
      have hq : vs.toArray[i]? = some q := hq
      rw [List.getElem?_toArray, hv] at hq
      exact (Option.some.inj hq).symm
    subst ep; subst eq
    refine ⟨_, rfl, wpAny_letOwnedTupleGo_zip (s := { s with heap := h', toks := tk }) zo fun h2 z2 sb => ?_⟩
    have hT2 : h2.get? s.heap.objs.size = some { cls := .type "tuple", data := .seq #[p, q] } := (sb.2 _ (Nat.ne_of_gt zl)).trans hT
    have ob : ObjOk X.prog X.w (upd H s.heap.objs.size (.tup [x, y])) h2 s.heap.objs.size (.tup [x, y]) :=
      ⟨by show 2 ≤ sizeLine; decide, [p, q], .cons eu (.cons ev .nil), ⟨_, hT2, rfl, _, rfl⟩⟩
    have J : Inv X pins σ (upd H s.heap.objs.size (.tup [x, y])) { s with heap := h2, toks := tk } :=
      I.turnedNew (t' := tk) (ch := [z, TI, TO, i1, i2]) (fun c o hb e => (sb.2 c (fun r => hb (by simp [r]))).trans (hkp c o (fun r => hb (by simp [r])) (fun r => hb (by simp [r])) (fun r => hb (by simp [r])) (fun r => hb (by simp [r])) e)) hf (Nat.le_refl _) ob
    refine ⟨.ref s.heap.objs.size, _, J, rfl, ⟨_, x, y, rfl, I.hok.fresh (Nat.le_refl _), rfl, fun zs hzs => by rw [Kd.same I hzs qx]; exact hx, fun zs hzs => by rw [Kd.same I hzs qy]; exact hy⟩, ⟨z2, ?_, ⟨p, q, ?_⟩, ?_, ?_⟩, fun c hcm => ?_⟩
    · exact (sb.2 _ D.TIz).trans (hkp _ _ D.TIz D.TITO D.TIi1 D.TIi2 hI)
    · exact (sb.2 _ D.TOz).trans TO'
    · exact Kd.curAt s1.1 fun o e => (sb.2 _ D.i1z).trans e
    · exact Kd.curAt s2.1 fun o e => (sb.2 _ D.i2z).trans e
    · have lt : c < s.heap.objs.size := by
        have cs : c = z ∨ c = TI ∨ c = TO ∨ c = i1 ∨ c = i2 := by simpa using hcm
        rcases cs with r | r | r | r | r <;> subst r
        · exact zl
        · exact Heap.lt_size hI
        · exact Heap.lt_size hO
        · obtain ⟨_, e1, _⟩ := Kd.curObj c1; exact Heap.lt_size e1
        · obtain ⟨_, e2, _⟩ := Kd.curObj c2; exact Heap.lt_size e2
      rw [upd_ne (Nat.ne_of_lt lt)]
      exact (hf c hcm).1
  done := by
    intro X hP hw hK hc i pins s σ H E I hf ⟨hz, hI, ⟨x0, y0, hO⟩, c1, c2⟩ ⟨xs, ys, qx, qy, l1, l2, hend⟩
    subst hP hw hK
    obtain ⟨us, ru, cu, _⟩ := Kd.of I qx
    obtain ⟨vs, rv, cv, _⟩ := Kd.of I qy
    have e1 := ru.length
    have e2 := rv.length
    have d1 := k.draws (P := X.prog) (w := X.w) (A := X.A.in1) (I.ok.hd hc) D.l1i1 us.toArray
    have d2 := l.draws (P := X.prog) (w := X.w) (A := X.A.in1) (I.ok.hd hc) D.l2i2 vs.toArray
    exact wpAny_pyNext_zipD2_end (sep_of D) d1 d2 hz hI hO ⟨c1, cu⟩ ⟨c2, cv⟩ (by simp; omega) (by simp; omega) (by simp; omega) fun h' tk hkp => ⟨rfl, I.turnedL (t' := tk) (ch := [z, TI, TO, i1, i2]) (fun c o hb e =>
      hkp c o (fun r => hb (by simp [r])) (fun r => hb (by simp [r])) (fun r => hb (by simp [r])) (fun r => hb (by simp [r])) e) hf⟩
  self := fun A i s Q E st h => wpAny_pyIter_zip st.1 h
theorem pi_zipK {e e2 : Expr} {ta : TA} {p pos tp : Pos} {gs : List Expr} {kk : Nat} (hg : Gl X "zip") (hm : X.mg "zip" = none) (ha : PA X [e, e2] ta) (hs : starEach [e, e2] X.env = (false, eval e X.env) :: starEach [e2] X.env) (hp : (backTo pos (starEach [e2] X.env)).any (·.1) = false) :
    PI X (.Tuple gs kk tp) (.Call (.Name "zip" p) [e, e2] [] pos) (fun σ H R => ta σ H fun vs H1 => ∃ (k l : Kd) (a b : Addr) (xs ys : List HV), vs = [.ref a, .ref b] ∧ k.sq X.K H1 a xs ∧ l.sq X.K H1 b ys ∧ R (ItZ2 X.K k l a b) H1) := by
  refine ⟨fun pins s σ H R I h => ?_⟩
  refine Call_ (ld_blt I hg hm PyProof.Rows.boot_zip (PyProof.Rows.callWith_type1 (thn (ha.run pos pins s σ H _ I h) fun us s1 ⟨vs, H1, I1, r1, k, l, a, b, xs, ys, ev, qx, qy, q⟩ => ?_) hs hp))
  subst ev
  cases r1 with
  | cons r0 rn =>
    cases rn with
    | cons r2 rn =>
      cases rn
      cases r0
      cases r2
      obtain ⟨it1, rv1, cl1, _⟩ := Kd.of I1 qx
      obtain ⟨it2, rv2, cl2, _⟩ := Kd.of I1 qy
      refine zip_begins2 (k.begin a it1.toArray) (l.begin b it2.toArray) cl1 cl2 fun h' hz hI hO b1 b2 hsz hk => wpAny_pyIter_zip hz ?_
      have I2 : Inv X pins σ H1 { s1 with heap := h' } := I1.kept (t' := s1.toks) hk
      refine ⟨s1.heap.objs.size + 4, [s1.heap.objs.size + 4, s1.heap.objs.size + 2, s1.heap.objs.size + 3, s1.heap.objs.size, s1.heap.objs.size + 1], _, _, H1, rfl, I2, turnZ (PySem.W.ktu_apart s1.heap.objs.size a b (Kd.lt cl1) (Kd.lt cl2)), ⟨hz, hI, ⟨_, _, hO⟩, Kd.born b1, Kd.born b2⟩, fun c hc => ?_, q⟩
      have le : s1.heap.objs.size ≤ c := by
        have cs : c = s1.heap.objs.size + 4 ∨ c = s1.heap.objs.size + 2 ∨ c = s1.heap.objs.size + 3 ∨ c = s1.heap.objs.size ∨ c = s1.heap.objs.size + 1 := by simpa using hc
        rcases cs with z | z | z | z | z <;> rw [z] <;> first | exact Nat.le_refl _ | exact Nat.le_add_right _ _
      exact I1.fpOk le (I1.hok.fresh le)
theorem zip_get : ∀ (xs ys : List D) (i : Nat) (x y : D), xs[i]? = some x → ys[i]? = some y → ((zipOf xs ys).map W.d)[i]? = some (.d (.tup [x, y]))
  | [], _, i, x, y, e, _ => by simp at e
  | _ :: _, [], i, x, y, _, e => by simp at e
  | a :: xs, b :: ys, 0, x, y, e1, e2 => by simp at e1 e2; subst e1; subst e2; rfl
  | a :: xs, b :: ys, i + 1, x, y, e1, e2 => by
    have := zip_get xs ys i x y (by simpa using e1) (by simpa using e2)
    simpa [zipOf] using this
theorem zip_len : ∀ (xs ys : List D), (zipOf xs ys).length = min xs.length ys.length
  | [], ys => by simp [zipOf]
  | x :: xs, [] => by simp [zipOf]
  | x :: xs, y :: ys => by simp [zipOf, zip_len xs ys]
theorem i_zip {a b : Ex} (iha : SE T P n F a) (ihb : SE T P n F b) : SI T P n F (.zip a b) := fun c g x h X Z ok => by
  unfold okI at h
  obtain ⟨hg, hh⟩ := Bool.and_eq_true_iff.mp h
  clear h
  have h := hh
  clear hh
  obtain ⟨gs, hg⟩ := Option.isSome_iff_exists.mp hg
  obtain ⟨kk, tp, rfl⟩ := dTup_eq hg
  split at h
  · rename_i f y z e
    obtain ⟨h, h6⟩ := Bool.and_eq_true_iff.mp h
    obtain ⟨h, h5⟩ := Bool.and_eq_true_iff.mp h
    obtain ⟨h, h4⟩ := Bool.and_eq_true_iff.mp h
    obtain ⟨h, h3⟩ := Bool.and_eq_true_iff.mp h
    obtain ⟨h1, h2⟩ := Bool.and_eq_true_iff.mp h
    obtain ⟨p, q, rfl⟩ := dCall_eq e
    have ef := of_decide_eq_true h1
    subst ef
    have n1 := nostar1 (es := [z]) (env := X.env) h3
    have n2 := nostar1 (es := []) (env := X.env) h4
    refine pi_imp (pi_zipK (ok.glob h2) (ok.bi _ (by decide +kernel)) (pa_cons (iha c y h5 X Z ok).1 (pa_cons (ihb c z h6 X Z ok).1 pa_nil n2) n1) n1 (nostarA (es := [z]) (by simp [h4]))) fun σ H R q => ?_
    obtain ⟨m, h, σ', lk, ls, rt⟩ := q
    unfold evit at rt
    refine ⟨m, h, σ', lk, ls, rt.bind.mono fun v H1 ⟨w, h1, m1, _, st, lk1, wr, rt⟩ => ?_⟩
    refine ⟨m1, h1, σ', lk1, ls.step lk st, rt.bind.mono fun u H2 ⟨w2, h2, m2, _, st2, lk2, wr2, rt⟩ => ?_⟩
    obtain ⟨xs, e1, rt1⟩ := rt.ofO
    obtain ⟨ys, e2, rt2⟩ := rt1.ofO
    clear rt rt1
    have wr := WR.step lk1 st2 wr
    obtain ⟨k, ad, us, ev, sq, la⟩ := seqR (ns := isOpen h2 w ++ isOpen h2 w2) lk2 wr e1 fun _ z => List.mem_append_left _ z
    obtain ⟨l, bd, vs, ev2, sq2, lb⟩ := seqR (ns := isOpen h2 w ++ isOpen h2 w2) lk2 wr2 e2 fun _ z => List.mem_append_right _ z
    subst ev; subst ev2
    refine ⟨k, l, ad, bd, us, vs, rfl, sq, sq2, rt2 m2 H2 (ItZ2 X.K k l ad bd) Step.refl lk2 ?_⟩
    have hl : ((zipOf xs ys).map W.d).length = min xs.length ys.length := by rw [List.length_map, zip_len]
    refine ⟨fun H3 => ∃ us vs, k.sq X.K H3 ad us ∧ l.sq X.K H3 bd vs ∧ us.length = xs.length ∧ vs.length = ys.length, (ItZ2 X.K k l ad bd).yld, ⟨fun i H3 hi ⟨us, vs, s1, s2, l1, l2⟩ => ?_, fun H3 ⟨us, vs, s1, s2, l1, l2⟩ => ?_, fun i H3 x H' _ _ y => y⟩, fun m3 h3 H3 st3 lk3 kp => ?_⟩
    · rw [hl] at hi
      exact ⟨us, vs, us[i]'(by omega), vs[i]'(by omega), s1, s2, by simp, by simp⟩
    · rw [hl]
      exact ⟨us, vs, s1, s2, by omega, by omega, by omega⟩
    · obtain ⟨us3, s1, r1, l1⟩ := la m3 h3 H3 st3 lk3 kp
      obtain ⟨vs3, s2, r2, l2⟩ := lb m3 h3 H3 st3 lk3 kp
      refine ⟨⟨us3, vs3, s1, s2, l1, l2⟩, fun i x H' hi ⟨A, p, q, ex, hA, eH, hp, hq⟩ => ?_⟩
      subst ex; subst eH
      obtain ⟨d1, g1, g2⟩ := r1.back (hp us3 s1)
      obtain ⟨d2, g3, g4⟩ := r2.back (hq vs3 s2)
      obtain ⟨p1, p2, p3⟩ := new_pair (xs := [d1, d2]) lk3 hA ⟨_, _, rfl, g2, _, _, rfl, g4, rfl⟩
      exact ⟨_, zip_get xs ys i d1 d2 g1 g3, p1, p2, p3⟩
  · cases h
end
end G

set_option linter.all false
set_option Elab.async false
set_option maxRecDepth 100000
set_option maxHeartbeats 2000000
namespace G
open PySem L2 PyProof.Rows
/-! ### zip within enumerate -/
abbrev Zst (h : Heap) (z TI TO : Addr) (f0 f1 : Value) : Prop := h.get? z = some { cls := .type "zip", dict := none, data := .fields #[f0, f1, .bool false, .ref TI, .ref TO], slots := #[] }
section
variable {P : Program} {w : World} {A : Around} {E : Value → Shared → Prop} {s : Shared} {z TI TO i1 i2 : Addr} {fa fb : List Addr} {na nb i : Nat} {Pa Pb : Nat → Value → Prop} {Sa Sb : Nat → Heap → Prop} {a1 a2 f0 f1 : Value}
/-- its kept pair is free: it is handed out again -/
theorem zipFree (S : ZipSep2 z TI TO i1 i2 fa fb) (Da : Draws P w A i1 fa na Pa Sa) (Db : Draws P w A i2 fb nb Pb Sb) {Q : Value → Shared → Prop}
    (hz : Zst s.heap z TI TO f0 f1) (qI : IsTupOf2 s.heap TI (.ref i1) (.ref i2)) (qO : IsTupOf2 s.heap TO a1 a2) (sa : Sa i s.heap) (sb : Sb i s.heap) (la : i < na) (lb : i < nb)
    (hfree : ∀ {E : Value → Shared → Prop} {Q : Bool → Shared → Prop}, Q true s → wpAny (model P w) A (Builtin.SmallTypes.ownedTupleIsFree (.ref z)) Q E s)
    (hQ : ∀ x y h' tk, Pa i x → Pb i y → Zst h' z TI TO (rawInt s.heap.objs.size) (.bool false) → IsTupOf2 h' TO x y → Sa (i + 1) h' → Sb (i + 1) h' → IsTupOf2 h' s.heap.objs.size x y → h'.objs.size = s.heap.objs.size + 1 →
      (∀ c o, c ≠ z → c ≠ TO → c ≠ i1 → c ≠ i2 → s.heap.get? c = some o → h'.get? c = some o) → Q (.ref s.heap.objs.size) { s with heap := h', toks := tk }) :
    wpAny (model P w) A (Builtin.«zip.__next__» ⟨[.ref z], []⟩) (fun fin s' => ∃ v, fin = .done (.ret v) ∧ Q v s') E s := by
  obtain ⟨m0, gn, dr, t0, os⟩ := s
  show wpAny _ _ (field (.ref z) 2 >>= _) _ _ ⟨m0, gn, dr, t0, os⟩
  refine wpAny_bind (wpAny_field (s := ⟨m0, gn, dr, t0, os⟩) hz rfl (x := .bool false) rfl ?_)
  show wpAny _ _ (field (.ref z) 3 >>= _) _ _ ⟨m0, gn, dr, t0, os⟩
  refine wpAny_bind (wpAny_field (s := ⟨m0, gn, dr, t0, os⟩) hz rfl (x := .ref TI) rfl ?_)
  refine wpAny_bind (wpAny_seqItems qI rfl ?_)
  refine wpAny_bind (hfree ?_)
  simp only [if_true]
  refine wpAny_bind (wpAny_rule (wpAny_bind (wpAny_field (s := ⟨m0, gn, dr, t0, os⟩) hz rfl (x := .ref TO) rfl ?_)))
  refine wpAny_bind (wpAny_setField_rec hz (by simp) fun m1 z1 b1 => ?_)
  replace z1 : Zst m1 z TI TO .ellipsis f1 := z1
  replace b1 : Heap.SameBut z m0 m1 := b1
  refine wpAny_bind ?_
  simp only [List.zipIdx_cons, List.zipIdx_nil, List.forIn_cons, List.forIn_nil]; refine wpAny_bind (wpAny_bind (wpAny_onRaise ?_))
  show wpAny _ _ (Builtin.SmallTypes.nextOf (.ref i1) >>= _) _ _ ⟨m1, gn, dr, t0, os⟩
  refine wpAny_bind (Da.item i _ _ _ la (Da.over sa b1 S.zf1) fun x m2 t2 hx s2 b2 => wpAny_pure ?_)
  replace b2 : Heap.SameBut i1 m1 m2 := b2
  have o2 : IsTupOf2 m2 TO a1 a2 := b2.extBut _ _ S.Ti1 (b1.extBut _ _ S.TOz qO)
  refine wpAny_bind (wpAny_seqItems (s := ⟨m2, gn, dr, t2, os⟩) o2 rfl (wpAny_bind (updateSeq_IsTupOf2 (s := ⟨m2, gn, dr, t2, os⟩) o2 fun m3 o3 b3 => ?_)))
  replace o3 : IsTupOf2 m3 TO x a2 := o3
  replace b3 : Heap.SameBut TO m2 m3 := b3
  refine wpAny_bind (wpAny_letGo (wpAny_pure (wpAny_bind (wpAny_bind (wpAny_onRaise ?_)))))
  show wpAny _ _ (Builtin.SmallTypes.nextOf (.ref i2) >>= _) _ _ ⟨m3, gn, dr, t2, os⟩
  refine wpAny_bind (Db.item i _ _ _ lb (Db.over (Db.over (Db.over sb b1 S.zf2) b2 S.sep1_2) b3 S.Tf2) fun y m4 t4 hy s4 b4 => wpAny_pure ?_)
  replace b4 : Heap.SameBut i2 m3 m4 := b4
  have o4 : IsTupOf2 m4 TO x a2 := b4.extBut _ _ S.Ti2 o3
  refine wpAny_bind (wpAny_seqItems (s := ⟨m4, gn, dr, t4, os⟩) o4 rfl (wpAny_bind (updateSeq_IsTupOf2 (s := ⟨m4, gn, dr, t4, os⟩) o4 fun m5 o5 b5 => ?_)))
  replace o5 : IsTupOf2 m5 TO x y := o5
  replace b5 : Heap.SameBut TO m4 m5 := b5
  refine wpAny_bind (wpAny_letGo (wpAny_pure (wpAny_pure (wpAny_bind (wpAny_seqItems (s := ⟨m5, gn, dr, t4, os⟩) o5 rfl (wpAny_bind (wpAny_newTuple ?_)))))))
  have sz : m5.objs.size = m0.objs.size := by rw [b5.1, b4.1, b3.1, b2.1, b1.1]
  have z5 : Zst m5 z TI TO .ellipsis f1 := (b5.extBut _ _ S.TOz.symm (b4.extBut _ _ S.zi2 (b3.extBut _ _ S.TOz.symm (b2.extBut _ _ S.zi1 z1))))
  have kk : ∀ c o, c ≠ z → c ≠ TO → c ≠ i1 → c ≠ i2 → m0.get? c = some o → m5.get? c = some o := fun c o n1 n2 n3 n4 e => (b5.extBut _ _ n2 (b4.extBut _ _ n4 (b3.extBut _ _ n2 (b2.extBut _ _ n3 (b1.extBut _ _ n1 e)))))
  have j1 : Sa (i + 1) m5 := (Da.over (Da.over (Da.over s2 b3 S.Tf1) b4 S.sep2_1) b5 S.Tf1)
  have j2 : Sb (i + 1) m5 := Db.over s4 b5 S.Tf2
  have zl : z < m5.objs.size := Heap.lt_size z5
  show wpAny _ _ (Builtin.SmallTypes.ownedTupleHandOut (.ref z) (.ref m5.objs.size) >>= _) _ _ ⟨m5.push { cls := .type "tuple", data := .seq #[x, y] }, gn, dr, t4, os⟩
  have z6 : Zst (m5.push { cls := .type "tuple", data := .seq #[x, y] }) z TI TO .ellipsis f1 := Heap.get?_push_of_some _ z5
  refine wpAny_bind ?_
  unfold Builtin.SmallTypes.ownedTupleHandOut; refine wpAny_bind (wpAny_setField_rec z6 (by simp) fun m7 z7 b7 => ?_)
  replace z7 : Zst m7 z TI TO (rawInt m5.objs.size) f1 := z7
  refine wpAny_setField_rec z7 (by simp) fun m8 z8 b8 => ?_
  replace z8 : Zst m8 z TI TO (rawInt m5.objs.size) (.bool false) := z8
  replace b7 : Heap.SameBut z (m5.push { cls := .type "tuple", data := .seq #[x, y] }) m7 := b7
  replace b8 : Heap.SameBut z m7 m8 := b8
  have up : ∀ c o, c ≠ z → m5.get? c = some o → m8.get? c = some o := fun c o n e => b8.extBut _ _ n (b7.extBut _ _ n (Heap.get?_push_of_some _ e))
  have T8 : IsTupOf2 m8 m5.objs.size x y := b8.extBut _ _ (Nat.ne_of_gt zl) (b7.extBut _ _ (Nat.ne_of_gt zl) (Heap.get?_push_size _ rfl))
  have s8 : m8.objs.size = m5.objs.size + 1 := by rw [b8.1, b7.1, Heap.size_push]
  rw [sz] at z8 T8 s8
  refine wpAny_pure ⟨_, rfl, ?_⟩
  show Q (.ref m5.objs.size) ⟨m8, gn, dr, t4, os⟩
  rw [sz]
  exact hQ x y m8 t4 hx hy z8 (up _ _ S.TOz o5) (Da.frame _ _ _ j1 fun b hb o e => up b o (fun q => S.zf1 (q ▸ hb)) e) (Db.frame _ _ _ j2 fun b hb o e => up b o (fun q => S.zf2 (q ▸ hb)) e) T8 s8 fun c o n1 n2 n3 n4 e => up c o n1 (kk c o n1 n2 n3 n4 e)
theorem wp_alive {α : Type} {a : Addr} {k : Option Obj → Sem α} {Q : α → Shared → Prop} (h : wpAny (model P w) A (k (s.heap.get? a)) Q E s) : wpAny (model P w) A (loadIfAlive a >>= k) Q E s := by
  intro Γ p hΓ
  have := h Γ p hΓ
  show Sem.wp _ _ (Sem.loadIfAlive a .pure >>= k) _ _ _ _
  first | exact this | (simp only [Sem.wp_loadIfAlive]; exact this) | (rw [Sem.wp_bind]; simpa using this)
/-- its kept pair is gone -/
theorem free_gone {T0 : Addr} {b : Bool} (hz : Zst s.heap z TI TO (rawInt T0) (.bool b)) (g : s.heap.get? T0 = none) {Q : Bool → Shared → Prop} (h : Q true s) : wpAny (model P w) A (Builtin.SmallTypes.ownedTupleIsFree (.ref z)) Q E s := by
  unfold Builtin.SmallTypes.ownedTupleIsFree; refine wpAny_bind (wpAny_field (s := s) hz rfl (x := rawInt T0) rfl ?_)
  show wpAny _ _ (loadIfAlive ((T0 : Int)).toNat >>= _) _ _ s
  refine wp_alive ?_
  rw [Int.toNat_natCast, g]
  exact wpAny_pure h
/-- its kept pair stands: noted -/
theorem free_kept {T0 : Addr} {b : Bool} {o : Obj} (hz : Zst s.heap z TI TO (rawInt T0) (.bool b)) (g : s.heap.get? T0 = some o) {Q : Bool → Shared → Prop}
    (h : ∀ h', Zst h' z TI TO (rawInt T0) (.bool true) → Heap.SameBut z s.heap h' → Q false { s with heap := h' }) : wpAny (model P w) A (Builtin.SmallTypes.ownedTupleIsFree (.ref z)) Q E s := by
  unfold Builtin.SmallTypes.ownedTupleIsFree; refine wpAny_bind (wpAny_field (s := s) hz rfl (x := rawInt T0) rfl ?_)
  show wpAny _ _ (loadIfAlive ((T0 : Int)).toNat >>= _) _ _ s
  refine wp_alive ?_
  rw [Int.toNat_natCast, g]
  show wpAny _ _ (field (.ref z) 1 >>= _) _ _ s
  refine wpAny_bind (wpAny_field (s := s) hz rfl (x := .bool b) rfl ?_)
  cases b with
  | true =>
    rw [if_neg (by decide)]
    exact wpAny_pure (h s.heap hz ⟨rfl, fun _ _ => rfl⟩)
  | false =>
    rw [if_pos (by decide)]
    exact wpAny_bind (wpAny_setField_rec hz (by simp) fun h' z' b' => wpAny_pure (h h' z' b'))
/-- its kept pair stands: a pair that it does not keep -/
theorem zipKept {T0 : Addr} {b : Bool} {o0 : Obj} (S : ZipSep2 z TI TO i1 i2 fa fb) (Da : Draws P w A i1 fa na Pa Sa) (Db : Draws P w A i2 fb nb Pb Sb) {Q : Value → Shared → Prop}
    (hz : Zst s.heap z TI TO (rawInt T0) (.bool b)) (g : s.heap.get? T0 = some o0) (qI : IsTupOf2 s.heap TI (.ref i1) (.ref i2)) (sa : Sa i s.heap) (sb : Sb i s.heap) (la : i < na) (lb : i < nb)
    (hQ : ∀ x y h' tk, Pa i x → Pb i y → Zst h' z TI TO (rawInt T0) (.bool true) → Sa (i + 1) h' → Sb (i + 1) h' → IsTupOf2 h' s.heap.objs.size x y → h'.objs.size = s.heap.objs.size + 1 →
      (∀ c o, c ≠ z → c ≠ i1 → c ≠ i2 → s.heap.get? c = some o → h'.get? c = some o) → Q (.ref s.heap.objs.size) { s with heap := h', toks := tk }) :
    wpAny (model P w) A (Builtin.«zip.__next__» ⟨[.ref z], []⟩) (fun fin s' => ∃ v, fin = .done (.ret v) ∧ Q v s') E s := by
  obtain ⟨m0, gn, dr, t0, os⟩ := s
  show wpAny _ _ (field (.ref z) 2 >>= _) _ _ ⟨m0, gn, dr, t0, os⟩
  refine wpAny_bind (wpAny_field (s := ⟨m0, gn, dr, t0, os⟩) hz rfl (x := .bool false) rfl ?_)
  show wpAny _ _ (field (.ref z) 3 >>= _) _ _ ⟨m0, gn, dr, t0, os⟩
  refine wpAny_bind (wpAny_field (s := ⟨m0, gn, dr, t0, os⟩) hz rfl (x := .ref TI) rfl ?_)
  refine wpAny_bind (wpAny_seqItems qI rfl ?_)
  refine wpAny_bind (free_kept hz g fun m1 z1 b1 => ?_)
  replace b1 : Heap.SameBut z m0 m1 := b1
  simp only [Bool.false_eq_true, if_false]
  refine wpAny_bind ?_
  simp only [List.forIn_toArray, List.forIn_cons, List.forIn_nil]
  refine wpAny_bind (wpAny_bind (wpAny_holding ?_))
  show wpAny _ _ (Builtin.SmallTypes.nextOf (.ref i1) >>= _) _ _ ⟨m1, gn, dr, t0, os⟩
  refine wpAny_bind (Da.item i _ _ _ la (Da.over sa b1 S.zf1) fun x m2 t2 hx s2 b2 => wpAny_pure (wpAny_pure ?_))
  replace b2 : Heap.SameBut i1 m1 m2 := b2
  refine wpAny_bind (wpAny_bind (wpAny_holding ?_))
  show wpAny _ _ (Builtin.SmallTypes.nextOf (.ref i2) >>= _) _ _ ⟨m2, gn, dr, t2, os⟩
  refine wpAny_bind (Db.item i _ _ _ lb (Db.over (Db.over sb b1 S.zf2) b2 S.sep1_2) fun y m3 t3 hy s3 b3 => wpAny_pure (wpAny_pure (wpAny_pure ?_)))
  replace b3 : Heap.SameBut i2 m2 m3 := b3
  show wpAny _ _ (newTuple [x, y] >>= _) _ _ ⟨m3, gn, dr, t3, os⟩
  have sz : m3.objs.size = m0.objs.size := by rw [b3.1, b2.1, b1.1]
  refine wpAny_bind (wpAny_newTuple (wpAny_pure ⟨_, rfl, ?_⟩))
  have up : ∀ c o, m3.get? c = some o → (m3.push { cls := .type "tuple", data := .seq #[x, y] }).get? c = some o := fun c o e => Heap.get?_push_of_some _ e
  have r := hQ x y (m3.push { cls := .type "tuple", data := .seq #[x, y] }) t3 hx hy (up _ _ (b3.extBut _ _ S.zi2 (b2.extBut _ _ S.zi1 z1))) (Da.frame _ _ _ (Da.over s2 b3 S.sep2_1) fun b _ o e => up b o e) (Db.frame _ _ _ s3 fun b _ o e => up b o e)
    (by rw [← sz]; exact Heap.get?_push_size _ rfl) (by rw [Heap.size_push, sz]) fun c o n1 n2 n3 e => up c o (b3.extBut _ _ n3 (b2.extBut _ _ n2 (b1.extBut _ _ n1 e)))
  show Q (.ref m3.objs.size) _
  rw [sz]
  exact r
/-- the end, its kept pair free -/
theorem zipFreeEnd (S : ZipSep2 z TI TO i1 i2 fa fb) (Da : Draws P w A i1 fa na Pa Sa) (Db : Draws P w A i2 fb nb Pb Sb) {Q : Fin → Shared → Prop}
    (hz : Zst s.heap z TI TO f0 f1) (qI : IsTupOf2 s.heap TI (.ref i1) (.ref i2)) (qO : IsTupOf2 s.heap TO a1 a2) (sa : Sa i s.heap) (sb : Sb i s.heap) (la : i ≤ na) (lb : i ≤ nb) (en : i = na ∨ i = nb)
    (hfree : ∀ {E : Value → Shared → Prop} {Q : Bool → Shared → Prop}, Q true s → wpAny (model P w) A (Builtin.SmallTypes.ownedTupleIsFree (.ref z)) Q E s)
    (hE : ∀ h' tk e, (∀ c o, c ≠ z → c ≠ TO → c ≠ i1 → c ≠ i2 → s.heap.get? c = some o → h'.get? c = some o) → (∃ o, h'.get? e = some o ∧ o.cls = .type "StopIteration") → E (.ref e) { s with heap := h', toks := tk }) :
    wpAny (model P w) A (Builtin.«zip.__next__» ⟨[.ref z], []⟩) Q E s := by
  obtain ⟨m0, gn, dr, t0, os⟩ := s
  show wpAny _ _ (field (.ref z) 2 >>= _) _ _ ⟨m0, gn, dr, t0, os⟩
  refine wpAny_bind (wpAny_field (s := ⟨m0, gn, dr, t0, os⟩) hz rfl (x := .bool false) rfl ?_)
  show wpAny _ _ (field (.ref z) 3 >>= _) _ _ ⟨m0, gn, dr, t0, os⟩
  refine wpAny_bind (wpAny_field (s := ⟨m0, gn, dr, t0, os⟩) hz rfl (x := .ref TI) rfl ?_)
  refine wpAny_bind (wpAny_seqItems qI rfl ?_)
  refine wpAny_bind (hfree ?_)
  simp only [if_true]
  refine wpAny_bind (wpAny_rule (wpAny_bind (wpAny_field (s := ⟨m0, gn, dr, t0, os⟩) hz rfl (x := .ref TO) rfl ?_)))
  refine wpAny_bind (wpAny_setField_rec hz (by simp) fun m1 z1 b1 => ?_)
  replace z1 : Zst m1 z TI TO .ellipsis f1 := z1
  replace b1 : Heap.SameBut z m0 m1 := b1
  refine wpAny_bind ?_
  simp only [List.zipIdx_cons, List.zipIdx_nil, List.forIn_cons, List.forIn_nil]; refine wpAny_bind (wpAny_bind (wpAny_onRaise ?_))
  show wpAny _ _ (Builtin.SmallTypes.nextOf (.ref i1) >>= _) _ _ ⟨m1, gn, dr, t0, os⟩
  by_cases c1 : i < na
  · refine wpAny_bind (Da.item i _ _ _ c1 (Da.over sa b1 S.zf1) fun x m2 t2 hx s2 b2 => wpAny_pure ?_)
    replace b2 : Heap.SameBut i1 m1 m2 := b2
    have o2 : IsTupOf2 m2 TO a1 a2 := b2.extBut _ _ S.Ti1 (b1.extBut _ _ S.TOz qO)
    refine wpAny_bind (wpAny_seqItems (s := ⟨m2, gn, dr, t2, os⟩) o2 rfl (wpAny_bind (updateSeq_IsTupOf2 (s := ⟨m2, gn, dr, t2, os⟩) o2 fun m3 o3 b3 => ?_)))
    replace b3 : Heap.SameBut TO m2 m3 := b3
    have en2 : i = nb := by omega
    refine wpAny_bind (wpAny_letGo (wpAny_pure (wpAny_bind (wpAny_bind (wpAny_onRaise ?_)))))
    show wpAny _ _ (Builtin.SmallTypes.nextOf (.ref i2) >>= _) _ _ ⟨m3, gn, dr, t2, os⟩
    refine wpAny_bind (Db.done ⟨m3, gn, dr, t2, os⟩ _ _ (by rw [← en2]; exact (Db.over (Db.over (Db.over sb b1 S.zf2) b2 S.sep1_2) b3 S.Tf2)) fun m4 e k4 he => ?_)
    replace k4 : Heap.ExtBut i2 m3 m4 := k4
    obtain ⟨oe, h1, h2⟩ := he
    replace h1 : m4.get? e = some oe := h1
    have z4 : Zst m4 z TI TO .ellipsis f1 := k4 _ _ S.zi2 (b3.extBut _ _ S.TOz.symm (b2.extBut _ _ S.zi1 z1))
    have ez : e ≠ z := fun q => by subst q; rw [z4] at h1; cases h1; simp at h2
    refine wpAny_setField_rec (s := ⟨m4, gn, dr, t2, os⟩) z4 (by simp) fun m5 _ b5 => ?_
    replace b5 : Heap.SameBut z m4 m5 := b5
    exact hE m5 t2 e (fun c o n1 n2 n3 n4 q => b5.extBut _ _ n1 (k4 _ _ n4 (b3.extBut _ _ n2 (b2.extBut _ _ n3 (b1.extBut _ _ n1 q))))) ⟨oe, b5.extBut _ _ ez h1, h2⟩
  · have en1 : i = na := by omega
    refine wpAny_bind (Da.done ⟨m1, gn, dr, t0, os⟩ _ _ (by rw [← en1]; exact (Da.over sa b1 S.zf1)) fun m4 e k4 he => ?_)
    replace k4 : Heap.ExtBut i1 m1 m4 := k4
    obtain ⟨oe, h1, h2⟩ := he
    replace h1 : m4.get? e = some oe := h1
    have z4 : Zst m4 z TI TO .ellipsis f1 := k4 _ _ S.zi1 z1
    have ez : e ≠ z := fun q => by subst q; rw [z4] at h1; cases h1; simp at h2
    refine wpAny_setField_rec (s := ⟨m4, gn, dr, t0, os⟩) z4 (by simp) fun m5 _ b5 => ?_
    replace b5 : Heap.SameBut z m4 m5 := b5
    exact hE m5 t0 e (fun c o n1 n2 n3 n4 q => b5.extBut _ _ n1 (k4 _ _ n3 (b1.extBut _ _ n1 q))) ⟨oe, b5.extBut _ _ ez h1, h2⟩
/-- the end, its kept pair standing -/
theorem zipKeptEnd {T0 : Addr} {b : Bool} {o0 : Obj} (S : ZipSep2 z TI TO i1 i2 fa fb) (Da : Draws P w A i1 fa na Pa Sa) (Db : Draws P w A i2 fb nb Pb Sb) {Q : Fin → Shared → Prop}
    (hz : Zst s.heap z TI TO (rawInt T0) (.bool b)) (g : s.heap.get? T0 = some o0) (qI : IsTupOf2 s.heap TI (.ref i1) (.ref i2)) (sa : Sa i s.heap) (sb : Sb i s.heap) (la : i ≤ na) (lb : i ≤ nb) (en : i = na ∨ i = nb)
    (hE : ∀ h' tk e, (∀ c o, c ≠ z → c ≠ TO → c ≠ i1 → c ≠ i2 → s.heap.get? c = some o → h'.get? c = some o) → (∃ o, h'.get? e = some o ∧ o.cls = .type "StopIteration") → E (.ref e) { s with heap := h', toks := tk }) :
    wpAny (model P w) A (Builtin.«zip.__next__» ⟨[.ref z], []⟩) Q E s := by
  obtain ⟨m0, gn, dr, t0, os⟩ := s
  show wpAny _ _ (field (.ref z) 2 >>= _) _ _ ⟨m0, gn, dr, t0, os⟩
  refine wpAny_bind (wpAny_field (s := ⟨m0, gn, dr, t0, os⟩) hz rfl (x := .bool false) rfl ?_)
  show wpAny _ _ (field (.ref z) 3 >>= _) _ _ ⟨m0, gn, dr, t0, os⟩
  refine wpAny_bind (wpAny_field (s := ⟨m0, gn, dr, t0, os⟩) hz rfl (x := .ref TI) rfl ?_)
  refine wpAny_bind (wpAny_seqItems qI rfl ?_)
  refine wpAny_bind (free_kept hz g fun m1 z1 b1 => ?_)
  replace b1 : Heap.SameBut z m0 m1 := b1
  simp only [Bool.false_eq_true, if_false]
  refine wpAny_bind ?_
  simp only [List.forIn_toArray, List.forIn_cons, List.forIn_nil]
  refine wpAny_bind (wpAny_bind (wpAny_holding ?_))
  show wpAny _ _ (Builtin.SmallTypes.nextOf (.ref i1) >>= _) _ _ ⟨m1, gn, dr, t0, os⟩
  by_cases c1 : i < na
  · refine wpAny_bind (Da.item i _ _ _ c1 (Da.over sa b1 S.zf1) fun x m2 t2 hx s2 b2 => wpAny_pure (wpAny_pure ?_))
    replace b2 : Heap.SameBut i1 m1 m2 := b2
    have en2 : i = nb := by omega
    refine wpAny_bind (wpAny_bind (wpAny_holding ?_))
    show wpAny _ _ (Builtin.SmallTypes.nextOf (.ref i2) >>= _) _ _ ⟨m2, gn, dr, t2, os⟩
    refine wpAny_bind (Db.done ⟨m2, gn, dr, t2, os⟩ _ _ (by rw [← en2]; exact (Db.over (Db.over sb b1 S.zf2) b2 S.sep1_2)) fun m4 e k4 he => ?_)
    replace k4 : Heap.ExtBut i2 m2 m4 := k4
    exact hE m4 t2 e (fun c o n1 n2 n3 n4 q => k4 _ _ n4 (b2.extBut _ _ n3 (b1.extBut _ _ n1 q))) he
  · have en1 : i = na := by omega
    refine wpAny_bind (Da.done ⟨m1, gn, dr, t0, os⟩ _ _ (by rw [← en1]; exact (Da.over sa b1 S.zf1)) fun m4 e k4 he => ?_)
    replace k4 : Heap.ExtBut i1 m1 m4 := k4
    exact hE m4 t0 e (fun c o n1 n2 n3 n4 q => k4 _ _ n3 (b1.extBut _ _ n1 q)) he
/-- where the zip stands between two turns -/
def ZS (h : Heap) (z TI TO : Addr) : Prop := (∃ f0 f1, Zst h z TI TO f0 f1 ∧ ((f0 = .none ∧ f1 = .bool false) ∨ ∃ (T0 : Addr) (b : Bool), f0 = rawInt T0 ∧ f1 = .bool b)) ∧ IsTupOf2 h TI (.ref i1) (.ref i2) ∧ ∃ a1 a2, IsTupOf2 h TO a1 a2
theorem free_none (hz : Zst s.heap z TI TO .none f1) {Q : Bool → Shared → Prop} (h : Q true s) : wpAny (model P w) A (Builtin.SmallTypes.ownedTupleIsFree (.ref z)) Q E s := by
  unfold Builtin.SmallTypes.ownedTupleIsFree; exact wpAny_bind (wpAny_field (s := s) hz rfl (x := .none) rfl (wpAny_pure h))
theorem zipStep (S : ZipSep2 z TI TO i1 i2 fa fb) (Da : Draws P w A i1 fa na Pa Sa) (Db : Draws P w A i2 fb nb Pb Sb) {Q : Value → Shared → Prop}
    (hz : ZS (i1 := i1) (i2 := i2) s.heap z TI TO) (sa : Sa i s.heap) (sb : Sb i s.heap) (la : i < na) (lb : i < nb)
    (hQ : ∀ x y h' tk, Pa i x → Pb i y → ZS (i1 := i1) (i2 := i2) h' z TI TO → Sa (i + 1) h' → Sb (i + 1) h' → IsTupOf2 h' s.heap.objs.size x y → h'.objs.size = s.heap.objs.size + 1 →
      (∀ c o, c ≠ z → c ≠ TO → c ≠ i1 → c ≠ i2 → s.heap.get? c = some o → h'.get? c = some o) → Q (.ref s.heap.objs.size) { s with heap := h', toks := tk }) :
    wpAny (model P w) A (Builtin.«zip.__next__» ⟨[.ref z], []⟩) (fun fin s' => ∃ v, fin = .done (.ret v) ∧ Q v s') E s := by
  obtain ⟨⟨f0, f1, hz, cs⟩, qI, a1, a2, qO⟩ := hz
  rcases cs with ⟨rfl, rfl⟩ | ⟨T0, b, rfl, rfl⟩
  · exact zipFree S Da Db hz qI qO sa sb la lb (fun h => free_none hz h) fun x y h' tk p1 p2 p3 p4 p5 p6 p7 p8 p9 =>
      hQ x y h' tk p1 p2 ⟨⟨_, _, p3, .inr ⟨_, _, rfl, rfl⟩⟩, p9 _ _ S.TIz S.TITO S.TIi1 S.TIi2 qI, _, _, p4⟩ p5 p6 p7 p8 p9
  · cases g : s.heap.get? T0 with
    | none =>
      exact zipFree S Da Db hz qI qO sa sb la lb (fun h => free_gone hz g h) fun x y h' tk p1 p2 p3 p4 p5 p6 p7 p8 p9 =>
        hQ x y h' tk p1 p2 ⟨⟨_, _, p3, .inr ⟨_, _, rfl, rfl⟩⟩, p9 _ _ S.TIz S.TITO S.TIi1 S.TIi2 qI, _, _, p4⟩ p5 p6 p7 p8 p9
    | some o0 =>
      exact zipKept S Da Db hz g qI sa sb la lb fun x y h' tk p1 p2 p3 p5 p6 p7 p8 p9 =>
        hQ x y h' tk p1 p2 ⟨⟨_, _, p3, .inr ⟨_, _, rfl, rfl⟩⟩, p9 _ _ S.TIz S.TIi1 S.TIi2 qI, _, _, p9 _ _ S.TOz S.Ti1 S.Ti2 qO⟩ p5 p6 p7 p8 fun c o n1 n2 n3 n4 e => p9 c o n1 n3 n4 e
theorem zipOver (S : ZipSep2 z TI TO i1 i2 fa fb) (Da : Draws P w A i1 fa na Pa Sa) (Db : Draws P w A i2 fb nb Pb Sb) {Q : Fin → Shared → Prop}
    (hz : ZS (i1 := i1) (i2 := i2) s.heap z TI TO) (sa : Sa i s.heap) (sb : Sb i s.heap) (la : i ≤ na) (lb : i ≤ nb) (en : i = na ∨ i = nb)
    (hE : ∀ h' tk e, (∀ c o, c ≠ z → c ≠ TO → c ≠ i1 → c ≠ i2 → s.heap.get? c = some o → h'.get? c = some o) → (∃ o, h'.get? e = some o ∧ o.cls = .type "StopIteration") → E (.ref e) { s with heap := h', toks := tk }) :
    wpAny (model P w) A (Builtin.«zip.__next__» ⟨[.ref z], []⟩) Q E s := by
  obtain ⟨⟨f0, f1, hz, cs⟩, qI, a1, a2, qO⟩ := hz
  rcases cs with ⟨rfl, rfl⟩ | ⟨T0, b, rfl, rfl⟩
  · exact zipFreeEnd S Da Db hz qI qO sa sb la lb en (fun h => free_none hz h) hE
  · cases g : s.heap.get? T0 with
    | none => exact zipFreeEnd S Da Db hz qI qO sa sb la lb en (fun h => free_gone hz g h) hE
    | some o0 => exact zipKeptEnd S Da Db hz g qI sa sb la lb en hE
/-- enumerate's turn over it: first the zip's heap hm, then its own -/
theorem enzItem {e : Addr} {c : Int} {old : Value} (S : ZipSep2 z TI TO i1 i2 fa fb) (Da : Draws P w A.in1 i1 fa na Pa Sa) (Db : Draws P w A.in1 i2 fb nb Pb Sb) {Q : Value → Shared → Prop}
    (he : IsEnum s.heap e z c old) (hz : ZS (i1 := i1) (i2 := i2) s.heap z TI TO) (sa : Sa i s.heap) (sb : Sb i s.heap) (la : i < na) (lb : i < nb) (ez : e ≠ z) (eO : e ≠ TO) (e1 : e ≠ i1) (e2 : e ≠ i2)
    (hQ : ∀ x y hm h' tk, Pa i x → Pb i y → ZS (i1 := i1) (i2 := i2) hm z TI TO → Sa (i + 1) hm → Sb (i + 1) hm → IsTupOf2 hm s.heap.objs.size x y → hm.objs.size = s.heap.objs.size + 1 →
      (∀ c o, c ≠ z → c ≠ TO → c ≠ i1 → c ≠ i2 → s.heap.get? c = some o → hm.get? c = some o) → IsEnumOut h' e z (c + 1) (.ref s.heap.objs.size) (s.heap.objs.size + 1) →
      h'.get? (s.heap.objs.size + 1) = some { cls := .type "tuple", data := .seq #[.int c tk, .ref s.heap.objs.size] } → (∀ b o, b ≠ e → hm.get? b = some o → h'.get? b = some o) → Q (.ref (s.heap.objs.size + 1)) { s with heap := h', toks := tk + 1 }) :
    wpAny (model P w) A (Builtin.«enumerate.__next__» ⟨[.ref e], []⟩) (fun fin s' => ∃ v, fin = .done (.ret v) ∧ Q v s') E s := by
  obtain ⟨m0, gn, dr, t0, os⟩ := s
  show wpAny _ _ (field (.ref e) 2 >>= _) _ _ ⟨m0, gn, dr, t0, os⟩
  refine wpAny_bind (wpAny_field (s := ⟨m0, gn, dr, t0, os⟩) he rfl (x := .ref z) rfl (wpAny_bind ?_))
  have hT : Shared.TypeIs ⟨m0, gn, dr, t0, os⟩ (.ref z) "zip" := by
    obtain ⟨⟨f0, f1, q, _⟩, _⟩ := hz
    exact ⟨_, q, rfl⟩
  unfold Builtin.SmallTypes.nextOf; refine wpAny_bind (wpAny_callSpecial?_slot (name := Str.ofString "__next__") hT F.slot_zip_next (wpAny_call_entry F.slot_zip_next hT F.entry_zip_next ?_ (F.args_zip_next_1 _)))
  refine zipStep (Q := fun v s' => wpAny _ _ _ _ _ s') S Da Db hz sa sb la lb fun x y hm t1 p1 p2 p3 p4 p5 p6 p7 p8 => wpAny_pure ?_
  replace p8 : ∀ c o, c ≠ z → c ≠ TO → c ≠ i1 → c ≠ i2 → m0.get? c = some o → hm.get? c = some o := p8
  have q1 : IsEnum hm e z c old := p8 _ _ ez eO e1 e2 he
  show wpAny _ _ (field (.ref e) 3 >>= _) _ _ ⟨hm, gn, dr, t1, os⟩
  refine wpAny_bind (wpAny_field (s := ⟨hm, gn, dr, t1, os⟩) q1 rfl (x := rawInt c) rfl ?_)
  show wpAny _ _ (field (.ref e) 4 >>= _) _ _ ⟨hm, gn, dr, t1, os⟩
  refine wpAny_bind (wpAny_field (s := ⟨hm, gn, dr, t1, os⟩) q1 rfl (x := .none) rfl ?_)
  show wpAny _ _ (mkInt c >>= _) _ _ ⟨hm, gn, dr, t1, os⟩
  refine wpAny_bind (wpAny_mkInt ?_)
  show wpAny _ _ (setField (.ref e) 3 (rawInt (c + 1)) >>= _) _ _ ⟨hm, gn, dr, t1 + 1, os⟩
  refine wpAny_bind (wpAny_setField_rec q1 (by simp) fun g2 q2 b2 => ?_)
  replace b2 : Heap.SameBut e hm g2 := b2
  replace q2 : IsEnum g2 e z (c + 1) old := q2
  show wpAny _ _ (setField (.ref e) 4 .none >>= _) _ _ ⟨g2, gn, dr, t1 + 1, os⟩
  refine wpAny_bind (wpAny_setField_rec q2 (by simp) fun g3 q3 b3 => ?_)
  replace b3 : Heap.SameBut e g2 g3 := b3
  replace q3 : IsEnum g3 e z (c + 1) old := q3
  show wpAny _ _ (newTuple [.int c t1, .ref m0.objs.size] >>= _) _ _ ⟨g3, gn, dr, t1 + 1, os⟩
  refine wpAny_bind (wpAny_newTuple ?_)
  have sz : g3.objs.size = m0.objs.size + 1 := by rw [b3.1, b2.1]; exact p7
  have q4 : IsEnum (g3.push { cls := .type "tuple", data := .seq #[.int c t1, .ref m0.objs.size] }) e z (c + 1) old := Heap.get?_push_of_some _ q3
  have n4 : (g3.push { cls := .type "tuple", data := .seq #[.int c t1, .ref m0.objs.size] }).get? (m0.objs.size + 1) = some { cls := .type "tuple", data := .seq #[.int c t1, .ref m0.objs.size] } := by rw [← sz]; exact Heap.get?_push_size _ rfl
  have k4 : ∀ b o, b ≠ e → hm.get? b = some o → (g3.push { cls := .type "tuple", data := .seq #[.int c t1, .ref m0.objs.size] }).get? b = some o := fun b o n q => Heap.get?_push_of_some _ (b3.extBut _ _ n (b2.extBut _ _ n q))
  generalize hg : g3.push { cls := .type "tuple", data := .seq #[.int c t1, .ref m0.objs.size] } = g4 at q4 n4 k4
  have el : e < m0.objs.size := Heap.lt_size he
  show wpAny _ _ (Builtin.SmallTypes.ownedTupleIsFree (.ref e) >>= _) _ _ ⟨g4, gn, dr, t1 + 1, os⟩
  rw [sz]
  refine wpAny_bind ?_
  unfold Builtin.SmallTypes.ownedTupleIsFree; refine wpAny_bind (wpAny_field (s := ⟨g4, gn, dr, t1 + 1, os⟩) q4 rfl (x := .none) rfl (wpAny_pure ?_))
  simp only [if_true]
  refine wpAny_bind (wpAny_rule (wpAny_bind (wpAny_field (s := ⟨g4, gn, dr, t1 + 1, os⟩) q4 rfl (x := old) rfl ?_)))
  refine wpAny_bind (wpAny_setField_rec q4 (by simp) fun g5 q5 b5 => ?_)
  replace b5 : Heap.SameBut e g4 g5 := b5
  replace q5 : IsEnum g5 e z (c + 1) (.ref m0.objs.size) := q5
  show wpAny _ _ (Builtin.SmallTypes.ownedTupleHandOut (.ref e) (.ref (m0.objs.size + 1)) >>= _) _ _ ⟨g5, gn, dr, t1 + 1, os⟩
  refine wpAny_bind ?_
  unfold Builtin.SmallTypes.ownedTupleHandOut; refine wpAny_bind (wpAny_setField_rec q5 (by simp) fun g6 q6 b6 => ?_)
  replace b6 : Heap.SameBut e g5 g6 := b6
  replace q6 : IsEnumOut g6 e z (c + 1) (.ref m0.objs.size) (m0.objs.size + 1) := q6
  refine wpAny_setField_rec q6 (by simp) fun g7 q7 b7 => ?_
  replace b7 : Heap.SameBut e g6 g7 := b7
  replace q7 : IsEnumOut g7 e z (c + 1) (.ref m0.objs.size) (m0.objs.size + 1) := q7
  have up : ∀ b o, b ≠ e → g4.get? b = some o → g7.get? b = some o := fun b o n q => b7.extBut _ _ n (b6.extBut _ _ n (b5.extBut _ _ n q))
  exact wpAny_bind (wpAny_letGo (wpAny_pure ⟨_, rfl, hQ x y hm g7 t1 p1 p2 p3 p4 p5 p6 p7 p8 q7 (up _ _ (Nat.ne_of_gt (Nat.lt_succ_of_lt el)) n4) fun b o n q => up b o n (k4 b o n q)⟩))
end
end G

set_option linter.all false
set_option Elab.async false
set_option maxRecDepth 100000
set_option maxHeartbeats 2000000
namespace G
open PySem L2 PyProof.Rows
section
variable {P : Program} {w : World} {A : Around} {E : Value → Shared → Prop} {s : Shared} {z TI TO i1 i2 : Addr} {fa fb : List Addr} {na nb i : Nat} {Pa Pb : Nat → Value → Prop} {Sa Sb : Nat → Heap → Prop}
theorem enzNext {e : Addr} {c : Int} {old : Value} (S : ZipSep2 z TI TO i1 i2 fa fb) (Da : Draws P w A.in1.in1 i1 fa na Pa Sa) (Db : Draws P w A.in1.in1 i2 fb nb Pb Sb) {Q : Option Value → Shared → Prop}
    (he : IsEnum s.heap e z c old) (hz : ZS (i1 := i1) (i2 := i2) s.heap z TI TO) (sa : Sa i s.heap) (sb : Sb i s.heap) (la : i < na) (lb : i < nb) (ez : e ≠ z) (eO : e ≠ TO) (e1 : e ≠ i1) (e2 : e ≠ i2)
    (hQ : ∀ x y hm h' tk, Pa i x → Pb i y → ZS (i1 := i1) (i2 := i2) hm z TI TO → Sa (i + 1) hm → Sb (i + 1) hm → IsTupOf2 hm s.heap.objs.size x y → hm.objs.size = s.heap.objs.size + 1 →
      (∀ c o, c ≠ z → c ≠ TO → c ≠ i1 → c ≠ i2 → s.heap.get? c = some o → hm.get? c = some o) → IsEnumOut h' e z (c + 1) (.ref s.heap.objs.size) (s.heap.objs.size + 1) →
      h'.get? (s.heap.objs.size + 1) = some { cls := .type "tuple", data := .seq #[.int c tk, .ref s.heap.objs.size] } → (∀ b o, b ≠ e → hm.get? b = some o → h'.get? b = some o) → Q (some (.ref (s.heap.objs.size + 1))) { s with heap := h', toks := tk + 1 }) :
    wpAny (model P w) A (pyNext (.ref e)) Q E s := by
  have hT : s.TypeIs (.ref e) "enumerate" := ⟨_, he, rfl⟩
  unfold pyNext; refine wpAny_bind (wpAny_attempt (wpAny_callSpecial?_slot (name := Str.ofString "__next__") hT F.slot_enumerate_next (wpAny_call_entry F.slot_enumerate_next hT F.entry_enumerate_next ?_ (F.args_enumerate_next_1 _))))
  exact enzItem S Da Db he hz sa sb la lb ez eO e1 e2 fun x y hm h' tk p1 p2 p3 p4 p5 p6 p7 p8 p9 p10 p11 => wpAny_pure (hQ x y hm h' tk p1 p2 p3 p4 p5 p6 p7 p8 p9 p10 p11)
theorem enzDone {e : Addr} {c : Int} {old : Value} (S : ZipSep2 z TI TO i1 i2 fa fb) (Da : Draws P w A.in1.in1 i1 fa na Pa Sa) (Db : Draws P w A.in1.in1 i2 fb nb Pb Sb) {Q : Option Value → Shared → Prop}
    (he : IsEnum s.heap e z c old) (hz : ZS (i1 := i1) (i2 := i2) s.heap z TI TO) (sa : Sa i s.heap) (sb : Sb i s.heap) (la : i ≤ na) (lb : i ≤ nb) (en : i = na ∨ i = nb)
    (hQ : ∀ h' tk, (∀ c o, c ≠ z → c ≠ TO → c ≠ i1 → c ≠ i2 → s.heap.get? c = some o → h'.get? c = some o) → Q none { s with heap := h', toks := tk }) : wpAny (model P w) A (pyNext (.ref e)) Q E s := by
  have hT : s.TypeIs (.ref e) "enumerate" := ⟨_, he, rfl⟩
  unfold pyNext; refine wpAny_bind (wpAny_attempt (wpAny_callSpecial?_slot (name := Str.ofString "__next__") hT F.slot_enumerate_next (wpAny_call_entry F.slot_enumerate_next hT F.entry_enumerate_next ?_ (F.args_enumerate_next_1 _))))
  show wpAny _ _ (field (.ref e) 2 >>= _) _ _ s
  refine wpAny_bind (wpAny_field (s := s) he rfl (x := .ref z) rfl (wpAny_bind ?_))
  have hZ : s.TypeIs (.ref z) "zip" := by
    obtain ⟨⟨f0, f1, q, _⟩, _⟩ := hz
    exact ⟨_, q, rfl⟩
  unfold Builtin.SmallTypes.nextOf; refine wpAny_bind (wpAny_callSpecial?_slot (name := Str.ofString "__next__") hZ F.slot_zip_next (wpAny_call_entry F.slot_zip_next hZ F.entry_zip_next ?_ (F.args_zip_next_1 _)))
  refine zipOver S Da Db hz sa sb la lb en fun h' tk x k ⟨o, ho, hc⟩ => ?_
  refine wpAny_bind (wpAny_isInstance (T := "StopIteration") (b := true) ⟨o, ho, hc⟩ isSubtype_stop ?_)
  exact wpAny_pure (hQ _ _ k)
end
/-- enumerate(zip(..)): the i-th pair in a new pair behind its place -/
def ItEZ (K : PySem.W.Frag) (k l : Kd) (a b : Addr) : L2.It :=
  ⟨(ItZ2 K k l a b).go,
    fun i H v H' => ∃ T U x y, v = .ref U ∧ H T = none ∧ (upd H T (.tup [x, y])) U = none ∧ H' = upd (upd H T (.tup [x, y])) U (.tup [.int (i : Nat), .ref T]) ∧ (∀ xs, k.sq K H a xs → xs[i]? = some x) ∧ ∀ ys, l.sq K H b ys → ys[i]? = some y,
    (ItZ2 K k l a b).stop⟩
theorem turnEZ {P : Program} {w : World} {K : PySem.W.Frag} {k l : Kd} {gs : List Expr} {kk : Nat} {tp : Pos} {a b z TI TO i1 i2 e : Addr} (D : ZipApart z TI TO i1 i2 a b) (ez : e ≠ z) (eI : e ≠ TI) (eO : e ≠ TO) (e1 : e ≠ i1) (e2 : e ≠ i2) (ea : e ≠ a) (eb : e ≠ b) :
    Turn P w K (.Tuple gs kk tp) (ItEZ K k l a b) [e, z, TI, TO, i1, i2] e (fun i h => (∃ old, IsEnum h e z ((i : Nat) : Int) old) ∧ ZS (i1 := i1) (i2 := i2) h z TI TO ∧ k.cur h i1 a i ∧ l.cur h i2 b i) where
  mem := by simp
  obj := fun i h ⟨⟨old, he⟩, ⟨⟨f0, f1, hz, _⟩, hI, x, y, hO⟩, c1, c2⟩ c hc => by
    have cs : c = e ∨ c = z ∨ c = TI ∨ c = TO ∨ c = i1 ∨ c = i2 := by simpa using hc
    rcases cs with q | q | q | q | q | q <;> subst q
    · exact ⟨_, he, fun v q => nomatch q⟩
    · exact ⟨_, hz, fun v q => nomatch q⟩
    · exact ⟨_, hI, fun v q => nomatch q⟩
    · exact ⟨_, hO, fun v q => nomatch q⟩
    · exact Kd.curObj c1
    · exact Kd.curObj c2
  keep := fun i h h' ⟨⟨old, he⟩, ⟨⟨f0, f1, hz, cs⟩, hI, x, y, hO⟩, c1, c2⟩ hk =>
    ⟨⟨old, hk e (by simp) _ he⟩, ⟨⟨f0, f1, hk z (by simp) _ hz, cs⟩, hk TI (by simp) _ hI, x, y, hk TO (by simp) _ hO⟩, Kd.curAt c1 fun o q => hk i1 (by simp) o q, Kd.curAt c2 fun o q => hk i2 (by simp) o q⟩
  item := by
    intro X hP hw hK hc i pins s σ H E I hf ⟨⟨old, he⟩, hz, c1, c2⟩ ⟨xs, ys, x, y, qx, qy, hx, hy⟩
    subst hP hw hK
    obtain ⟨us, ru, cu, _⟩ := Kd.of I qx
    obtain ⟨vs, rv, cv, _⟩ := Kd.of I qy
    obtain ⟨u, hu, eu⟩ := ru.get hx
    obtain ⟨v, hv, ev⟩ := rv.get hy
    have d1 := k.draws (P := X.prog) (w := X.w) (A := X.A.in1.in1) (I.ok.hd hc) D.l1i1 us.toArray
    have d2 := l.draws (P := X.prog) (w := X.w) (A := X.A.in1.in1) (I.ok.hd hc) D.l2i2 vs.toArray
    have el : e < s.heap.objs.size := Heap.lt_size he
    refine enzNext (sep_of D) d1 d2 he hz ⟨c1, cu⟩ ⟨c2, cv⟩ (by have := (List.getElem?_eq_some_iff.mp hu).1; simpa using this) (by have := (List.getElem?_eq_some_iff.mp hv).1; simpa using this) ez eO e1 e2 fun p q hm h' tk hp hq zo s1 s2 hT hsz hkp ho hU hk2 => ?_
    have ep : p = u := by
      have hp : us.toArray[i]? = some p := hp
      rw [List.getElem?_toArray, hu] at hp
      exact (Option.some.inj hp).symm
    have eq : q = v := by
      have hq : vs.toArray[i]? = some q := hq
      rw [List.getElem?_toArray, hv] at hq
      exact (Option.some.inj hq).symm
    subst ep; subst eq
    refine ⟨_, rfl, wpAny_letOwnedTupleGo_enum (s := { s with heap := h', toks := tk + 1 }) ho fun h2 he2 sb => ?_⟩
    have ob : ObjOk X.prog X.w (upd H s.heap.objs.size (.tup [x, y])) hm s.heap.objs.size (.tup [x, y]) :=
      ⟨by show 2 ≤ sizeLine; decide, [p, q], .cons eu (.cons ev .nil), ⟨_, hT, rfl, _, rfl⟩⟩
    have J : Inv X pins σ (upd H s.heap.objs.size (.tup [x, y])) { s with heap := hm, toks := tk } :=
      I.turnedNew (t' := tk) (ch := [e, z, TI, TO, i1, i2]) (fun c o hb r => hkp c o (fun r => hb (by simp [r])) (fun r => hb (by simp [r])) (fun r => hb (by simp [r])) (fun r => hb (by simp [r])) r) hf (Nat.le_refl _) ob
    have hf2 : ∀ b ∈ [e, z, TI, TO, i1, i2], b < s.heap.objs.size := fun c hcm => by
      obtain ⟨⟨f0, f1, hz', _⟩, hI, x9, y9, hO⟩ := hz
      have cs : c = e ∨ c = z ∨ c = TI ∨ c = TO ∨ c = i1 ∨ c = i2 := by simpa using hcm
      rcases cs with r | r | r | r | r | r <;> subst r
      · exact el
      · exact Heap.lt_size hz'
      · exact Heap.lt_size hI
      · exact Heap.lt_size hO
      · obtain ⟨_, g1, _⟩ := Kd.curObj c1; exact Heap.lt_size g1
      · obtain ⟨_, g2, _⟩ := Kd.curObj c2; exact Heap.lt_size g2
    have hf3 : ∀ b ∈ [e], FpOk X pins (upd H s.heap.objs.size (.tup [x, y])) b := fun b hb => by
      have hb2 : b ∈ [e, z, TI, TO, i1, i2] := by rw [List.mem_singleton.mp hb]; simp
      exact ⟨by rw [upd_ne (Nat.ne_of_lt (hf2 b hb2))]; exact (hf b hb2).1, (hf b hb2).2⟩
    have hU2 : h2.get? (s.heap.objs.size + 1) = some { cls := .type "tuple", data := .seq #[.int i tk, .ref s.heap.objs.size] } := (sb.2 _ (Nat.ne_of_gt (Nat.lt_succ_of_lt el))).trans hU
    have ob2 : ObjOk X.prog X.w (upd (upd H s.heap.objs.size (.tup [x, y])) (s.heap.objs.size + 1) (.tup [.int (i : Nat), .ref s.heap.objs.size])) h2 (s.heap.objs.size + 1) (.tup [.int (i : Nat), .ref s.heap.objs.size]) :=
      ⟨by show 2 ≤ sizeLine; decide, [.int i tk, .ref s.heap.objs.size], .cons ⟨_, rfl⟩ (.cons rfl .nil), ⟨_, hU2, rfl, _, rfl⟩⟩
    have J2 : Inv X pins σ (upd (upd H s.heap.objs.size (.tup [x, y])) (s.heap.objs.size + 1) (.tup [.int (i : Nat), .ref s.heap.objs.size])) { s with heap := h2, toks := tk + 1 } :=
      J.turnedNew (t' := tk + 1) (ch := [e]) (fun c o hb r => (sb.2 c (fun r => hb (by simp [r]))).trans (hk2 c o (fun r => hb (by simp [r])) r)) hf3 (by show hm.objs.size ≤ _; rw [hsz]; exact Nat.le_refl _) ob2
    have kp : ∀ c o, c ≠ e → hm.get? c = some o → h2.get? c = some o := fun c o n r => (sb.2 c n).trans (hk2 c o n r)
    refine ⟨.ref (s.heap.objs.size + 1), _, J2, rfl, ⟨s.heap.objs.size, s.heap.objs.size + 1, x, y, rfl, I.hok.fresh (Nat.le_refl _), by rw [upd_ne (Nat.succ_ne_self _)]; exact I.hok.fresh (Nat.le_succ _), rfl, fun zs hzs => by rw [Kd.same I hzs qx]; exact hx, fun zs hzs => by rw [Kd.same I hzs qy]; exact hy⟩, ⟨⟨.ref s.heap.objs.size, ?_⟩, ?_, ?_, ?_⟩, fun c hcm => ?_⟩
    · have e1 : ((i + 1 : Nat) : Int) = (i : Int) + 1 := by omega
      rw [e1]; exact he2
    · obtain ⟨⟨f0, f1, hz', cs⟩, hI, x9, y9, hO⟩ := zo
      exact ⟨⟨f0, f1, kp _ _ (Ne.symm ez) hz', cs⟩, kp _ _ (Ne.symm eI) hI, x9, y9, kp _ _ (Ne.symm eO) hO⟩
    · exact Kd.curAt s1.1 fun o r => kp _ _ (Ne.symm e1) r
    · exact Kd.curAt s2.1 fun o r => kp _ _ (Ne.symm e2) r
    · have lt := hf2 c hcm
      rw [upd_ne (Nat.ne_of_lt (Nat.lt_succ_of_lt lt)), upd_ne (Nat.ne_of_lt lt)]
      exact (hf c hcm).1
  done := by
    intro X hP hw hK hc i pins s σ H E I hf ⟨⟨old, he⟩, hz, c1, c2⟩ ⟨xs, ys, qx, qy, l1, l2, hend⟩
    subst hP hw hK
    obtain ⟨us, ru, cu, _⟩ := Kd.of I qx
    obtain ⟨vs, rv, cv, _⟩ := Kd.of I qy
    have g1 := ru.length
    have g2 := rv.length
    have d1 := k.draws (P := X.prog) (w := X.w) (A := X.A.in1.in1) (I.ok.hd hc) D.l1i1 us.toArray
    have d2 := l.draws (P := X.prog) (w := X.w) (A := X.A.in1.in1) (I.ok.hd hc) D.l2i2 vs.toArray
    exact enzDone (sep_of D) d1 d2 he hz ⟨c1, cu⟩ ⟨c2, cv⟩ (by simp; omega) (by simp; omega) (by simp; omega) fun h' tk hkp => ⟨rfl, I.turnedL (t' := tk) (ch := [e, z, TI, TO, i1, i2]) (fun c o hb r =>
      hkp c o (fun r => hb (by simp [r])) (fun r => hb (by simp [r])) (fun r => hb (by simp [r])) (fun r => hb (by simp [r])) r) hf⟩
  self := fun A i s Q E ⟨⟨_, he⟩, _⟩ h => wpAny_pyIter_enum he h
end G

set_option linter.all false
set_option Elab.async false
set_option maxRecDepth 100000
set_option maxHeartbeats 2000000
namespace G
open PySem L2 PyProof.Rows
section
variable {T : Tab} {P : Prog} {n : Nat} {F : Nat → Addr} {c : Cc} {X : Cx} {Z : Zn}
theorem pi_enzK {e e2 : Expr} {ta : TA} {p pos p2 pos2 tp : Pos} {gs : List Expr} {kk : Nat} (hg : Gl X "enumerate") (hm : X.mg "enumerate" = none) (hg2 : Gl X "zip") (hm2 : X.mg "zip" = none) (ha : PA X [e, e2] ta) (hs : starEach [e, e2] X.env = (false, eval e X.env) :: starEach [e2] X.env) (hp : (backTo pos2 (starEach [e2] X.env)).any (·.1) = false) :
    PI X (.Tuple gs kk tp) (.Call (.Name "enumerate" p) [.Call (.Name "zip" p2) [e, e2] [] pos2] [] pos) (fun σ H R => ta σ H fun vs H1 => ∃ (k l : Kd) (a b : Addr) (xs ys : List HV), vs = [.ref a, .ref b] ∧ k.sq X.K H1 a xs ∧ l.sq X.K H1 b ys ∧ R (ItEZ X.K k l a b) H1) := by
  refine ⟨fun pins s σ H R I h => ?_⟩
  refine Call_ (ld_blt I hg hm boot_enumerate (PyProof.Rows.callWith_type1 ?_ rfl rfl))
  show wpAny _ _ (spliced ((false, eval (.Call (.Name "zip" p2) [e, e2] [] pos2) X.env) :: backTo pos (starEach [] X.env))) _ _ s
  refine Calls.spliced_cons ?_
  refine Call_ (ld_blt I hg2 hm2 PyProof.Rows.boot_zip (PyProof.Rows.callWith_type1 (thn (ha.run pos2 pins s σ H _ I h) fun us s1 ⟨vs, H1, I1, r1, k, l, a, b, xs, ys, ev, qx, qy, q⟩ => ?_) hs hp))
  subst ev
  cases r1 with
  | cons r0 rn =>
    cases rn with
    | cons r2 rn =>
      cases rn
      cases r0
      cases r2
      obtain ⟨it1, rv1, cl1, _⟩ := Kd.of I1 qx
      obtain ⟨it2, rv2, cl2, _⟩ := Kd.of I1 qy
      refine zip_begins2 (k.begin a it1.toArray) (l.begin b it2.toArray) cl1 cl2 fun h' hz hI hO b1 b2 hsz hk => ?_
      refine Calls.spliced_nil ?_
      refine enu_call (H := fun h => IsZip h (s1.heap.objs.size + 4) (s1.heap.objs.size + 2) (s1.heap.objs.size + 3) .none) (g := fun h => h) (c := fun _ => s1.heap.objs.size + 4) (fun P w A E s Q hH hq => wpAny_pyIter_zip hH hq) hz fun he => wpAny_pyIter_enum he ?_
      have up : ∀ b o, h'.get? b = some o → (h'.push (enuO (s1.heap.objs.size + 4))).get? b = some o := fun b o r => Heap.get?_push_of_some _ r
      have I2 : Inv X pins σ H1 { s1 with heap := h'.push (enuO (s1.heap.objs.size + 4)) } := I1.kept (t' := s1.toks) fun b o r => up b o (hk b o r)
      have la := Kd.lt cl1
      have lb := Kd.lt cl2
      have es : h'.objs.size = s1.heap.objs.size + 5 := hsz
      have ne : ∀ j : Nat, j < s1.heap.objs.size + 5 → h'.objs.size ≠ j := fun j hj r => by rw [es] at r; exact absurd r (Nat.ne_of_gt hj)
      refine ⟨h'.objs.size, [h'.objs.size, s1.heap.objs.size + 4, s1.heap.objs.size + 2, s1.heap.objs.size + 3, s1.heap.objs.size, s1.heap.objs.size + 1], _, _, H1, rfl, I2,
        turnEZ (PySem.W.ktu_apart s1.heap.objs.size a b la lb) (ne _ (by omega)) (ne _ (by omega)) (ne _ (by omega)) (ne _ (by omega)) (ne _ (by omega)) (ne _ (Nat.lt_add_right 5 la)) (ne _ (Nat.lt_add_right 5 lb)),
        ⟨⟨.none, he⟩, ⟨⟨_, _, up _ _ hz, .inl ⟨rfl, rfl⟩⟩, up _ _ hI, _, _, up _ _ hO⟩, Kd.born (up _ _ b1), Kd.born (up _ _ b2)⟩, fun c hc => ?_, q⟩
      have le : s1.heap.objs.size ≤ c := by
        have cs : c = h'.objs.size ∨ c = s1.heap.objs.size + 4 ∨ c = s1.heap.objs.size + 2 ∨ c = s1.heap.objs.size + 3 ∨ c = s1.heap.objs.size ∨ c = s1.heap.objs.size + 1 := by simpa using hc
        rcases cs with r | r | r | r | r | r
        · rw [r, es]; exact Nat.le_add_right _ _
        all_goals rw [r]; first | exact Nat.le_refl _ | exact Nat.le_add_right _ _
      exact I1.fpOk le (I1.hok.fresh le)
theorem i_enz {a b : Ex} (iha : SE T P n F a) (ihb : SE T P n F b) : SI T P n F (.enz a b) := fun c g x h X Z ok => by
  unfold okI at h
  obtain ⟨hg, hh⟩ := Bool.and_eq_true_iff.mp h
  clear h
  have h := hh
  clear hh
  obtain ⟨gs, hg⟩ := Option.isSome_iff_exists.mp hg
  obtain ⟨kk, tp, rfl⟩ := dTup_eq hg
  split at h
  · rename_i f0 uu e0
    obtain ⟨hA, hB⟩ := Bool.and_eq_true_iff.mp h
    obtain ⟨h7, h8⟩ := Bool.and_eq_true_iff.mp hA
    obtain ⟨p0, q0, rfl⟩ := dCall_eq e0
    have ef0 := of_decide_eq_true h7
    subst ef0
    split at hB
    · rename_i f y z e
      obtain ⟨h, h6⟩ := Bool.and_eq_true_iff.mp hB
      obtain ⟨h, h5⟩ := Bool.and_eq_true_iff.mp h
      obtain ⟨h, h4⟩ := Bool.and_eq_true_iff.mp h
      obtain ⟨h, h3⟩ := Bool.and_eq_true_iff.mp h
      obtain ⟨h1, h2⟩ := Bool.and_eq_true_iff.mp h
      obtain ⟨p, q, rfl⟩ := dCall_eq e
      have ef := of_decide_eq_true h1
      subst ef
      have n1 := nostar1 (es := [z]) (env := X.env) h3
      have n2 := nostar1 (es := []) (env := X.env) h4
      refine pi_imp (pi_enzK (ok.glob h8) (ok.bi _ (by decide +kernel)) (ok.glob h2) (ok.bi _ (by decide +kernel)) (pa_cons (iha c y h5 X Z ok).1 (pa_cons (ihb c z h6 X Z ok).1 pa_nil n2) n1) n1 (nostarA (es := [z]) (by simp [h4]))) fun σ H R q => ?_
      obtain ⟨m, h, σ', lk, ls, rt⟩ := q
      unfold evit at rt
      refine ⟨m, h, σ', lk, ls, rt.bind.mono fun v H1 ⟨w, h1, m1, _, st, lk1, wr, rt⟩ => ?_⟩
      refine ⟨m1, h1, σ', lk1, ls.step lk st, rt.bind.mono fun u H2 ⟨w2, h2, m2, _, st2, lk2, wr2, rt⟩ => ?_⟩
      obtain ⟨xs, e1, rt1⟩ := rt.ofO
      obtain ⟨ys, e2, rt2⟩ := rt1.ofO
      clear rt rt1
      have wr := WR.step lk1 st2 wr
      obtain ⟨k, ad, us, ev, sq, la⟩ := seqR (ns := isOpen h2 w ++ isOpen h2 w2) lk2 wr e1 fun _ z => List.mem_append_left _ z
      obtain ⟨l, bd, vs, ev2, sq2, lb⟩ := seqR (ns := isOpen h2 w ++ isOpen h2 w2) lk2 wr2 e2 fun _ z => List.mem_append_right _ z
      subst ev; subst ev2
      refine ⟨k, l, ad, bd, us, vs, rfl, sq, sq2, rt2 m2 H2 (ItEZ X.K k l ad bd) Step.refl lk2 ?_⟩
      have hl : (enumOf 0 (zipOf xs ys)).length = min xs.length ys.length := by rw [enum_len, zip_len]
      refine ⟨fun H3 => ∃ us vs, k.sq X.K H3 ad us ∧ l.sq X.K H3 bd vs ∧ us.length = xs.length ∧ vs.length = ys.length, (ItEZ X.K k l ad bd).yld, ⟨fun i H3 hi ⟨us, vs, s1, s2, l1, l2⟩ => ?_, fun H3 ⟨us, vs, s1, s2, l1, l2⟩ => ?_, fun i H3 x H' _ _ y => y⟩, fun m3 h3 H3 st3 lk3 kp => ?_⟩
      · rw [hl] at hi
        exact ⟨us, vs, us[i]'(by omega), vs[i]'(by omega), s1, s2, by simp, by simp⟩
      · rw [hl]
        exact ⟨us, vs, s1, s2, by omega, by omega, by omega⟩
      · obtain ⟨us3, s1, r1, l1⟩ := la m3 h3 H3 st3 lk3 kp
        obtain ⟨vs3, s2, r2, l2⟩ := lb m3 h3 H3 st3 lk3 kp
        refine ⟨⟨us3, vs3, s1, s2, l1, l2⟩, fun i x H' hi ⟨A, U, p, q, ex, hA, hU, eH, hp, hq⟩ => ?_⟩
        subst ex; subst eH
        obtain ⟨d1, g1, g2⟩ := r1.back (hp us3 s1)
        obtain ⟨d2, g3, g4⟩ := r2.back (hq vs3 s2)
        obtain ⟨p1, p2, p3⟩ := new_pair (xs := [d1, d2]) lk3 hA ⟨_, _, rfl, g2, _, _, rfl, g4, rfl⟩
        obtain ⟨t1, t2, t3⟩ := new_pair (xs := [.int (i : Nat), .tup [d1, d2]]) p2 hU ⟨_, _, rfl, rfl, _, _, rfl, p3, rfl⟩
        have zg := zip_get xs ys i d1 d2 g1 g3
        rw [List.getElem?_map] at zg
        obtain ⟨dd, z1, z2⟩ := Option.map_eq_some_iff.mp zg
        cases z2
        have := enum_get (zipOf xs ys) 0 i _ z1
        rw [Nat.zero_add] at this
        exact ⟨_, this, p1.trans t1, t2, t3⟩
    · cases hB
  · cases h
end
end G

set_option linter.all false
set_option Elab.async false
set_option maxRecDepth 100000
set_option maxHeartbeats 1000000
namespace G
open PySem L2 PyProof.Rows
section
variable {T : Tab} {P : Prog} {n : Nat} {F : Nat → Addr}
mutual
theorem sE : ∀ e : Ex, SE T P n F e
  | .var i => s_var i
  | .non => s_non
  | .bl b => s_bl b
  | .int i => s_int i
  | .str s => s_str s
  | .glb k => s_glb k
  | .o1 _ _ a => s_o1 (sE a)
  | .o2 _ _ a b => s_o2 (sE a) (sE b)
  | .and1 a => s_and1 (sE a)
  | .andc a b => s_andc (sE a) (sE b)
  | .or1 a => s_or1 (sE a)
  | .orc a b => s_orc (sE a) (sE b)
  | .not a => s_not (sE a)
  | .ifx t a b => s_ifx (sE t) (sE a) (sE b)
  | .tup es => s_tup (sA es)
  | .lst _ es => s_lst (sA es)
  | .slc _ a lo hi => s_slc (sE a) (sO lo) (sO hi)
  | .call _ es => s_call (sA es)
  | .comp _ _ e tg it => s_comp (sE e) (sG tg) (sI it)
  | .compc _ _ e tg it t => s_compc (sE e) (sG tg) (sI it) (sE t)
  | .app a b => s_app (sE a) (sE b)
  | .pop a => s_pop (sE a)
  | .frz a => s_frz (sE a)
theorem sA : ∀ es : Exs, SA T P n F es
  | .nil => s_nil
  | .cons a r => s_cons (sE a) (sA r)
theorem sO : ∀ o : Oe, SO T P n F o
  | .no => s_no
  | .yes a => s_yes (sE a)
theorem sI : ∀ i : It, SI T P n F i
  | .seq a => i_seq (sE a)
  | .rng1 a => i_rng1 (sE a)
  | .rng2 a b => i_rng2 (sE a) (sE b)
  | .enu a => i_enu (sE a)
  | .zip a b => i_zip (sE a) (sE b)
  | .enz a b => i_enz (sE a) (sE b)
theorem sG : ∀ t : Tg, SG T P n F t
  | .nm i => g_nm i
  | .tp ts => g_tp (sGs ts)
  | .sub a i => g_sub (sE a) (sE i)
theorem sGs : ∀ t : Tgs, SGs T P n F t
  | .nil => gs_nil
  | .cons t r => gs_cons (sG t) (sGs r)
end
theorem sC (e : Ex) : SC T P n F e := fun hc c x h X Z ok => by
  cases e with
  | comp mt own e tg it => exact c_comp (sE e) (sG tg) (sI it) x h ok
  | compc mt own e tg it t => exact c_compc (sE e) (sG tg) (sI it) (sE t) x h ok
  | _ => cases hc
mutual
theorem sS : ∀ s : St, SS T P n F s
  | .asg tg e => t_asg (sE e) (sG tg)
  | .lcs _ e => t_lcs (sC e)
  | .par _ _ a b => t_par (sE a) (sE b)
  | .aug _ e => t_aug (sE e)
  | .augS a i e => t_augS (sE a) (sE i) (sE e)
  | .ifs t a b => t_ifs (sE t) (sSs a) (sSs b)
  | .for tg it b => t_for (sG tg) (sI it) (sSs b)
  | .whl _ t b => t_whl (sE t) (sSs b)
  | .ret e => t_ret (sE e)
  | .retN => t_retN
  | .brk => t_brk
  | .cnt => t_cnt
  | .pass => t_pass
  | .expr e => t_expr (sE e)
  | .rais _ _ => fun c x h => by unfold okS at h; cases h
  | .nev => t_nev
theorem sSs : ∀ s : Sts, SSs T P n F s
  | .nil => t_nil
  | .cons s r => t_cons (sS s) (sSs r)
end
end
end G

set_option linter.all false
set_option Elab.async false
set_option maxRecDepth 100000
set_option maxHeartbeats 1000000
namespace G
open PySem L2 PyProof.Rows
/-! ### defs -/
/-- a def of the text: its name, its qualified name, its names by slot, its parameters, its statement -/
structure FT where
  x : Str
  q : Str
  N : List Str
  ps : List Str
  st : Stmt
def okF (T : Tab) (f : Fn) (t : FT) : Bool := C8.scC t.N t.ps (defScope t.st) && decide (t.ps.length = f.nPar) && decide (t.N.length = f.nLoc) && decide (f.nPar ≤ f.nLoc) &&
  okSs T f.body ⟨t.N, defScope t.st, defScope t.st, List.range t.N.length⟩ (defBody t.st)
def okFs (T : Tab) : List Fn → List FT → Bool
  | [], [] => true
  | f :: fs, t :: ts => okF T f t && okFs T fs ts
  | _, _ => false
theorem okFs_at {T : Tab} : ∀ {fs : List Fn} {ts : List FT} {k : Nat} {f : Fn}, okFs T fs ts = true → fs[k]? = some f → ∃ t, ts[k]? = some t ∧ okF T f t = true
  | [], _, k, f, _, e => by simp at e
  | f :: fs, [], k, g, h, e => by cases h
  | f :: fs, t :: ts, 0, g, h, e => by
    simp at e; subst e
    exact ⟨t, rfl, (Bool.and_eq_true_iff.mp h).1⟩
  | f :: fs, t :: ts, k + 1, g, h, e => by
    obtain ⟨t', a, b⟩ := okFs_at (Bool.and_eq_true_iff.mp h).2 (show fs[k]? = some g by simpa using e)
    exact ⟨t', by simpa using a, b⟩
/-- how it stands behind the top, and how its defaults fill up -/
structure FunT (K : PySem.W.Frag) (Fk : Addr) (F : Nat → Addr) (t : FT) (dfl : List D) : Prop where
  ex : ∃ (oc : Value) (od : Option Addr) (dV kV doc pm : Value) (an : Option Addr) (cdv ct : Value) (osl : Array (Option Value)),
    K.lookup Fk = some ⟨oc, od, .func (PySem.W.fnOf t.x t.q (defArgs t.st) (defBody t.st) (defScope t.st) dV kV doc pm an cdv ct), osl⟩ ∧ PySem.W.codeIn K cdv t.q = true ∧
    (∀ j, j ≤ dfl.length → ∃ (ds : List Value) (dvs : List HV), Binds K (PySem.W.fnOf t.x t.q (defArgs t.st) (defBody t.st) (defScope t.st) dV kV doc pm an cdv ct) t.ps ds ∧ Vals dvs ds ∧ ∀ p H, RDs K F p H (dfl.drop (dfl.length - j)) dvs) ∧
    (dfl = [] → ∀ (s : Shared) (us : List Value), us.length = t.ps.length → BindsTo s (PySem.W.fnOf t.x t.q (defArgs t.st) (defBody t.st) (defScope t.st) dV kV doc pm an cdv ct) ⟨us, []⟩ (t.ps.zip us))
/-- what the top has written -/
structure Txt (T : Tab) (P : Prog) (ts : List FT) (K : PySem.W.Frag) (mg : Str → Option Value) (F : Nat → Addr) : Prop where
  fs : ∀ (k : Nat) (f : Fn) (t : FT), P.fns[k]? = some f → ts[k]? = some t → FunT K (F k) F t f.dfl
  fn : ∀ (k : Nat) (x : Str), T.fnN[k]? = some (some x) → mg x = some (.ref (F k)) ∧ PySem.W.keepIn K (.ref (F k)) = true
  gl : ∀ (k : Nat) (x : Str) (d : D), T.glN[k]? = some x → P.glbs[k]? = some d → ∃ u v, mg x = some u ∧ RelV v u ∧ ∀ p H, RD K F p H d v
  bi : ∀ x ∈ biN, mg x = none
theorem RDs.sweep {K : PySem.W.Frag} {fa : Nat → Addr} {m m2 : LM} {H : Hp} (h : ∀ x v, RD K fa (still m) H x v → RD K fa (still m2) H x v) : ∀ {xs : List D} {vs : List HV}, RDs K fa (still m) H xs vs → RDs K fa (still m2) H xs vs
  | [], vs, r => r
  | x :: xs, vs, r => by
    obtain ⟨y, t, e, h1, h2⟩ := r
    exact ⟨y, t, e, h x y h1, RDs.sweep h h2⟩
theorem ls_start {K : PySem.W.Frag} {fa : Nat → Addr} {m : LM} {H : Hp} {ws : List W} {vs : List HV} {N : List Str} {nL : Nat} (r : WRs K fa m H ws vs) (hN : N.length = nL) : LS K fa m H (ws.map some ++ List.replicate (nL - ws.length) none) (L2.start N vs) := by
  have hl := r.length
  refine ⟨by unfold L2.start; simp [hl, hN], fun i w e => ?_⟩
  by_cases z : i < ws.length
  · rw [List.getElem?_append_left (by simpa using z)] at e
    rw [List.getElem?_map] at e
    obtain ⟨w', e1, e2⟩ := Option.map_eq_some_iff.mp e
    cases e2
    obtain ⟨v, a, b⟩ := WRs.get r e1
    refine ⟨v, ?_, b⟩
    unfold L2.start
    rw [List.getElem?_append_left (by simp; omega), List.getElem?_map, a]; rfl
  · rw [List.getElem?_append_right (by simpa using z)] at e
    have := List.mem_of_getElem? e
    rw [List.mem_replicate] at this
    cases this.2
section
variable {T : Tab} {Pr : Prog} {ts : List FT} {P : Program} {w : World} {K : PySem.W.Frag} {mg : Str → Option Value} {base : Heap} {F ea : Nat → Addr} {fl : Nat → List Str}
theorem Rt.swept {Z : Zn} {σ : L2.St} {m : LM} {h h1 : S} {H : Hp} {w : W} {Q : VK} {σ0 : L2.St} {A : List Nat} (lk : Lk Z.K Z.fa m h H) (x : Rt Z σ (leave h.length w h1) (WRz Z) m H Q) : ∀ m1 H1 v, Step m H m1 H1 → Lk Z.K Z.fa m1 h1 H1 → WR Z.K Z.fa m1 H1 w v → Q v H1 := fun m1 H1 v st lk1 wr => by
  cases w with
  | d d =>
    obtain ⟨m2, lk2, st2, up⟩ := lk1.sweep st lk.len
    exact x m2 H1 v st2 lk2 (up d v wr)
  | ref k => exact x m1 H1 v st lk1 wr
  | exn a b => exact False.elim wr
theorem all_fn (X0 : Txt T Pr ts K mg F) (oks : okFs T Pr.fns ts = true) : ∀ (n k : Nat) (f : Fn) (t : FT), Pr.fns[k]? = some f → ts[k]? = some t → ∀ fd, (∃ (oc : Value) (od : Option Addr) (dV kV doc pm : Value) (an : Option Addr) (cdv ct : Value) (osl : Array (Option Value)),
    fd = PySem.W.fnOf t.x t.q (defArgs t.st) (defBody t.st) (defScope t.st) dV kV doc pm an cdv ct ∧ K.lookup (F k) = some ⟨oc, od, .func fd, osl⟩ ∧ PySem.W.codeIn K cdv t.q = true) →
    FnOk P w K mg base (L2.CX P w) n (F k) fd t.ps (spI K F ea fl Pr n k f.nPar)
  | 0, k, f, t, ek, et, fd, _ => by
    obtain ⟨t', et', hok⟩ := okFs_at oks ek
    rw [et] at et'; cases et'
    unfold okF at hok
    simp only [Bool.and_eq_true, decide_eq_true_eq] at hok
    obtain ⟨⟨⟨⟨h1, h2⟩, h3⟩, h4⟩, h5⟩ := hok
    exact ⟨fun vs H Q E ⟨m, h, ws, l, lk, wr, rt⟩ => by rw [← wr.length, l, h2], fun A outer s H args us vs Q E _ _ _ _ ⟨m, h, ws, l, lk, wr, rt⟩ => False.elim rt⟩
  | n + 1, k, f, t, ek, et, fd, hfd => by
    obtain ⟨t', et', hok⟩ := okFs_at oks ek
    rw [et] at et'; cases et'
    unfold okF at hok
    simp only [Bool.and_eq_true, decide_eq_true_eq] at hok
    obtain ⟨⟨⟨⟨h1, h2⟩, h3⟩, h4⟩, h5⟩ := hok
    obtain ⟨oc, od, dV, kV, doc, pm, an, cdv, ct, osl, rfl, lkf, hcd⟩ := hfd
    have S := C8.fnScope_by h1
    refine fn_of lkf hcd S (fun vs H Q E ⟨m, h, ws, l, lk, wr, rt⟩ => by rw [← wr.length, l, h2]) fun A outer s H vs Q E hr ⟨m, h, ws, l, lk, wr, rt⟩ => ?_
    have ok : Ok T Pr n ⟨t.N, defScope t.st, defScope t.st, List.range t.N.length⟩ (cxOf (L2.CX P w) P w K mg base t.N t.q (defScope t.st) (F k) cdv A outer s H E) F (znE K F ea fl E) := {
      hN := rfl, hs := rfl, nd := S.nd, hc := rfl, hr := hr, fn := X0.fn
      fo := fun k' f' e' => by
        obtain ⟨t2, et2, hok2⟩ := okFs_at oks e'
        obtain ⟨oc2, od2, dV2, kV2, doc2, pm2, an2, cdv2, ct2, osl2, l2, c2, b2, _⟩ := (X0.fs k' f' t2 e' et2).ex
        unfold okF at hok2
        simp only [Bool.and_eq_true, decide_eq_true_eq] at hok2
        exact ⟨_, t2.ps, hok2.1.1.1.2, all_fn X0 oks n k' f' t2 e' et2 _ ⟨oc2, od2, dV2, kV2, doc2, pm2, an2, cdv2, ct2, osl2, rfl, l2, c2⟩, b2⟩
      gl := X0.gl, bi := X0.bi, tk := takes_of rfl rfl rfl rfl, wi := fun _ _ _ _ _ _ z => z, po := passes_of rfl
      st := fun x h => ⟨h, .inl rfl⟩ }
    refine ⟨_, sSs f.body ⟨t.N, defScope t.st, defScope t.st, List.range t.N.length⟩ (defBody t.st) h5 _ _ ok, ?_⟩
    have hfill : fill f ws = ws := by
      unfold fill
      rw [l, Nat.sub_self, Nat.sub_zero, List.drop_length]; simp
    have rt : Rt (znE K F ea fl E) [] (match exs ⟨runFn Pr n, fun k => Pr.glbs[k]?⟩ f.body (ws.map some ++ List.replicate (f.nLoc - f.nPar) none) h with
        | .ok (.rt w) h1 => leave h.length w h1
        | .ok (.nx _) h1 => leave h.length (.d .non) h1
        | .ok _ _ => .bad
        | .exc k ds h1 => .exc k ds (sweep h.length h1)
        | .bad => .bad) (WRz (znE K F ea fl E)) m H Q := by
      unfold runFn at rt
      rw [ek] at rt
      simp only [] at rt
      rw [hfill, if_pos l] at rt
      exact rt
    refine ⟨m, h, ws.map some ++ List.replicate (f.nLoc - f.nPar) none, lk, ?_, ?_⟩
    · rw [← l]; exact ls_start wr h3
    · show Rt (znE K F ea fl E) (L2.start t.N vs) (exs ⟨runFn Pr n, fun k => Pr.glbs[k]?⟩ f.body (ws.map some ++ List.replicate (f.nLoc - f.nPar) none) h) _ m H _
      generalize exs ⟨runFn Pr n, fun k => Pr.glbs[k]?⟩ f.body (ws.map some ++ List.replicate (f.nLoc - f.nPar) none) h = r at rt ⊢
      cases r with
      | bad => exact rt
      | exc kk ds h1 =>
        intro m1 H1 cls d st1 lk1 xr
        obtain ⟨m2, lk2, st2, up⟩ := lk1.sweep st1 lk.len
        refine rt m2 H1 cls d st2 lk2 ⟨xr.1, xr.2.1, ?_⟩
        have x3 := xr.2.2
        cases q : fl kk with
        | nil =>
          have : (znE K F ea fl E).fl kk = [] := q
          rw [this] at x3 ⊢
          exact x3
        | cons a b =>
          have : (znE K F ea fl E).fl kk = a :: b := q
          rw [this] at x3 ⊢
          obtain ⟨dx, vs2, e1, e2, e3⟩ := x3
          exact ⟨dx, vs2, e1, e2, RDs.sweep up e3⟩
      | ok fl1 h1 =>
        cases fl1 with
        | rt w =>
          intro m1 H1 b st1 lk1 rf
          cases b with
          | rt v => exact Rt.swept (Z := znE K F ea fl E) (σ0 := []) (A := []) lk rt m1 H1 v st1 lk1 rf
          | _ => exact False.elim rf
        | nx s1 =>
          intro m1 H1 b st1 lk1 rf
          cases b with
          | nx τ => exact Rt.swept (Z := znE K F ea fl E) (σ0 := []) (A := []) lk rt m1 H1 .non st1 lk1 rfl
          | _ => exact False.elim rf
        | bk s1 => exact False.elim rt
        | ct s1 => exact False.elim rt
end
end G

set_option linter.all false
set_option Elab.async false
set_option maxRecDepth 100000
set_option maxHeartbeats 1000000
namespace G
open PySem L2 PyProof.Rows
/-! ### the end -/
/-- a def without defaults -/
theorem funT0 {K : PySem.W.Frag} {Fk : Addr} {F : Nat → Addr} {t : FT} {oc kV doc pm cdv ct : Value} {od an : Option Addr} {osl : Array (Option Value)}
    (l : K.lookup Fk = some ⟨oc, od, .func (PySem.W.fnOf t.x t.q (defArgs t.st) (defBody t.st) (defScope t.st) .none kV doc pm an cdv ct), osl⟩) (c : PySem.W.codeIn K cdv t.q = true)
    (hb : ∀ (kV doc pm : Value) (an : Option Addr) (cdv ct : Value) (us : List Value), us.length = t.ps.length → bindArgs (PySem.W.fnOf t.x t.q (defArgs t.st) (defBody t.st) (defScope t.st) .none kV doc pm an cdv ct) ⟨us, []⟩ = pure (t.ps.zip us)) : FunT K Fk F t [] := by
  refine ⟨oc, od, .none, kV, doc, pm, an, cdv, ct, osl, l, c, fun j _ => ⟨[], [], Binds.all (hb kV doc pm an cdv ct), .nil, fun p H => ?_⟩, fun _ s us hl => .of_eq (hb kV doc pm an cdv ct us hl)⟩
  show RDs K F p H (List.drop _ []) []
  rw [List.drop_nil]; rfl
/-- the defs one behind the other -/
def FunTs (K : PySem.W.Frag) (F : Nat → Addr) : Nat → List Fn → List FT → Prop
  | i, f :: fs, t :: ts => FunT K (F i) F t f.dfl ∧ FunTs K F (i + 1) fs ts
  | _, _, _ => True
theorem FunTs.at {K : PySem.W.Frag} {F : Nat → Addr} : ∀ {i : Nat} {fs : List Fn} {ts : List FT}, FunTs K F i fs ts → ∀ (k : Nat) (f : Fn) (t : FT), fs[k]? = some f → ts[k]? = some t → FunT K (F (i + k)) F t f.dfl
  | i, [], _, h, k, f, t, e1, e2 => by simp at e1
  | i, _ :: _, [], h, k, f, t, e1, e2 => by simp at e2
  | i, f0 :: fs, t0 :: ts, h, 0, f, t, e1, e2 => by
    simp at e1 e2; subst e1; subst e2; exact h.1
  | i, f0 :: fs, t0 :: ts, h, k + 1, f, t, e1, e2 => by
    have := FunTs.at h.2 k f t (by simpa using e1) (by simpa using e2)
    rwa [Nat.add_assoc, Nat.add_comm 1 k] at this
def FnNs (K : PySem.W.Frag) (mg : Str → Option Value) (F : Nat → Addr) : Nat → List (Option Str) → Prop
  | _, [] => True
  | i, none :: r => FnNs K mg F (i + 1) r
  | i, some x :: r => (mg x = some (.ref (F i)) ∧ PySem.W.keepIn K (.ref (F i)) = true) ∧ FnNs K mg F (i + 1) r
theorem FnNs.at {K : PySem.W.Frag} {mg : Str → Option Value} {F : Nat → Addr} : ∀ {i : Nat} {ns : List (Option Str)}, FnNs K mg F i ns → ∀ (k : Nat) (x : Str), ns[k]? = some (some x) → mg x = some (.ref (F (i + k))) ∧ PySem.W.keepIn K (.ref (F (i + k))) = true
  | i, [], h, k, x, e => by simp at e
  | i, none :: r, h, 0, x, e => by simp at e
  | i, some y :: r, h, 0, x, e => by simp at e; subst e; exact h.1
  | i, none :: r, h, k + 1, x, e => by
    have := FnNs.at (i := i + 1) (ns := r) h k x (by simpa using e)
    rwa [Nat.add_assoc, Nat.add_comm 1 k] at this
  | i, some y :: r, h, k + 1, x, e => by
    have := FnNs.at (i := i + 1) (ns := r) h.2 k x (by simpa using e)
    rwa [Nat.add_assoc, Nat.add_comm 1 k] at this
def GlNs (K : PySem.W.Frag) (mg : Str → Option Value) (F : Nat → Addr) : List Str → List D → Prop
  | x :: xs, d :: ds => (∃ u v, mg x = some u ∧ RelV v u ∧ ∀ p H, RD K F p H d v) ∧ GlNs K mg F xs ds
  | _, _ => True
theorem GlNs.at {K : PySem.W.Frag} {mg : Str → Option Value} {F : Nat → Addr} : ∀ {xs : List Str} {ds : List D}, GlNs K mg F xs ds → ∀ (k : Nat) (x : Str) (d : D), xs[k]? = some x → ds[k]? = some d → ∃ u v, mg x = some u ∧ RelV v u ∧ ∀ p H, RD K F p H d v
  | [], _, h, k, x, d, e1, e2 => by simp at e1
  | _ :: _, [], h, k, x, d, e1, e2 => by simp at e2
  | y :: xs, d0 :: ds, h, 0, x, d, e1, e2 => by simp at e1 e2; subst e1; subst e2; exact h.1
  | y :: xs, d0 :: ds, h, k + 1, x, d, e1, e2 => GlNs.at h.2 k x d (by simpa using e1) (by simpa using e2)
def Alls (mg : Str → Option Value) : List Str → Prop
  | [] => True
  | x :: r => mg x = none ∧ Alls mg r
theorem Alls.at {mg : Str → Option Value} : ∀ {xs : List Str}, Alls mg xs → ∀ x ∈ xs, mg x = none
  | [], h, x, e => by simp at e
  | y :: r, h, x, e => by
    rcases List.mem_cons.mp e with z | z
    · subst z; exact h.1
    · exact Alls.at h.2 x z
theorem txt_mk {T : Tab} {P : Prog} {ts : List FT} {K : PySem.W.Frag} {mg : Str → Option Value} {F : Nat → Addr} (a : FunTs K F 0 P.fns ts) (b : FnNs K mg F 0 T.fnN) (c : GlNs K mg F T.glN P.glbs) (d : Alls mg biN) : Txt T P ts K mg F :=
  ⟨fun k f t e1 e2 => by have := a.at k f t e1 e2; rwa [Nat.zero_add] at this, fun k x e => by have := b.at k x e; rwa [Nat.zero_add] at this, c.at, d.at⟩
theorem cx_none {P : Program} {w : World} {H : Hp} {s : Shared} {e : Value} {s' : Shared} (z : L2.CX P w [] H s (fun _ _ _ => False) e s') : False := by
  obtain ⟨_, _, _, _, _, _, _, _, _, _, _, _, q⟩ := z
  exact q
theorem rds_ints {K : PySem.W.Frag} {F : Nat → Addr} {p : Addr → Prop} {H : Hp} : ∀ ns : List Int, RDs K F p H (ns.map D.int) (ns.map L2.V.int)
  | [] => rfl
  | n :: r => ⟨_, _, rfl, rfl, rds_ints r⟩
theorem lk_none {K : PySem.W.Frag} {F : Nat → Addr} {H : Hp} : Lk K F ⟨[], []⟩ [] H := ⟨rfl, fun i j a h => by simp at h, fun i a h => by simp at h, fun a h => by simp at h, fun n c h => by simp at h⟩
theorem end_walk {row : PySem.W.OpenLaw} {q : Program} {loose : List Str} {XP : (Str → Option Value) → Heap → Prop} {YP : World → Heap → Prop} {d : DefRec} {Kp : Params → PySem.W.Frag} {T : Tab} {Pr : Prog} {ts : List FT} {lev kL : Nat} {f : Fn} {t : FT} {x : Str}
    (hm : row.most = some 63) (hdf : d.params.defaults = []) (room : Room lev callerA) (oks : okFs T Pr.fns ts = true) (eF : Pr.fns[kL]? = some f) (eT : ts[kL]? = some t) (eP : t.ps = [x]) (eD : f.dfl = []) (eN : f.nPar = 1)
    (hY : ∀ (w : World) (h : Heap), YP w h → (Kp w.params).In h)
    (hT : ∀ (w : World) (mg : Str → Option Value) (h : Heap), (Kp w.params).In h → h.Ns mainGlobals mg → ∃ F, Txt T Pr ts (Kp w.params) mg F ∧ mg d.name = some (.ref (F kL)))
    (law : ∀ ns : List Int, ns.length ≤ 63 → ∃ h, runFn Pr lev kL [.d (.scr (ns.map D.int))] [] = .ok (.d (.bl true)) h) :
    PySem.W.WalkO q loose XP YP row.row.toRowW d [] (fun g vs => PySem.call g vs) := by
  refine Att.attach_call hm hdf fun w s₀ s₁ mg mb fa o pm cd doc a vs ns G Y ho hd hcd hmg hobj hints hlen hg => ?_
  obtain ⟨F, tx, hF⟩ := hT w mg _ (hY w _ Y) G.T.g
  rw [hmg] at hF
  cases hF
  obtain ⟨oc, od, dV, kV, dc, pm2, an, cdv, ct, osl, l1, l2, _, l3⟩ := (tx.fs kL f t eF eT).ex
  refine law_call (P := row.prog) (w := w) (K := Kp w.params) (mg := mg) (mb := mb) (CX := L2.CX row.prog w) (k := lev) (fd := PySem.W.fnOf t.x t.q (defArgs t.st) (defBody t.st) (defScope t.st) dV kV dc pm2 an cdv ct) (x := x) (sp := spI (Kp w.params) F F (fun _ => []) Pr lev kL f.nPar)
    (hY w _ Y) G.T.g G.T.b G.T.builtins G.T.nolimit hg hobj hints (Nat.le_trans hlen (by rw [sl_eq]; decide)) room (fun base kb nb => ?_) (fun s u => ?_) (fun H hO hS => ?_) (fun H e s' z => cx_none z)
  · have := all_fn (P := row.prog) (w := w) (base := base) (ea := F) (fl := fun _ => []) tx oks lev kL f t eF eT _ ⟨oc, od, dV, kV, dc, pm2, an, cdv, ct, osl, rfl, l1, l2⟩
    rwa [eP] at this
  · have := l3 eD s [u] (by rw [eP]; rfl)
    rwa [eP] at this
  · obtain ⟨h, e⟩ := law ns hlen
    refine ⟨⟨[], []⟩, [], [.d (.scr (ns.map D.int))], eN.symm, lk_none, .cons ⟨a, ns.map L2.V.int, rfl, ?_, rds_ints ns⟩ .nil, ?_⟩
    · rcases hS with (hS | hS) | hS
      · rcases hO a with z | ⟨o, xs, z⟩
        · rw [hS] at z; cases z
        · rw [hS] at z; cases z
      · exact .inl hS
      · exact .inr hS
    · rw [e]
      intro m1 H1 v st lk wr
      exact wr
end G

set_option linter.all false
set_option Elab.async false
set_option maxRecDepth 100000
set_option maxHeartbeats 1000000
namespace G
/-! ### plain steps -/
theorem run_ok {P : Prog} {n k : Nat} {f : Fn} {ws : List W} {h h1 : S} {w : W} (hf : P.fns[k]? = some f) (hl : ws.length = f.nPar)
    (e : exs ⟨runFn P n, fun k => P.glbs[k]?⟩ f.body (ws.map some ++ List.replicate (f.nLoc - f.nPar) none) h = .ok (.rt w) h1) : runFn P (n + 1) k ws h = leave h.length w h1 := by
  have hfill : fill f ws = ws := by unfold fill; rw [hl, Nat.sub_self, Nat.sub_zero, List.drop_length]; simp
  unfold runFn
  rw [hf]
  simp only []
  rw [hfill, if_pos hl, e]
theorem run_end {P : Prog} {n k : Nat} {f : Fn} {ws : List W} {h h1 : S} {σ : Lo} (hf : P.fns[k]? = some f) (hl : ws.length = f.nPar)
    (e : exs ⟨runFn P n, fun k => P.glbs[k]?⟩ f.body (ws.map some ++ List.replicate (f.nLoc - f.nPar) none) h = .ok (.nx σ) h1) : runFn P (n + 1) k ws h = leave h.length (.d .non) h1 := by
  have hfill : fill f ws = ws := by unfold fill; rw [hl, Nat.sub_self, Nat.sub_zero, List.drop_length]; simp
  unfold runFn
  rw [hf]
  simp only []
  rw [hfill, if_pos hl, e]
@[simp] theorem sweep_same (h : S) : sweep h.length h = h := by unfold sweep; rw [beq_self_eq_true]
theorem sweep_len {n : Nat} {h : S} (e : h.length = n) : sweep n h = h := by subst e; exact sweep_same h
theorem run_d {P : Prog} {n k : Nat} {f : Fn} {ws : List W} {h h1 : S} {x : D} (hf : P.fns[k]? = some f) (hl : ws.length = f.nPar)
    (e : exs ⟨runFn P n, fun k => P.glbs[k]?⟩ f.body (ws.map some ++ List.replicate (f.nLoc - f.nPar) none) h = .ok (.rt (.d x)) h1) (hh : h1.length = h.length) : runFn P (n + 1) k ws h = .ok (.d x) h1 := by
  rw [run_ok hf hl e]; show R.ok (W.d x) (sweep h.length h1) = _; rw [sweep_len hh]
/-! ### the text by its forms (loops stay folded) -/
section
variable (C : Calls) (σ : Lo) (h : S) (md : Bool)
/-- a turn of a for -/
def stepF (C : Calls) (tg : Tg) (b : Sts) (x : W) (σ : Lo) (h : S) : R Fl := (stg C tg x σ h).bind fun σ h => exs C b σ h
/-- a turn of a comprehension -/
def stepC (C : Calls) (own : List Nat) (tg : Tg) (e : Ex) (σ : Lo) (x : W) (h : S) : R (Option D) := (stg C tg x (wipe σ own) h).bind fun σ h => (ev C e false σ h).bind fun y h => (ofO h (asD y)).bind fun d h => .ok (some d) h
def stepT (C : Calls) (own : List Nat) (tg : Tg) (e t : Ex) (σ : Lo) (x : W) (h : S) : R (Option D) := (stg C tg x (wipe σ own) h).bind fun σ h => (ev C t true σ h).bind fun c h => match c with
    | .d (.bl true) => (ev C e false σ h).bind fun y h => (ofO h (asD y)).bind fun d h => .ok (some d) h
    | .d (.bl false) => .ok none h
    | _ => .bad
@[simp] theorem ev_var (i : Nat) : ev C (.var i) md σ h = (ofO h ((σ[i]?).bind id)).bind (asked md) := by unfold ev; rfl
@[simp] theorem ev_non : ev C .non md σ h = asked md (.d .non) h := by unfold ev; rfl
@[simp] theorem ev_bl (b : Bool) : ev C (.bl b) md σ h = asked md (.d (.bl b)) h := by unfold ev; rfl
@[simp] theorem ev_int (i : Int) : ev C (.int i) md σ h = asked md (.d (.int i)) h := by unfold ev; rfl
@[simp] theorem ev_str (i : List Nat) : ev C (.str i) md σ h = asked md (.d (.str i)) h := by unfold ev; rfl
@[simp] theorem ev_glb (k : Nat) : ev C (.glb k) md σ h = (ofO h (C.glb k)).bind fun x h => asked md (.d x) h := by unfold ev; rfl
@[simp] theorem ev_o1 (o : O1) (mt : Bool) (a : Ex) : ev C (.o1 o mt a) md σ h = ((ev C a false σ h).bind (runO1 o mt)).bind (asked md) := by (conv => lhs; unfold ev) <;> rfl
@[simp] theorem ev_o2 (o : O2) (mt : Bool) (a b : Ex) : ev C (.o2 o mt a b) md σ h = ((ev C a false σ h).bind fun x h => (ev C b false σ h).bind (runO2 o mt x)).bind (asked md) := by (conv => lhs; unfold ev) <;> rfl
@[simp] theorem ev_and1 (a : Ex) : ev C (.and1 a) md σ h = ev C a md σ h := by (conv => lhs; unfold ev) <;> rfl
@[simp] theorem ev_or1 (a : Ex) : ev C (.or1 a) md σ h = ev C a md σ h := by (conv => lhs; unfold ev) <;> rfl
def andK (C : Calls) (b : Ex) (md : Bool) (σ : Lo) (x : W) (h : S) : R W := match x with
    | .d (.bl true) => ev C b md σ h
    | .d (.bl false) => .ok (.d (.bl false)) h
    | _ => .bad
def orK (C : Calls) (b : Ex) (md : Bool) (σ : Lo) (x : W) (h : S) : R W := match x with
    | .d (.bl false) => ev C b md σ h
    | .d (.bl true) => .ok (.d (.bl true)) h
    | _ => .bad
def notK (x : W) (h : S) : R W := match x with
    | .d (.bl b) => .ok (.d (.bl (!b))) h
    | _ => .bad
def ifK {α : Type} (a b : S → R α) (x : W) (h : S) : R α := match x with
    | .d (.bl true) => a h
    | .d (.bl false) => b h
    | _ => .bad
@[simp] theorem andK_t (b : Ex) : andK C b md σ (.d (.bl true)) h = ev C b md σ h := rfl
@[simp] theorem andK_f (b : Ex) : andK C b md σ (.d (.bl false)) h = .ok (.d (.bl false)) h := rfl
@[simp] theorem orK_t (b : Ex) : orK C b md σ (.d (.bl true)) h = .ok (.d (.bl true)) h := rfl
@[simp] theorem orK_f (b : Ex) : orK C b md σ (.d (.bl false)) h = ev C b md σ h := rfl
@[simp] theorem notK_b (b : Bool) : notK (.d (.bl b)) h = .ok (.d (.bl (!b))) h := rfl
@[simp] theorem ifK_t {α : Type} (a b : S → R α) : ifK a b (.d (.bl true)) h = a h := rfl
@[simp] theorem ifK_f {α : Type} (a b : S → R α) : ifK a b (.d (.bl false)) h = b h := rfl
@[simp] theorem ev_andc (a b : Ex) : ev C (.andc a b) md σ h = (ev C a md σ h).bind (andK C b md σ) := by (conv => lhs; unfold ev) <;> rfl
@[simp] theorem ev_orc (a b : Ex) : ev C (.orc a b) md σ h = (ev C a md σ h).bind (orK C b md σ) := by (conv => lhs; unfold ev) <;> rfl
@[simp] theorem ev_not (a : Ex) : ev C (.not a) md σ h = (ev C a md σ h).bind notK := by (conv => lhs; unfold ev) <;> rfl
@[simp] theorem ev_ifx (t a b : Ex) : ev C (.ifx t a b) md σ h = (ev C t true σ h).bind (ifK (ev C a md σ) (ev C b md σ)) := by (conv => lhs; unfold ev) <;> rfl
/-- sizes are looked at behind a word, so that nothing unfolds them -/
def tupR (ds : List D) (h : S) : R W := if ds.length ≤ big then .ok (.d (.tup ds)) h else .bad
theorem tupR_ok {ds : List D} (hb : ds.length ≤ big) : tupR ds h = .ok (.d (.tup ds)) h := if_pos hb
theorem le_big {n : Nat} (h : n ≤ 1000) : n ≤ big := Nat.le_trans h (by decide)
@[simp] theorem tupR_s {ds : List D} (hb : ds.length ≤ 1000) : tupR ds h = .ok (.d (.tup ds)) h := if_pos (le_big hb)
def lstR (ws : List W) (h : S) : R W := if ws.length ≤ big then ((ofO h (allD ws)).bind fun ds h => .ok (.d (.lst ds)) h) else .bad
theorem lstR_ok {ws : List W} (hb : ws.length ≤ big) : lstR ws h = (ofO h (allD ws)).bind fun ds h => .ok (.d (.lst ds)) h := if_pos hb
@[simp] theorem lstR_s {ws : List W} (hb : ws.length ≤ 1000) : lstR ws h = (ofO h (allD ws)).bind fun ds h => .ok (.d (.lst ds)) h := if_pos (le_big hb)
def newR (ws : List W) (h : S) : R W := if ws.length ≤ big then putNew h (.lst false ws) else .bad
theorem newR_ok {ws : List W} (hb : ws.length ≤ big) : newR ws h = putNew h (.lst false ws) := if_pos hb
@[simp] theorem newR_s {ws : List W} (hb : ws.length ≤ 1000) : newR ws h = putNew h (.lst false ws) := if_pos (le_big hb)
def rgR (i : Int) (h : S) : R (List W × List Nat) := if small62 i then .ok (rngOf 0 i, []) h else .bad
theorem rgR_ok {i : Int} (hb : small62 i = true) : rgR i h = .ok (rngOf 0 i, []) h := if_pos hb
def rgR2 (i j : Int) (h : S) : R (List W × List Nat) := if small62 i && small62 j then .ok (rngOf i j, []) h else .bad
theorem rgR2_ok {i j : Int} (hi : small62 i = true) (hj : small62 j = true) : rgR2 i j h = .ok (rngOf i j, []) h := if_pos (by rw [hi, hj]; rfl)
def appR (n : Nat) (xs : List W) (y : W) (h : S) : R W := if xs.length < big then .ok (.d .non) (h.set n (.lst false (xs ++ [y]))) else .bad
theorem appR_ok {n : Nat} {xs : List W} {y : W} (hb : xs.length < big) : appR n xs y h = .ok (.d .non) (h.set n (.lst false (xs ++ [y]))) := if_pos hb
def cmpR (mt : Bool) (ds : List D) (h : S) : R W := if ds.length ≤ big then fin mt true (.lst ds) h else .bad
theorem cmpR_ok {mt : Bool} {ds : List D} (hb : ds.length ≤ big) : cmpR mt ds h = fin mt true (.lst ds) h := if_pos hb
def unpR (C : Calls) (ts : Tgs) (xs : List D) (σ : Lo) (h : S) : R Lo := if xs.length = lenT ts then stgs C ts (xs.map W.d) σ h else .bad
@[simp] theorem unpR_ok {ts : Tgs} {xs : List D} (hb : xs.length = lenT ts) : unpR C ts xs σ h = stgs C ts (xs.map W.d) σ h := if_pos hb
@[simp] theorem ev_tup (es : Exs) : ev C (.tup es) md σ h = ((evs C es σ h).bind fun ws h => (ofO h (allD ws)).bind tupR).bind (asked md) := by (conv => lhs; unfold ev) <;> rfl
@[simp] theorem ev_lstf (es : Exs) : ev C (.lst false es) md σ h = ((evs C es σ h).bind lstR).bind (asked md) := by (conv => lhs; unfold ev) <;> rfl
@[simp] theorem ev_lstt (es : Exs) : ev C (.lst true es) md σ h = ((evs C es σ h).bind newR).bind (asked md) := by (conv => lhs; unfold ev) <;> rfl
@[simp] theorem ev_slc (mt : Bool) (a : Ex) (lo hi : Oe) : ev C (.slc mt a lo hi) md σ h = ((ev C a false σ h).bind fun x h => (evo C lo σ h).bind fun l h => (evo C hi σ h).bind fun u h =>
      (ofO h (vw h x)).bind fun y h => (ofO h (opS y l u)).bind fun z h => fin mt (newS y) z h).bind (asked md) := by (conv => lhs; unfold ev) <;> rfl
@[simp] theorem ev_call (k : Nat) (es : Exs) : ev C (.call k es) md σ h = ((evs C es σ h).bind (C.fn k)).bind (asked md) := by (conv => lhs; unfold ev) <;> rfl
/-- the list of a comprehension -/
def outC (mt : Bool) (ns : List Nat) (r : R (List D)) : R W := openR ns (r.bind (cmpR mt))
@[simp] theorem ev_comp (mt : Bool) (own : List Nat) (e : Ex) (tg : Tg) (it : It) : ev C (.comp mt own e tg it) md σ h = ((evit C it σ h).bind fun (p : List W × List Nat) h => outC mt p.2 (compGo (stepC C own tg e σ) p.1 (lockAll h p.2))).bind (asked md) := by (conv => lhs; unfold ev) <;> rfl
@[simp] theorem ev_compc (mt : Bool) (own : List Nat) (e t : Ex) (tg : Tg) (it : It) : ev C (.compc mt own e tg it t) md σ h = ((evit C it σ h).bind fun (p : List W × List Nat) h => outC mt p.2 (compGo (stepT C own tg e t σ) p.1 (lockAll h p.2))).bind (asked md) := by (conv => lhs; unfold ev) <;> rfl
@[simp] theorem ev_app (a b : Ex) : ev C (.app a b) md σ h = ((ev C a false σ h).bind fun x h => (ofO h (getLW h x)).bind fun _ h => (ev C b false σ h).bind fun y h => match x with
    | .ref n => (ofO h (getM h n)).bind fun xs h => appR n xs y h
    | _ => .bad).bind (asked md) := by (conv => lhs; unfold ev) <;> rfl
@[simp] theorem ev_pop (a : Ex) : ev C (.pop a) md σ h = ((ev C a false σ h).bind fun x h => match x with
    | .ref n => (ofO h (getM h n)).bind fun xs h => match xs.getLast? with
      | some y => .ok y (h.set n (.lst false xs.dropLast))
      | none => .bad
    | _ => .bad).bind (asked md) := by (conv => lhs; unfold ev) <;> rfl
@[simp] theorem ev_frz (a : Ex) : ev C (.frz a) false σ h = (ev C a false σ h).bind fun x h => match x with
      | .ref n => (ofO h (getM h n)).bind fun xs h => (ofO h (allD xs)).bind fun ds h => .ok (.d (.lst ds)) (h.set n .dead)
      | _ => .bad := by (conv => lhs; unfold ev) <;> rfl
@[simp] theorem evs_nil : evs C .nil σ h = .ok [] h := by unfold evs; rfl
@[simp] theorem evs_cons (a : Ex) (r : Exs) : evs C (.cons a r) σ h = (ev C a false σ h).bind fun x h => (evs C r σ h).bind fun xs h => .ok (x :: xs) h := by (conv => lhs; unfold evs) <;> rfl
@[simp] theorem evo_no : evo C .no σ h = .ok none h := by unfold evo; rfl
@[simp] theorem evo_yes (a : Ex) : evo C (.yes a) σ h = (ev C a false σ h).bind fun x h => (ofO h (intW x)).bind fun i h => .ok (some i) h := by (conv => lhs; unfold evo) <;> rfl
@[simp] theorem evit_seq (a : Ex) : evit C (.seq a) σ h = (ev C a false σ h).bind fun x h => (ofO h (itemsOf h x)).bind fun xs h => .ok (xs, isOpen h x) h := by (conv => lhs; unfold evit) <;> rfl
@[simp] theorem evit_rng1 (a : Ex) : evit C (.rng1 a) σ h = (ev C a false σ h).bind fun x h => (ofO h (intW x)).bind rgR := by (conv => lhs; unfold evit) <;> rfl
@[simp] theorem evit_rng2 (a b : Ex) : evit C (.rng2 a b) σ h = (ev C a false σ h).bind fun x h => (ev C b false σ h).bind fun y h => (ofO h (intW x)).bind fun i h => (ofO h (intW y)).bind fun j h => rgR2 i j h := by (conv => lhs; unfold evit) <;> rfl
@[simp] theorem evit_enu (a : Ex) : evit C (.enu a) σ h = (ev C a false σ h).bind fun x h => (ofO h (seqV h x)).bind fun xs h => .ok (enumOf 0 xs, isOpen h x) h := by (conv => lhs; unfold evit) <;> rfl
@[simp] theorem evit_zip (a b : Ex) : evit C (.zip a b) σ h = (ev C a false σ h).bind fun x h => (ev C b false σ h).bind fun y h => (ofO h (seqV h x)).bind fun xs h => (ofO h (seqV h y)).bind fun ys h =>
      .ok ((zipOf xs ys).map W.d, isOpen h x ++ isOpen h y) h := by (conv => lhs; unfold evit) <;> rfl
@[simp] theorem evit_enz (a b : Ex) : evit C (.enz a b) σ h = (ev C a false σ h).bind fun x h => (ev C b false σ h).bind fun y h => (ofO h (seqV h x)).bind fun xs h => (ofO h (seqV h y)).bind fun ys h =>
      .ok (enumOf 0 (zipOf xs ys), isOpen h x ++ isOpen h y) h := by (conv => lhs; unfold evit) <;> rfl
@[simp] theorem stg_nm (i : Nat) (w : W) : stg C (.nm i) w σ h = .ok (σ.set i (some w)) h := by unfold stg; rfl
@[simp] theorem stg_tup (ts : Tgs) (xs : List D) : stg C (.tp ts) (.d (.tup xs)) σ h = unpR C ts xs σ h := by (conv => lhs; unfold stg) <;> rfl
@[simp] theorem stg_lst (ts : Tgs) (xs : List D) : stg C (.tp ts) (.d (.lst xs)) σ h = unpR C ts xs σ h := by (conv => lhs; unfold stg) <;> rfl
@[simp] theorem stg_sub (a i : Ex) (w : W) : stg C (.sub a i) w σ h = (ev C a false σ h).bind fun x h => (ev C i false σ h).bind fun y h => match x with
    | .ref n => (ofO h (intW y)).bind fun k h => (ofO h (getM h n)).bind fun xs h => (ofO h (ixZ xs.length k)).bind fun j h =>
        .ok σ (h.set n (.lst false (xs.set j w)))
    | _ => .bad := by (conv => lhs; unfold stg) <;> rfl
@[simp] theorem stgs_nil : stgs C .nil [] σ h = .ok σ h := by unfold stgs; rfl
@[simp] theorem stgs_cons (t : Tg) (r : Tgs) (w : W) (ws : List W) : stgs C (.cons t r) (w :: ws) σ h = (stg C t w σ h).bind fun σ h => stgs C r ws σ h := by (conv => lhs; unfold stgs) <;> rfl
def seqK (C : Calls) (r : Sts) (f : Fl) (h : S) : R Fl := match f with
    | .nx σ => exs C r σ h
    | f => .ok f h
@[simp] theorem seqK_nx (r : Sts) : seqK C r (.nx σ) h = exs C r σ h := rfl
@[simp] theorem seqK_rt (r : Sts) (w : W) : seqK C r (.rt w) h = .ok (.rt w) h := rfl
@[simp] theorem seqK_bk (r : Sts) : seqK C r (.bk σ) h = .ok (.bk σ) h := rfl
@[simp] theorem seqK_ct (r : Sts) : seqK C r (.ct σ) h = .ok (.ct σ) h := rfl
@[simp] theorem exs_nil : exs C .nil σ h = .ok (.nx σ) h := by unfold exs; rfl
@[simp] theorem exs_cons (s : St) (r : Sts) : exs C (.cons s r) σ h = (ex C s σ h).bind (seqK C r) := by (conv => lhs; unfold exs) <;> rfl
@[simp] theorem ex_asg (tg : Tg) (e : Ex) : ex C (.asg tg e) σ h = (ev C e false σ h).bind fun w h => (stg C tg w σ h).bind fun σ h => .ok (.nx σ) h := by (conv => lhs; unfold ex) <;> rfl
@[simp] theorem ex_lcs (i : Nat) (e : Ex) : ex C (.lcs i e) σ h = (ev C e false σ h).bind fun w h => .ok (.nx (σ.set i (some w))) h := by (conv => lhs; unfold ex) <;> rfl
@[simp] theorem ex_par (i j : Nat) (a b : Ex) : ex C (.par i j a b) σ h = (ev C a false σ h).bind fun x h => (ev C b false σ h).bind fun y h => .ok (.nx ((σ.set i (some x)).set j (some y))) h := by (conv => lhs; unfold ex) <;> rfl
@[simp] theorem ex_aug (i : Nat) (e : Ex) : ex C (.aug i e) σ h = (ofO h ((σ[i]?).bind id)).bind fun x h => (ev C e false σ h).bind fun y h => (ofO h (addI x y)).bind fun z h => .ok (.nx (σ.set i (some z))) h := by (conv => lhs; unfold ex) <;> rfl
@[simp] theorem ex_augS (a i e : Ex) : ex C (.augS a i e) σ h = (ev C a false σ h).bind fun x h => (ev C i false σ h).bind fun k h => match x with
      | .ref n => (ofO h (intW k)).bind fun k h => (ofO h (getL h n)).bind fun xs h => (ofO h (atZ xs k)).bind fun old h => (ev C e false σ h).bind fun y h => (ofO h (addI old y)).bind fun z h =>
        (ofO h (getM h n)).bind fun xs h => (ofO h (ixZ xs.length k)).bind fun j h => .ok (.nx σ) (h.set n (.lst false (xs.set j z)))
      | _ => .bad := by (conv => lhs; unfold ex) <;> rfl
@[simp] theorem ex_ifs (t : Ex) (a b : Sts) : ex C (.ifs t a b) σ h = (ev C t true σ h).bind (ifK (exs C a σ) (exs C b σ)) := by (conv => lhs; unfold ex) <;> rfl
@[simp] theorem ex_for (tg : Tg) (it : It) (b : Sts) : ex C (.for tg it b) σ h = (evit C it σ h).bind fun (p : List W × List Nat) h => openR p.2 (forGo (stepF C tg b) p.1 σ (lockAll h p.2)) := by (conv => lhs; unfold ex) <;> rfl
@[simp] theorem ex_whl (n : Nat) (t : Ex) (b : Sts) : ex C (.whl n t b) σ h = whlGo (ev C t true) (exs C b) n σ h := by (conv => lhs; unfold ex) <;> rfl
@[simp] theorem ex_ret (e : Ex) : ex C (.ret e) σ h = (ev C e false σ h).bind fun w h => .ok (.rt w) h := by (conv => lhs; unfold ex) <;> rfl
@[simp] theorem ex_retN : ex C .retN σ h = .ok (.rt (.d .non)) h := by unfold ex; rfl
@[simp] theorem ex_brk : ex C .brk σ h = .ok (.bk σ) h := by unfold ex; rfl
@[simp] theorem ex_cnt : ex C .cnt σ h = .ok (.ct σ) h := by unfold ex; rfl
@[simp] theorem ex_pass : ex C .pass σ h = .ok (.nx σ) h := by unfold ex; rfl
@[simp] theorem ex_expr (e : Ex) : ex C (.expr e) σ h = (ev C e false σ h).bind fun _ h => .ok (.nx σ) h := by (conv => lhs; unfold ex) <;> rfl
@[simp] theorem asked_ff (w : W) : asked false w h = .ok w h := rfl
@[simp] theorem asked_b (b : Bool) : asked true (.d (.bl b)) h = .ok (.d (.bl b)) h := rfl
@[simp] theorem run1_d (o : O1) (mt : Bool) (x : D) : runO1 o mt (.d x) h = (ofO h (op1 o x)).bind fun z h => fin mt (new1 o) z h := rfl
@[simp] theorem run2_d (o : O2) (mt : Bool) (x y : D) : runO2 o mt (.d x) (.d y) h = (ofO h (op2 o x y)).bind fun z h => fin mt (new2 o x) z h := by cases o <;> rfl
@[simp] theorem run2_ix (mt : Bool) (n : Nat) (i : Int) : runO2 .ix mt (.ref n) (.d (.int i)) h = (ofO h (getL h n)).bind fun xs h => ofO h (atZ xs i) := rfl
@[simp] theorem vw_d (x : D) : vw h (.d x) = some x := rfl
@[simp] theorem items_t (xs : List D) : itemsOf h (.d (.tup xs)) = some (xs.map W.d) := rfl
@[simp] theorem items_l (xs : List D) : itemsOf h (.d (.lst xs)) = some (xs.map W.d) := rfl
@[simp] theorem open_d (x : D) : isOpen h (.d x) = [] := rfl
@[simp] theorem lock_0 : lockAll h [] = h := rfl
@[simp] theorem openR_0 {α : Type} (r : R α) : openR [] r = r := by cases r <;> rfl
@[simp] theorem intW_i (i : Int) : intW (.d (.int i)) = some i := rfl
@[simp] theorem asD_d (x : D) : asD (.d x) = some x := rfl
@[simp] theorem fin_f (b : Bool) (x : D) : fin false b x h = .ok (.d x) h := rfl
@[simp] theorem fin_t (xs : List D) : fin true true (.lst xs) h = putNew h (.lst false (xs.map W.d)) := rfl
end
theorem atZ_nn {α : Type} {xs : List α} {i : Int} (h0 : 0 ≤ i) : atZ xs i = xs[i.toNat]? := by unfold atZ; rw [if_pos h0]
/-! ### operations by their forms -/
section
variable (i j : Int) (xs ys : List D)
@[simp] theorem q_lenl : op1 .len (.lst xs) = some (.int xs.length) := rfl
@[simp] theorem q_lent : op1 .len (.tup xs) = some (.int xs.length) := rfl
@[simp] theorem q_int1 : op1 .int1 (.int i) = some (.int i) := rfl
@[simp] theorem q_neg : op1 .neg (.int i) = some (.int (-i)) := rfl
@[simp] theorem q_tutl : op1 .toTup (.lst xs) = some (.tup xs) := rfl
@[simp] theorem q_tutt : op1 .toTup (.tup xs) = some (.tup xs) := rfl
@[simp] theorem q_addi : op2 .add (.int i) (.int j) = some (.int (i + j)) := rfl
@[simp] theorem q_subi : op2 .sub (.int i) (.int j) = some (.int (i - j)) := rfl
@[simp] theorem q_lti : op2 .lt (.int i) (.int j) = some (.bl (decide (i < j))) := rfl
@[simp] theorem q_lei : op2 .le (.int i) (.int j) = some (.bl (decide (i ≤ j))) := rfl
@[simp] theorem q_gti : op2 .gt (.int i) (.int j) = some (.bl (decide (j < i))) := rfl
@[simp] theorem q_gei : op2 .ge (.int i) (.int j) = some (.bl (decide (j ≤ i))) := rfl
@[simp] theorem q_maxi : op2 .max2 (.int i) (.int j) = some (.int (if j > i then j else i)) := rfl
@[simp] theorem q_mini : op2 .min2 (.int i) (.int j) = some (.int (if j < i then j else i)) := rfl
@[simp] theorem q_ixt : op2 .ix (.tup xs) (.int i) = atZ xs i := rfl
@[simp] theorem q_ixl : op2 .ix (.lst xs) (.int i) = atZ xs i := rfl
@[simp] theorem q_eqi : op2 .eq (.int i) (.int j) = some (.bl (i == j)) := by
  show (if ((flat (.int i) && flat (.int j)) || (deep 40 (.int i) && deep 40 (.int j))) = true then some (D.bl (eqd (.int i) (.int j))) else none) = _
  rw [if_pos (by simp [flat])]; simp [eqd]
@[simp] theorem q_nei : op2 .ne (.int i) (.int j) = some (.bl (!(i == j))) := by
  show (if ((flat (.int i) && flat (.int j)) || (deep 40 (.int i) && deep 40 (.int j))) = true then some (D.bl (!eqd (.int i) (.int j))) else none) = _
  rw [if_pos (by simp [flat])]; simp [eqd]
@[simp] theorem q_eqb (a b : Bool) : op2 .eq (.bl a) (.bl b) = some (.bl (a == b)) := by
  show (if ((flat (.bl a) && flat (.bl b)) || (deep 40 (.bl a) && deep 40 (.bl b))) = true then some (D.bl (eqd (.bl a) (.bl b))) else none) = _
  rw [if_pos (by simp [flat])]; simp [eqd]
@[simp] theorem q_eqs (a b : List Nat) : op2 .eq (.str a) (.str b) = some (.bl (a == b)) := by
  show (if ((flat (.str a) && flat (.str b)) || (deep 40 (.str a) && deep 40 (.str b))) = true then some (D.bl (eqd (.str a) (.str b))) else none) = _
  rw [if_pos (by simp [flat])]; simp [eqd]
theorem q_eqf {x y : D} (hx : flat x = true) (hy : flat y = true) : op2 .eq x y = some (.bl (eqd x y)) := by
  cases x <;> first | (cases hx; done) | (cases y <;> first | (cases hy; done) | simp [op2, flat])
theorem q_mul1 (h : i.natAbs < big64) : op2 .mul (.int i) (.int j) = some (.int (i * j)) := by
  show (if (i.natAbs < big64 || j.natAbs < big64) = true then some (D.int (i * j)) else none) = _
  rw [if_pos]; simp [h]
theorem q_mul2 (h : j.natAbs < big64) : op2 .mul (.int i) (.int j) = some (.int (i * j)) := by
  show (if (i.natAbs < big64 || j.natAbs < big64) = true then some (D.int (i * j)) else none) = _
  rw [if_pos]; simp [h]
theorem q_fdiv (h : j ≠ 0) (h2 : j.natAbs < 1073741824) : op2 .fdiv (.int i) (.int j) = some (.int (i.fdiv j)) := by
  show (if (j != 0 && j.natAbs < 1073741824) = true then some (D.int (i.fdiv j)) else none) = _
  rw [if_pos]; simp [h, h2]
theorem q_cat (h : xs.length + ys.length ≤ big) : op2 .add (.lst xs) (.lst ys) = some (.lst (xs ++ ys)) := if_pos h
theorem q_catT (h : xs.length + ys.length ≤ big) : op2 .add (.tup xs) (.tup ys) = some (.tup (xs ++ ys)) := if_pos h
theorem q_repL (x : D) {k : Int} (h1 : 0 ≤ k) (h2 : k ≤ 1000) : op2 .mul (.lst [x]) (.int k) = some (.lst (List.replicate k.toNat x)) := by
  show (if (0 ≤ k && k ≤ 1000 && [x].length ≤ 1000) = true then some (D.lst (List.replicate k.toNat [x]).flatten) else none) = _
  rw [if_pos (by simp [h1, h2])]
  congr 2
  induction k.toNat with
  | zero => rfl
  | succ n ih => rw [List.replicate_succ, List.replicate_succ, List.flatten_cons, ih]; rfl
theorem q_repT (x : D) {k : Int} (h1 : 1 ≤ k) (h2 : k ≤ 1000) : op2 .mul (.tup [x]) (.int k) = some (.tup (List.replicate k.toNat x)) := by
  show (if (1 ≤ k && k ≤ 1000 && [x].length ≤ 1000 && !([x] : List D).isEmpty) = true then some (D.tup (List.replicate k.toNat [x]).flatten) else none) = _
  rw [if_pos (by simp [h1, h2])]
  congr 2
  induction k.toNat with
  | zero => rfl
  | succ n ih => rw [List.replicate_succ, List.replicate_succ, List.flatten_cons, ih]; rfl
theorem intsOf_map : ∀ ns : List Int, intsOf (ns.map D.int) = some ns
  | [] => rfl
  | n :: r => by show (intsOf (r.map D.int)).map (n :: ·) = _; rw [intsOf_map r]; rfl
theorem q_sumL (ns : List Int) : op1 .sum (.lst (ns.map D.int)) = some (.int ns.sum) := by show (intsOf (ns.map D.int)).map _ = _; rw [intsOf_map]; rfl
theorem q_sumT (ns : List Int) : op1 .sum (.tup (ns.map D.int)) = some (.int ns.sum) := by show (intsOf (ns.map D.int)).map _ = _; rw [intsOf_map]; rfl
theorem blsOf_map : ∀ ns : List Bool, blsOf (ns.map D.bl) = some ns
  | [] => rfl
  | n :: r => by show (blsOf (r.map D.bl)).map (n :: ·) = _; rw [blsOf_map r]; rfl
theorem q_allL (ns : List Bool) : op1 .all (.lst (ns.map D.bl)) = some (.bl (ns.all id)) := by show (blsOf (ns.map D.bl)).map _ = _; rw [blsOf_map]; rfl
theorem q_anyL (ns : List Bool) : op1 .any (.lst (ns.map D.bl)) = some (.bl (ns.any id)) := by show (blsOf (ns.map D.bl)).map _ = _; rw [blsOf_map]; rfl
end
theorem mod_lit {a b : Int} (h : b ≠ 0) : op2 .mod (.int a) (.int b) = some (.int (a.fmod b)) := by
  show (if (b != 0) = true then some (D.int (a.fmod b)) else none) = _
  rw [if_pos]; simp [h]
theorem fmod_lt {a b : Int} (h : 0 < b) : 0 ≤ a.fmod b ∧ a.fmod b < b := ⟨Int.fmod_nonneg_of_pos a h, Int.fmod_lt_of_pos a h⟩
def bDraw : Fn := ⟨3, 4, [],
    (.cons (.ifs (.o2 .lt false (.var 1) (.o1 .len false (.var 0)))
    (.cons (.ret (.o2 .mod false (.o1 .int1 false (.o2 .ix false (.var 0) (.var 1))) (.var 2)))
    .nil)
    .nil)
    (.cons (.asg (.nm 3) (.o2 .mod false (.o1 .int1 false (.o2 .add false (.o2 .add false (.o2 .mul false (.o2 .ix false (.var 0) (.o2 .mod false (.o1 .int1 false (.var 1)) (.o1 .len false (.var 0)))) (.int 40692)) (.o2 .mul false (.var 1) (.int 7919))) (.int 3))) (.int 2147483399)))
    (.cons (.ret (.o2 .mod false (.o1 .int1 false (.o2 .mod false (.o1 .int1 false (.o2 .add false (.o2 .mul false (.var 3) (.int 48271)) (.var 1))) (.int 2147483647))) (.var 2)))
    .nil)))⟩
theorem get_ints {row : List Int} {i : Nat} (h : i < row.length) : (row.map D.int)[i]? = some (.int row[i]) := by simp [h]
theorem draw_spec {P : Prog} {n k : Nat} (hf : P.fns[k]? = some bDraw) {row : List Int} (hr : row ≠ []) {at_ lim : Int} (h0 : 0 ≤ at_) (hl : 0 < lim) (h : S) :
    ∃ v, 0 ≤ v ∧ v < lim ∧ runFn P (n + 1) k [.d (.lst (row.map .int)), .d (.int at_), .d (.int lim)] h = .ok (.d (.int v)) h := by
  have hrl : 0 < row.length := by cases row with | nil => exact absurd rfl hr | cons _ _ => simp
  by_cases c : at_ < row.length
  · refine ⟨(row[at_.toNat]'(by omega)).fmod lim, (fmod_lt hl).1, (fmod_lt hl).2, ?_⟩
    refine run_d hf rfl ?_ rfl
    · have e1 : atZ (row.map D.int) at_ = some (.int (row[at_.toNat]'(by omega))) := by rw [atZ_nn h0]; exact get_ints (by omega)
      have ne2 : ¬ lim = 0 := by omega
      simp [bDraw, op1, c, e1, new1, new2, ne2, mod_lit]
  · have i1 : (at_.fmod row.length).toNat < row.length := by
      have := fmod_lt (a := at_) (b := row.length) (by omega)
      omega
    refine ⟨(((((row[(at_.fmod row.length).toNat]'i1) * 40692 + at_ * 7919 + 3).fmod 2147483399) * 48271 + at_).fmod 2147483647).fmod lim, (fmod_lt hl).1, (fmod_lt hl).2, run_d hf rfl ?_ rfl⟩
    have e1 : atZ (row.map D.int) (at_.fmod row.length) = some (.int (row[(at_.fmod row.length).toNat]'i1)) := by
      rw [atZ_nn (fmod_lt (by omega)).1]; exact get_ints i1
    have ne2 : ¬ lim = 0 := by omega
    simp [bDraw, op1, c, e1, new1, new2, hr, ne2, mod_lit, q_mul2 _ (j := 40692) (by decide), q_mul2 _ (j := 7919) (by decide), q_mul2 _ (j := 48271) (by decide)]
end G

set_option linter.all false
set_option Elab.async false
set_option maxRecDepth 100000
set_option maxHeartbeats 1000000
namespace G
/-- the count of draws stands first -/
abbrev spt (s : Int) (t : S) : S := .lst false [.d (.int s)] :: t
def bTake (kd : Nat) : Fn := ⟨3, 3, [],
    (.cons (.asg (.sub (.var 1) (.int 0)) (.o2 .add false (.o2 .ix false (.var 1) (.int 0)) (.int 1)))
    (.cons (.ret (.call kd (.cons (.var 0) (.cons (.o2 .sub false (.o2 .ix false (.var 1) (.int 0)) (.int 1)) (.cons (.var 2) .nil)))))
    .nil))⟩
/-- the defs that draw, as they stand in a program -/
structure Drw (P : Prog) (kd kt : Nat) : Prop where
  d : P.fns[kd]? = some bDraw
  t : P.fns[kt]? = some (bTake kd)
theorem take_spec {P : Prog} {n kd kt : Nat} (hP : Drw P kd kt) {row : List Int} (hr : row ≠ []) {s lim : Int} (h0 : 0 ≤ s) (hl : 0 < lim) (t : S) :
    ∃ v, 0 ≤ v ∧ v < lim ∧ runFn P (n + 2) kt [.d (.lst (row.map .int)), .ref 0, .d (.int lim)] (spt s t) = .ok (.d (.int v)) (spt (s + 1) t) := by
  obtain ⟨v, v0, v1, e⟩ := draw_spec (n := n) hP.d hr h0 hl (spt (s + 1) t)
  refine ⟨v, v0, v1, run_d hP.t rfl ?_ rfl⟩
  simp [bTake, op1, new1, new2, getL, getM, atZ, intW, ixZ, e]
def bPick (kt : Nat) : Fn := ⟨3, 3, [],
    (.cons (.ret (.o2 .ix false (.var 2) (.call kt (.cons (.var 0) (.cons (.var 1) (.cons (.o1 .len false (.var 2)) .nil))))))
    .nil)⟩
theorem pick_spec {P : Prog} {n kd kt kp : Nat} (hP : Drw P kd kt) (hp : P.fns[kp]? = some (bPick kt)) {row : List Int} (hr : row ≠ []) {s : Int} (h0 : 0 ≤ s) {xs : List D} (hx : xs ≠ []) (t : S) :
    ∃ x ∈ xs, runFn P (n + 3) kp [.d (.lst (row.map .int)), .ref 0, .d (.lst xs)] (spt s t) = .ok (.d x) (spt (s + 1) t) := by
  have hl : 0 < xs.length := by cases xs with | nil => exact absurd rfl hx | cons _ _ => simp
  obtain ⟨v, v0, v1, e⟩ := take_spec (n := n) hP hr (lim := xs.length) h0 (by omega) t
  have iv : v.toNat < xs.length := by omega
  refine ⟨xs[v.toNat], List.getElem_mem _, run_d hp rfl ?_ rfl⟩
  have e1 : atZ xs v = some (xs[v.toNat]) := by rw [atZ_nn v0]; simp [iv]
  simp [bPick, op1, new1, new2, e, e1]
def bWide (kt : Nat) : Fn := ⟨3, 6, [],
    (.cons (.asg (.nm 3) (.call kt (.cons (.var 0) (.cons (.var 1) (.cons (.int 997) .nil)))))
    (.cons (.asg (.nm 4) (.call kt (.cons (.var 0) (.cons (.var 1) (.cons (.int 997) .nil)))))
    (.cons (.asg (.nm 5) (.call kt (.cons (.var 0) (.cons (.var 1) (.cons (.int 997) .nil)))))
    (.cons (.ret (.o2 .mod false (.o1 .int1 false (.o2 .add false (.o2 .add false (.o2 .mul false (.var 3) (.int 994009)) (.o2 .mul false (.var 4) (.int 997))) (.var 5))) (.var 2)))
    .nil))))⟩
theorem wide_spec {P : Prog} {n kd kt kw : Nat} (hP : Drw P kd kt) (hw : P.fns[kw]? = some (bWide kt)) {row : List Int} (hr : row ≠ []) {s lim : Int} (h0 : 0 ≤ s) (hl : 0 < lim) (t : S) :
    ∃ v, 0 ≤ v ∧ v < lim ∧ runFn P (n + 3) kw [.d (.lst (row.map .int)), .ref 0, .d (.int lim)] (spt s t) = .ok (.d (.int v)) (spt (s + 1 + 1 + 1) t) := by
  obtain ⟨a, a0, a1, ea⟩ := take_spec (n := n) hP hr (lim := 997) h0 (by omega) t
  obtain ⟨b, b0, b1, eb⟩ := take_spec (n := n) hP hr (s := s + 1) (lim := 997) (by omega) (by omega) t
  obtain ⟨c, c0, c1, ec⟩ := take_spec (n := n) hP hr (s := s + 1 + 1) (lim := 997) (by omega) (by omega) t
  refine ⟨(a * 994009 + b * 997 + c).fmod lim, (fmod_lt hl).1, (fmod_lt hl).2, run_d hw rfl ?_ rfl⟩
  have ne2 : ¬ lim = 0 := by omega
  simp [bWide, op1, new1, new2, ea, eb, ec, ne2, mod_lit, q_mul2 _ (j := 994009) (by decide), q_mul2 _ (j := 997) (by decide)]
/-! ### what is handed: as it is, or its tuples as lists -/
mutual
def lsd : D → D
  | .tup xs => .lst (lsds xs)
  | d => d
def lsds : List D → List D
  | [] => []
  | x :: r => lsd x :: lsds r
end
theorem lsds_map : ∀ xs : List D, lsds xs = xs.map lsd
  | [] => rfl
  | x :: r => by unfold lsds; rw [lsds_map r]; rfl
-- tuples within tuples, at most n deep; nothing that is told apart by its place
mutual
def dpt : Nat → D → Bool
  | _, .fn _ => false
  | _, .scr _ => false
  | 0, .tup _ => false
  | n + 1, .tup xs => decide (xs.length ≤ big) && dpts n xs
  | _, .lst xs => true
  | _, _ => true
def dpts : Nat → List D → Bool
  | _, [] => true
  | n, x :: r => dpt n x && dpts n r
end
theorem dpts_at : ∀ {n : Nat} {xs : List D}, dpts n xs = true → ∀ x ∈ xs, dpt n x = true
  | n, [], _, x, hx => by simp at hx
  | n, y :: r, h, x, hx => by
    unfold dpts at h
    obtain ⟨a, b⟩ := Bool.and_eq_true_iff.mp h
    rcases List.mem_cons.mp hx with z | z
    · subst z; exact a
    · exact dpts_at b x z
def bListed (k : Nat) : Fn := ⟨1, 2, [],
    (.cons (.ifs (.o1 (.isk [.tup]) false (.var 0))
    (.cons (.ret (.comp false [1] (.call k (.cons (.var 1) .nil)) (.nm 1) (.seq (.var 0))))
    .nil)
    .nil)
    (.cons (.ret (.var 0))
    .nil))⟩
theorem compGo_map {step : W → S → R (Option D)} {f : D → D} {h : S} : ∀ (xs : List D), (∀ x ∈ xs, step (.d x) h = .ok (some (f x)) h) → compGo step (xs.map W.d) h = .ok (xs.map f) h
  | [], _ => rfl
  | x :: r, k => by
    show compGo step (W.d x :: r.map W.d) h = _
    unfold compGo
    rw [k x (List.mem_cons_self ..)]
    show ((compGo step (r.map W.d) h).bind _) = _
    rw [compGo_map r fun y hy => k y (List.mem_cons_of_mem _ hy)]
    rfl
theorem listed_spec {P : Prog} {k : Nat} (hk : P.fns[k]? = some (bListed k)) : ∀ (n m : Nat) (x : D), dpt n x = true → ∀ h : S, runFn P (m + n + 1) k [.d x] h = .ok (.d (lsd x)) h
  | n, m, .tup xs, hd, h => by
    cases n with
    | zero => cases hd
    | succ n =>
      unfold dpt at hd
      obtain ⟨h1, h2⟩ := Bool.and_eq_true_iff.mp hd
      have hb : xs.length ≤ big := of_decide_eq_true h1
      refine run_d hk rfl ?_ rfl
      simp [bListed, op1, notFn, isTy, itemsOf, isOpen, new1, lockAll]
      rw [compGo_map (f := lsd) xs fun x hx => by
        simp [stepC, wipe, asD]
        rw [show m + (n + 1) = m + n + 1 from rfl, listed_spec hk n m x (dpts_at h2 x hx) h]; rfl]
      simp [outC, openR, openAll, cmpR_ok (mt := false) _ (ds := xs.map lsd) (by simpa using hb)]
      unfold lsd
      rw [lsds_map]
  | n, m, .non, hd, h => run_d hk rfl rfl rfl
  | n, m, .bl _, hd, h => run_d hk rfl rfl rfl
  | n, m, .int _, hd, h => run_d hk rfl rfl rfl
  | n, m, .str _, hd, h => run_d hk rfl rfl rfl
  | n, m, .lst _, hd, h => run_d hk rfl rfl rfl
  | n, m, .fn _, hd, h => by cases n <;> cases hd
  | n, m, .scr _, hd, h => by cases n <;> cases hd
def bHanded (kt kl : Nat) : Fn := ⟨3, 3, [],
    (.cons (.ret (.ifx (.o2 .eq false (.call kt (.cons (.var 0) (.cons (.var 1) (.cons (.int 2) .nil)))) (.int 0)) (.call kl (.cons (.var 2) .nil)) (.var 2)))
    .nil)⟩
theorem handed_spec {P : Prog} {n kd kt kl kh : Nat} (hP : Drw P kd kt) (hl : P.fns[kl]? = some (bListed kl)) (hh : P.fns[kh]? = some (bHanded kt kl)) {row : List Int} (hr : row ≠ []) {s : Int} (h0 : 0 ≤ s) {x : D} (hx : dpt n x = true) (t : S) :
    ∃ y, (y = x ∨ y = lsd x) ∧ runFn P (n + 3) kh [.d (.lst (row.map .int)), .ref 0, .d x] (spt s t) = .ok (.d y) (spt (s + 1) t) := by
  obtain ⟨v, v0, v1, e⟩ := take_spec (n := n) hP hr (lim := 2) h0 (by omega) t
  have el := listed_spec hl n 1 x hx (spt (s + 1) t)
  rw [show 1 + n + 1 = n + 2 by omega] at el
  by_cases c : v = 0
  · refine ⟨lsd x, .inr rfl, run_d hh rfl ?_ rfl⟩
    simp [bHanded, op1, new1, new2, e, el, c]
  · refine ⟨x, .inl rfl, run_d hh rfl ?_ rfl⟩
    have c' : (v == 0) = false := by simpa using c
    simp [bHanded, op1, new1, new2, e, el, c']
/-! ### loops by what stays true -/
theorem forGo_inv {step : W → Lo → S → R Fl} {I : Nat → Lo → S → Prop} : ∀ (xs : List W) (i : Nat) (σ : Lo) (h : S), I i σ h → (∀ j x σ h, xs[j]? = some x → I (i + j) σ h → ∃ σ' h', (step x σ h = .ok (.nx σ') h' ∨ step x σ h = .ok (.ct σ') h') ∧ I (i + j + 1) σ' h') →
    ∃ σ' h', forGo step xs σ h = .ok (.nx σ') h' ∧ I (i + xs.length) σ' h'
  | [], i, σ, h, h0, _ => ⟨σ, h, rfl, h0⟩
  | x :: r, i, σ, h, h0, hs => by
    obtain ⟨σ', h', e, k⟩ := hs 0 x σ h rfl h0
    obtain ⟨σ2, h2, e2, k2⟩ := forGo_inv r (i + 1) σ' h' k fun j y σ h ey ky => by
      have := hs (j + 1) y σ h (by simpa using ey) (by rwa [show i + (j + 1) = i + 1 + j by omega])
      rwa [show i + (j + 1) + 1 = i + 1 + j + 1 by omega] at this
    refine ⟨σ2, h2, ?_, by rwa [show i + (x :: r).length = i + 1 + r.length by simp; omega]⟩
    unfold forGo
    rcases e with e | e <;> (rw [e]; exact e2)
theorem compGo_inv {step : W → S → R (Option D)} {I : Nat → List D → S → Prop} : ∀ (xs : List W) (i : Nat) (ds : List D) (h : S), I i ds h → (∀ j x ds h, xs[j]? = some x → I (i + j) ds h → ∃ d h', step x h = .ok (some d) h' ∧ I (i + j + 1) (ds ++ [d]) h') →
    ∃ ds' h', compGo step xs h = .ok ds' h' ∧ I (i + xs.length) (ds ++ ds') h'
  | [], i, ds, h, h0, _ => ⟨[], h, rfl, by simpa using h0⟩
  | x :: r, i, ds, h, h0, hs => by
    obtain ⟨d, h', e, k⟩ := hs 0 x ds h rfl h0
    obtain ⟨ds2, h2, e2, k2⟩ := compGo_inv r (i + 1) (ds ++ [d]) h' k fun j y ds h ey ky => by
      have := hs (j + 1) y ds h (by simpa using ey) (by rwa [show i + (j + 1) = i + 1 + j by omega])
      rwa [show i + (j + 1) + 1 = i + 1 + j + 1 by omega] at this
    refine ⟨d :: ds2, h2, ?_, ?_⟩
    · unfold compGo
      rw [e]
      show ((compGo step r h').bind _) = _
      rw [e2]
      rfl
    · rw [show i + (x :: r).length = i + 1 + r.length by simp; omega]
      simpa using k2
theorem rng_get {n : Int} {j : Nat} {x : W} (e : (rngOf 0 n)[j]? = some x) : x = .d (.int j) ∧ (j : Int) < n := by
  unfold rngOf at e
  rw [List.getElem?_map] at e
  obtain ⟨k, e1, e2⟩ := Option.map_eq_some_iff.mp e
  obtain ⟨h1, h2⟩ := List.getElem?_eq_some_iff.mp e1
  simp at h1 h2
  subst h2
  exact ⟨by rw [← e2]; simp, by omega⟩
theorem rng_len (n : Int) : (rngOf 0 n).length = n.toNat := by unfold rngOf; simp
/-! ### the same -/
mutual
def cln : Nat → D → Bool
  | _, .non => true
  | _, .bl _ => true
  | _, .int _ => true
  | _, .str _ => true
  | n + 1, .tup xs => decide (xs.length ≤ big) && clns n xs
  | _, _ => false
def clns : Nat → List D → Bool
  | _, [] => true
  | n, x :: r => cln n x && clns n r
end
theorem clns_at : ∀ {n : Nat} {xs : List D}, clns n xs = true → ∀ x ∈ xs, cln n x = true
  | n, [], _, x, hx => by simp at hx
  | n, y :: r, h, x, hx => by
    unfold clns at h
    obtain ⟨a, b⟩ := Bool.and_eq_true_iff.mp h
    rcases List.mem_cons.mp hx with z | z
    · subst z; exact a
    · exact clns_at b x z
def soFor (k : Nat) : Sts := (.cons (.for (.nm 2) (.rng1 (.o1 .len false (.var 1)))
    (.cons (.ifs (.not (.call k (.cons (.o2 .ix false (.var 0) (.var 2)) (.cons (.o2 .ix false (.var 1) (.var 2)) .nil))))
    (.cons (.ret (.bl false))
    .nil)
    .nil)
    .nil))
    (.cons (.ret (.bl true))
    .nil))
def bSo (k : Nat) : Fn := ⟨2, 3, [],
    (.cons (.ifs (.o1 .isNon false (.var 1))
    (.cons (.ret (.o1 .isNon false (.var 0)))
    .nil)
    .nil)
    (.cons (.ifs (.o1 (.isk [.tup]) false (.var 1))
    (.cons (.ifs (.orc (.not (.o1 (.isk [.tup]) false (.var 0))) (.or1 (.o2 .ne false (.o1 .len false (.var 0)) (.o1 .len false (.var 1)))))
    (.cons (.ret (.bl false))
    .nil)
    .nil)
    (soFor k))
    .nil)
    (.cons (.ifs (.orc (.o1 (.isk [.bool]) false (.var 1)) (.or1 (.o1 (.isk [.bool]) false (.var 0))))
    (.cons (.ret (.andc (.o1 (.isk [.bool]) false (.var 1)) (.andc (.o1 (.isk [.bool]) false (.var 0)) (.and1 (.o2 .eq false (.var 0) (.var 1))))))
    .nil)
    .nil)
    (.cons (.ifs (.o1 (.isk [.int]) false (.var 1))
    (.cons (.ret (.andc (.o1 (.isk [.int]) false (.var 0)) (.and1 (.o2 .eq false (.var 0) (.var 1)))))
    .nil)
    .nil)
    (.cons (.ret (.andc (.o1 (.isk [.str]) false (.var 1)) (.andc (.o1 (.isk [.str]) false (.var 0)) (.and1 (.o2 .eq false (.var 0) (.var 1))))))
    .nil)))))⟩
theorem sm_big {n : Nat} (h : n ≤ big) : small62 (n : Int) = true := by
  unfold small62
  have h : n ≤ 16777216 := h
  exact decide_eq_true (by omega)
theorem so_for {P : Prog} {k N : Nat} {xs : List D} (h : S) (hb : xs.length ≤ big) (rec1 : ∀ (j : Nat) (hj : j < xs.length), runFn P N k [.d xs[j], .d xs[j]] h = .ok (.d (.bl true)) h) :
    exs ⟨runFn P N, fun k => P.glbs[k]?⟩ (soFor k) [some (.d (.tup xs)), some (.d (.tup xs)), none] h = .ok (.rt (.d (.bl true))) h := by
  have sm := sm_big hb
  obtain ⟨σ', h', e, z⟩ := forGo_inv (step := stepF ⟨runFn P N, fun k => P.glbs[k]?⟩ (.nm 2) (.cons (.ifs (.not (.call k (.cons (.o2 .ix false (.var 0) (.var 2)) (.cons (.o2 .ix false (.var 1) (.var 2)) .nil))))
    (.cons (.ret (.bl false))
    .nil)
    .nil)
    .nil)) (I := fun _ σ h' => h' = h ∧ ∃ v, σ = [some (.d (.tup xs)), some (.d (.tup xs)), v]) (rngOf 0 xs.length) 0 [some (.d (.tup xs)), some (.d (.tup xs)), none] h ⟨rfl, none, rfl⟩ fun j x σ h' ej ⟨eh, v, es⟩ => by
      subst eh; subst es
      obtain ⟨ex1, hj⟩ := rng_get ej
      subst ex1
      have hj' : j < xs.length := by omega
      have e1 : atZ xs (j : Int) = some xs[j] := by rw [atZ_nn (by omega)]; simp [hj']
      refine ⟨[some (.d (.tup xs)), some (.d (.tup xs)), some (.d (.int j))], h', .inl ?_, rfl, _, rfl⟩
      simp [stepF, new2, e1, rec1 j hj']
  simp [soFor, op1, new1, intW, rgR_ok _ sm, lockAll]
  rw [e]
  simp [z.1, openR, openAll]
theorem so_tup {P : Prog} {k N : Nat} (hk : P.fns[k]? = some (bSo k)) {xs : List D} (h : S) (hb : xs.length ≤ big) (rec1 : ∀ (j : Nat) (hj : j < xs.length), runFn P N k [.d xs[j], .d xs[j]] h = .ok (.d (.bl true)) h) :
    runFn P (N + 1) k [.d (.tup xs), .d (.tup xs)] h = .ok (.d (.bl true)) h := by
  refine run_d hk rfl ?_ rfl
  simp [bSo, op1, new1, new2, notFn, isTy, so_for h hb rec1]
theorem so_refl {P : Prog} {k : Nat} (hk : P.fns[k]? = some (bSo k)) : ∀ (n m : Nat) (x : D), cln n x = true → ∀ h : S, runFn P (m + n + 1) k [.d x, .d x] h = .ok (.d (.bl true)) h := by
  have flat1 : ∀ (N : Nat) (x : D) (h : S), flat x = true → runFn P (N + 1) k [.d x, .d x] h = .ok (.d (.bl true)) h := fun N x h hx => by
    refine run_d hk rfl ?_ rfl
    cases x with
    | non => simp [bSo, op1, new1]
    | bl b => simp [bSo, op1, new1, new2, notFn, isTy]
    | int b => simp [bSo, op1, new1, new2, notFn, isTy]
    | str b => simp [bSo, op1, new1, new2, notFn, isTy]
    | _ => cases hx
  intro n
  induction n with
  | zero =>
    intro m x hx h
    cases x <;> first | exact flat1 _ _ _ rfl | cases hx
  | succ n ih =>
    intro m x hx h
    cases x with
    | tup xs =>
      unfold cln at hx
      obtain ⟨h1, h2⟩ := Bool.and_eq_true_iff.mp hx
      exact so_tup (N := m + n + 1) hk h (of_decide_eq_true h1) fun j hj => ih m _ (clns_at h2 _ (List.getElem_mem _)) h
    | _ => first | exact flat1 _ _ _ rfl | cases hx
end G

set_option linter.all false
set_option Elab.async false
set_option maxRecDepth 100000
set_option maxHeartbeats 1000000
namespace G
/-! ### the numbers of the script -/
def numIn : Sts := (.cons (.ifs (.o2 .eq false (.var 3) (.int 0))
    (.cons .brk
    .nil)
    .nil)
    (.cons (.expr (.app (.var 1) (.o2 .mod false (.o1 .int1 false (.var 3)) (.int 997))))
    (.cons (.asg (.nm 3) (.o2 .fdiv false (.var 3) (.int 997)))
    .nil)))
def numFr : Sts := (.cons (.asg (.nm 5) (.o2 .mod false (.o1 .int1 false (.o2 .add false (.o2 .add false (.o2 .mul false (.var 2) (.int 48271)) (.o2 .mul false (.var 4) (.int 69621))) (.int 11))) (.int 2147483647)))
    (.cons (.expr (.app (.var 1) (.o2 .mod false (.o1 .int1 false (.o2 .add false (.o2 .mul false (.var 5) (.int 16807)) (.var 4))) (.int 2147483629))))
    .nil))
def numCell : Sts := (.cons (.ifs (.o2 .ge false (.var 2) (.o2 .pow false (.int 10) (.int 18)))
    (.cons (.asg (.nm 3) (.var 2))
    (.cons (.for (.nm 4) (.rng1 (.int 60))
    numIn)
    .nil))
    (.cons (.for (.nm 4) (.rng1 (.int 4))
    numFr)
    .nil))
    .nil)
def numEnd : Sts := (.cons (.ifs (.o2 .eq false (.o1 .len false (.var 1)) (.int 0))
    (.cons (.expr (.app (.var 1) (.int 0)))
    .nil)
    .nil)
    (.cons (.ret (.frz (.var 1)))
    .nil))
def bNums : Fn := ⟨1, 6, [],
    (.cons (.asg (.nm 1) (.lst true .nil))
    (.cons (.for (.nm 2) (.seq (.slc false (.var 0) .no (.yes (.int 63))))
    numCell)
    numEnd))⟩
/-- a growing row of numbers -/
def grow (l : Nat) (h : S) : Prop := ∃ row : List Int, row.length ≤ l ∧ h = [.lst false (row.map fun i => W.d (.int i))]
theorem wints (row : List Int) : (row.map fun i => W.d (.int i)) = (row.map D.int).map W.d := by rw [List.map_map]; rfl
theorem allD_ints : ∀ row : List Int, allD (row.map fun i => W.d (.int i)) = some (row.map D.int)
  | [] => rfl
  | x :: r => by show (allD (r.map _)).map _ = _; rw [allD_ints r]; rfl
theorem numIn_ok {C : Calls} {sc : W} {cell : Int} : ∀ (xs : List W) (l : Nat) (a b c : Option W) (rest : Int) (h : S), l + xs.length < big → grow l h →
    ∃ σ' h', forGo (stepF C (.nm 4) numIn) xs [some sc, some (.ref 0), some (.d (.int cell)), some (.d (.int rest)), a, b] h = .ok (.nx σ') h' ∧ grow (l + xs.length) h' ∧ ∃ r a b, σ' = [some sc, some (.ref 0), some (.d (.int cell)), some (.d (.int r)), a, b]
  | [], l, a, b, c, rest, h, hl, g => ⟨_, h, rfl, g, _, _, _, rfl⟩
  | x :: xs, l, a, b, c, rest, h, hl, ⟨row, g1, g2⟩ => by
    subst g2
    by_cases z : rest = 0
    · refine ⟨_, _, ?_, ⟨row, by simp; omega, rfl⟩, rest, some x, b, rfl⟩
      unfold forGo
      simp [stepF, numIn, z]
    · have z' : (rest == 0) = false := by simpa using z
      have lt : row.length < big := by simp at hl; omega
      obtain ⟨σ', h', e, g', r', a', b', es⟩ := numIn_ok (C := C) (sc := sc) (cell := cell) xs (l + 1) (some x) b c (rest.fdiv 997) [.lst false ((row ++ [rest.fmod 997]).map fun i => W.d (.int i))] (by simp at hl; omega) ⟨_, by simp; omega, rfl⟩
      refine ⟨σ', h', ?_, by rwa [show l + (x :: xs).length = l + 1 + xs.length by simp; omega], r', a', b', es⟩
      unfold forGo
      simp [stepF, numIn, z', op1, new1, new2, getL, getM, getLW, mod_lit, q_fdiv, appR_ok, lt] at e ⊢
      exact e
theorem numFr_ok {C : Calls} {sc : W} {cell : Int} {d : Option W} : ∀ (xs : List Int) (l : Nat) (a b : Option W) (h : S), l + xs.length < big → grow l h →
    ∃ σ' h', forGo (stepF C (.nm 4) numFr) (xs.map fun i => W.d (.int i)) [some sc, some (.ref 0), some (.d (.int cell)), d, a, b] h = .ok (.nx σ') h' ∧ grow (l + xs.length) h' ∧ ∃ a b, σ' = [some sc, some (.ref 0), some (.d (.int cell)), d, a, b]
  | [], l, a, b, h, hl, g => ⟨_, h, rfl, g, _, _, rfl⟩
  | x :: xs, l, a, b, h, hl, ⟨row, g1, g2⟩ => by
    subst g2
    have lt : row.length < big := by simp at hl; omega
    obtain ⟨σ', h', e, g', a', b', es⟩ := numFr_ok (C := C) (sc := sc) (cell := cell) (d := d) xs (l + 1) (some (.d (.int x))) (some (.d (.int ((cell * 48271 + x * 69621 + 11).fmod 2147483647)))) [.lst false ((row ++ [(((cell * 48271 + x * 69621 + 11).fmod 2147483647) * 16807 + x).fmod 2147483629]).map fun i => W.d (.int i))] (by simp at hl; omega) ⟨_, by simp; omega, rfl⟩
    refine ⟨σ', h', ?_, by rwa [show l + (x :: xs).length = l + 1 + xs.length by simp; omega], a', b', es⟩
    show forGo _ (_ :: _) _ _ = _
    unfold forGo
    simp [stepF, numFr, op1, new1, new2, getL, getM, getLW, mod_lit, appR_ok, lt, q_mul2 _ (j := 48271) (by decide), q_mul2 _ (j := 69621) (by decide), q_mul2 _ (j := 16807) (by decide)] at e ⊢
    exact e
theorem rng_ints (i j : Int) : rngOf i j = ((List.range (j - i).toNat).map fun k => i + (k : Nat)).map fun i => W.d (.int i) := by unfold rngOf; rw [List.map_map]; rfl
theorem numCell_ok {C : Calls} {sc : W} : ∀ (xs : List Int) (l : Nat) (v a b c : Option W) (h : S), l + 60 * xs.length < big → grow l h →
    ∃ σ' h', forGo (stepF C (.nm 2) numCell) (xs.map fun i => W.d (.int i)) [some sc, some (.ref 0), v, a, b, c] h = .ok (.nx σ') h' ∧ grow (l + 60 * xs.length) h' ∧ ∃ v a b c, σ' = [some sc, some (.ref 0), v, a, b, c]
  | [], l, v, a, b, c, h, hl, g => ⟨_, h, rfl, g, _, _, _, _, rfl⟩
  | x :: xs, l, v, a, b, c, h, hl, g => by
    have hl' : l + 60 + 60 * xs.length < big := by simp at hl; omega
    have fin : ∀ σ1 h1, forGo (stepF C (.nm 2) numCell) (xs.map fun i => W.d (.int i)) σ1 h1 = forGo (stepF C (.nm 2) numCell) (xs.map fun i => W.d (.int i)) σ1 h1 := fun _ _ => rfl
    by_cases z : (1000000000000000000 : Int) ≤ x
    · obtain ⟨σ1, h1, e1, g1, r1, a1, b1, es⟩ := numIn_ok (C := C) (sc := sc) (cell := x) (rngOf 0 60) l b c none x h (by rw [rng_len]; show l + 60 < big; omega) g
      rw [rng_len] at g1
      subst es
      obtain ⟨σ2, h2, e2, g2, r⟩ := numCell_ok (C := C) (sc := sc) xs (l + 60) (some (.d (.int x))) (some (.d (.int r1))) a1 b1 h1 hl' g1
      refine ⟨σ2, h2, ?_, by rwa [show l + 60 * (x :: xs).length = l + 60 + 60 * xs.length by simp; omega], r⟩
      show forGo _ (_ :: _) _ _ = _
      unfold forGo
      simp [stepF, numCell, op2, new2, z, intW, rgR_ok, lockAll, openR, openAll] at e1 e2 ⊢
      rw [rgR_ok _ (by decide)]
      simp [e1, e2, openR, openAll, lockAll]
    · obtain ⟨σ1, h1, e1, g1, a1, b1, es⟩ := numFr_ok (C := C) (sc := sc) (cell := x) (d := a) ((List.range (4 - 0 : Int).toNat).map fun k => (0 : Int) + (k : Nat)) l b c h (by simp; omega) g
      rw [← rng_ints] at e1
      subst es
      have g1 : grow (l + 60) h1 := let ⟨row, q1, q2⟩ := g1; ⟨row, by simp at q1; omega, q2⟩
      obtain ⟨σ2, h2, e2, g2, r⟩ := numCell_ok (C := C) (sc := sc) xs (l + 60) (some (.d (.int x))) a a1 b1 h1 hl' g1
      refine ⟨σ2, h2, ?_, by rwa [show l + 60 * (x :: xs).length = l + 60 + 60 * xs.length by simp; omega], r⟩
      show forGo _ (_ :: _) _ _ = _
      unfold forGo
      simp [stepF, numCell, op2, new2, z, intW, lockAll, openR, openAll] at e1 e2 ⊢
      rw [rgR_ok _ (by decide)]
      simp [e1, e2, openR, openAll, lockAll]
theorem cutL_ints (ns : List Int) (k : Nat) : cutL (ns.map D.int) none (some (k : Int)) = ((ns.take k).map D.int) := by
  unfold cutL cutZ
  simp
theorem nums_spec {P : Prog} {n k : Nat} (hk : P.fns[k]? = some bNums) (ns : List Int) : ∃ row : List Int, row ≠ [] ∧ runFn P (n + 1) k [.d (.scr (ns.map D.int))] [] = .ok (.d (.lst (row.map D.int))) [] := by
  have cut : opS (.scr (ns.map D.int)) none (some 63) = some (.lst ((ns.take 63).map D.int)) := by
    show some (D.lst (cutL (ns.map D.int) none (some ((63 : Nat) : Int)))) = _
    rw [cutL_ints]
  obtain ⟨σ1, h1, e1, ⟨row, g1, g2⟩, v, a, b, c, es⟩ := numCell_ok (C := ⟨runFn P n, fun k => P.glbs[k]?⟩) (sc := .d (.scr (ns.map D.int))) (ns.take 63) 0 none none none none [.lst false []] (by simp; unfold big; omega) ⟨[], by simp, rfl⟩
  subst es; subst g2
  have lt : row.length < big := by simp at g1; unfold big; omega
  have pre : ∀ w h2, exs ⟨runFn P n, fun k => P.glbs[k]?⟩ numEnd [some (.d (.scr (ns.map D.int))), some (.ref 0), v, a, b, c] [.lst false (row.map fun i => W.d (.int i))] = .ok (.rt w) h2 → exs ⟨runFn P n, fun k => P.glbs[k]?⟩ bNums.body ([.d (.scr (ns.map D.int))].map some ++ List.replicate 5 none) [] = .ok (.rt w) h2 := fun w h2 e => by
    rw [wints] at e1
    simp [Function.comp_def] at e1
    simp [bNums, newR, putNew, cut, newS, big, Function.comp_def, e1, e]
  cases row with
  | nil =>
    refine ⟨[0], by simp, ?_⟩
    rw [run_ok hk rfl (pre (.d (.lst [.int 0])) [.dead] ?_)]
    · rfl
    · simp [numEnd, runO1, vw, allD, op1, new1, getL, getM, getLW, appR, big]
  | cons x r =>
    refine ⟨x :: r, by simp, ?_⟩
    have vwr : allD ((x :: r).map fun i => W.d (.int i)) = some ((x :: r).map D.int) := allD_ints (x :: r)
    rw [run_ok hk rfl (pre (.d (.lst ((x :: r).map D.int))) [.dead] ?_)]
    · rfl
    · simp only [List.map_cons] at vwr ⊢
      have ne : ((r.length : Int) + 1 == 0) = false := by simp; omega
      simp [numEnd, runO1, vw, op1, new1, getL, getM, getLW, vwr, ne]
end G

set_option linter.all false
set_option Elab.async false
set_option maxRecDepth 100000
set_option maxHeartbeats 1000000
namespace G
/-! ### what the checks give -/
def bIsInt : Fn := ⟨1, 1, [],
    (.cons (.ret (.andc (.o1 (.isk [.int]) false (.var 0)) (.and1 (.not (.o1 (.isk [.bool]) false (.var 0))))))
    .nil)⟩
def bWithin (ki : Nat) : Fn := ⟨3, 3, [],
    (.cons (.ret (.andc (.call ki (.cons (.var 0) .nil)) (.andc (.o2 .le false (.var 1) (.var 0)) (.and1 (.o2 .le false (.var 0) (.var 2))))))
    .nil)⟩
def bIsRow : Fn := ⟨1, 1, [],
    (.cons (.ret (.o1 (.isk [.lst, .tup]) false (.var 0)))
    .nil)⟩
def bIntIn (kw : Nat) : Fn := ⟨4, 4, [],
    (.cons (.ifs (.not (.call kw (.cons (.var 0) (.cons (.var 2) (.cons (.var 3) .nil)))))
    (.cons .nev
    .nil)
    .nil)
    (.cons (.ret (.var 0))
    .nil))⟩
def bRowIn (kr : Nat) : Fn := ⟨4, 4, [],
    (.cons (.ifs (.orc (.not (.call kr (.cons (.var 0) .nil))) (.orc (.o2 .lt false (.o1 .len false (.var 0)) (.var 2)) (.or1 (.o2 .gt false (.o1 .len false (.var 0)) (.var 3)))))
    (.cons .nev
    .nil)
    .nil)
    (.cons (.ret (.o1 .toTup false (.var 0)))
    .nil))⟩
def bIntsIn (kw kr : Nat) : Fn := ⟨6, 8, [],
    (.cons (.asg (.nm 6) (.call kr (.cons (.var 0) (.cons (.var 1) (.cons (.var 4) (.cons (.var 5) .nil))))))
    (.cons (.ifs (.not (.o1 .all false (.comp false [7] (.call kw (.cons (.var 7) (.cons (.var 2) (.cons (.var 3) .nil)))) (.nm 7) (.seq (.var 6)))))
    (.cons .nev
    .nil)
    .nil)
    (.cons (.ret (.var 6))
    .nil)))⟩
section
variable {P : Prog} {n k ki kw kr : Nat}
theorem isInt_spec (hk : P.fns[k]? = some bIsInt) (i : Int) (h : S) : runFn P (n + 1) k [.d (.int i)] h = .ok (.d (.bl true)) h :=
  run_d hk rfl (by simp [bIsInt, op1, new1, notFn, isTy]) rfl
theorem within_spec (hk : P.fns[k]? = some (bWithin ki)) (hi : P.fns[ki]? = some bIsInt) (i lo up : Int) (h : S) : runFn P (n + 2) k [.d (.int i), .d (.int lo), .d (.int up)] h = .ok (.d (.bl (decide (lo ≤ i) && decide (i ≤ up)))) h := by
  refine run_d hk rfl ?_ rfl
  have := isInt_spec (n := n) hi i h
  by_cases c : lo ≤ i <;> by_cases d : i ≤ up <;> simp [bWithin, new2, this, c, d]
theorem intIn_spec (hk : P.fns[k]? = some (bIntIn kw)) (hw : P.fns[kw]? = some (bWithin ki)) (hi : P.fns[ki]? = some bIsInt) {i lo up : Int} (h1 : lo ≤ i) (h2 : i ≤ up) (x : D) (h : S) :
    runFn P (n + 3) k [.d (.int i), .d x, .d (.int lo), .d (.int up)] h = .ok (.d (.int i)) h := by
  refine run_d hk rfl ?_ rfl
  simp [bIntIn, within_spec (n := n) hw hi i lo up h, h1, h2]
theorem rowIn_spec (hk : P.fns[k]? = some (bRowIn kr)) (hr : P.fns[kr]? = some bIsRow) {v : D} {xs : List D} (hv : v = .lst xs ∨ v = .tup xs) {lo up : Int} (h1 : lo ≤ xs.length) (h2 : xs.length ≤ up) (x : D) (h : S) :
    runFn P (n + 2) k [.d v, .d x, .d (.int lo), .d (.int up)] h = .ok (.d (.tup xs)) h := by
  have ir : runFn P (n + 1) kr [.d v] h = .ok (.d (.bl true)) h := by
    rcases hv with rfl | rfl <;> exact run_d hr rfl (by simp [bIsRow, op1, new1, notFn, isTy]) rfl
  refine run_d hk rfl ?_ rfl
  have c1 : ¬ ((xs.length : Int) < lo) := by omega
  have c2 : ¬ (up < (xs.length : Int)) := by omega
  rcases hv with rfl | rfl <;> simp [bRowIn, ir, op1, new1, new2, c1, c2]
theorem intsIn_spec (hk : P.fns[k]? = some (bIntsIn kw kr)) (hr : P.fns[kr]? = some (bRowIn ki)) (hi : P.fns[ki]? = some bIsRow) {k2 : Nat} (hw : P.fns[kw]? = some (bWithin k2)) (h2 : P.fns[k2]? = some bIsInt)
    {v : D} {ns : List Int} (hv : v = .lst (ns.map .int) ∨ v = .tup (ns.map .int)) {lo up least most : Int} (h3 : least ≤ ns.length) (h4 : ns.length ≤ most) (hm : most ≤ 1000) (h5 : ∀ i ∈ ns, lo ≤ i ∧ i ≤ up) (x : D) (h : S) :
    runFn P (n + 3) k [.d v, .d x, .d (.int lo), .d (.int up), .d (.int least), .d (.int most)] h = .ok (.d (.tup (ns.map .int))) h := by
  have e1 := rowIn_spec (n := n) hr hi hv (lo := least) (up := most) (by simpa using h3) (by simpa using h4) x h
  refine run_d hk rfl ?_ rfl
  have go : compGo (stepC ⟨runFn P (n + 2), fun k => P.glbs[k]?⟩ [7] (.nm 7) (.call kw (.cons (.var 7) (.cons (.var 2) (.cons (.var 3) .nil)))) [some (.d v), some (.d x), some (.d (.int lo)), some (.d (.int up)), some (.d (.int least)), some (.d (.int most)), some (.d (.tup (ns.map .int))), none]) ((ns.map D.int).map W.d) h = .ok ((ns.map fun _ => true).map D.bl) h := by
    have q := compGo_map (step := stepC ⟨runFn P (n + 2), fun k => P.glbs[k]?⟩ [7] (.nm 7) (.call kw (.cons (.var 7) (.cons (.var 2) (.cons (.var 3) .nil)))) [some (.d v), some (.d x), some (.d (.int lo)), some (.d (.int up)), some (.d (.int least)), some (.d (.int most)), some (.d (.tup (ns.map .int))), none]) (f := fun _ => D.bl true) (h := h) (ns.map D.int) fun y hy => by
      obtain ⟨i, hi', rfl⟩ := List.mem_map.mp hy
      obtain ⟨a1, a2⟩ := h5 i hi'
      simp [stepC, wipe, within_spec (n := n) hw h2 i lo up h, a1, a2]
    rw [q]
    congr 1
    simp
  have lb : ((ns.map fun _ => true).map D.bl).length ≤ big := by simp; unfold big; omega
  have al : op1 .all (.lst ((ns.map fun _ => true).map D.bl)) = some (.bl true) := by
    rw [q_allL]; simp
  simp only [bIntsIn, exs_cons, ex_asg, ev_call, evs_cons, ev_var, evs_nil, List.map_cons, List.map_nil, List.cons_append, List.nil_append, List.replicate, List.getElem?_cons_zero, List.getElem?_cons_succ, Option.bind_some, id, ofO_some, bind_ok, asked_ff, e1, stg_nm, seqK_nx, ex_ifs, ev_not, ev_o1, ev_comp, evit_seq, items_t, open_d, lock_0, List.set_cons_succ, List.set_cons_zero]
  simp only [show (8 - 6 : Nat) = 2 from rfl, List.replicate, List.set_cons_succ, List.set_cons_zero, List.getElem?_cons_zero, List.getElem?_cons_succ, Option.bind_some, id, ofO_some, bind_ok, asked_ff, items_t, open_d, lock_0, go, outC, cmpR_ok _ lb, fin_f, openR_0, run1_d, al, asked_b, notK_b, Bool.not_true, ifK_f, exs_nil, seqK_nx, exs_cons, ex_ret, ev_var, seqK_rt]
end
end G

set_option linter.all false
set_option Elab.async false
set_option maxRecDepth 100000
set_option maxHeartbeats 1000000
namespace W
open PySem L2 PyProof.Rows G
/-! ### the text, turned -/
def b0 : Fn := ⟨1, 1, [],
    (.cons (.ret (.andc (.o1 (.isk [.int]) false (.var 0)) (.and1 (.not (.o1 (.isk [.bool]) false (.var 0))))))
    .nil)⟩
def b1 : Fn := ⟨3, 3, [],
    (.cons (.ret (.andc (.call 0 (.cons (.var 0) .nil)) (.andc (.o2 .le false (.var 1) (.var 0)) (.and1 (.o2 .le false (.var 0) (.var 2))))))
    .nil)⟩
def b2 : Fn := ⟨1, 1, [],
    (.cons (.ret (.o1 (.isk [.lst, .tup]) false (.var 0)))
    .nil)⟩
def b3 : Fn := ⟨4, 4, [],
    (.cons (.ifs (.not (.call 1 (.cons (.var 0) (.cons (.var 2) (.cons (.var 3) .nil)))))
    (.cons .nev
    .nil)
    .nil)
    (.cons (.ret (.var 0))
    .nil))⟩
def b4 : Fn := ⟨4, 4, [],
    (.cons (.ifs (.orc (.not (.call 2 (.cons (.var 0) .nil))) (.orc (.o2 .lt false (.o1 .len false (.var 0)) (.var 2)) (.or1 (.o2 .gt false (.o1 .len false (.var 0)) (.var 3)))))
    (.cons .nev
    .nil)
    .nil)
    (.cons (.ret (.o1 .toTup false (.var 0)))
    .nil))⟩
def b5 : Fn := ⟨6, 8, [],
    (.cons (.asg (.nm 6) (.call 4 (.cons (.var 0) (.cons (.var 1) (.cons (.var 4) (.cons (.var 5) .nil))))))
    (.cons (.ifs (.not (.o1 .all false (.comp false [7] (.call 1 (.cons (.var 7) (.cons (.var 2) (.cons (.var 3) .nil)))) (.nm 7) (.seq (.var 6)))))
    (.cons .nev
    .nil)
    .nil)
    (.cons (.ret (.var 6))
    .nil)))⟩
def b6 : Fn := ⟨2, 11, [],
    (.cons (.expr (.call 3 (.cons (.var 0) (.cons (.int 0) (.cons (.int 0) (.cons (.int 100000000) .nil))))))
    (.cons (.asg (.nm 2) (.call 5 (.cons (.var 1) (.cons (.int 1) (.cons (.int 0) (.cons (.int 1000000) (.cons (.int 1) (.cons (.int 12) .nil))))))))
    (.cons (.ifs (.o2 .eq false (.o1 .sum false (.var 2)) (.int 0))
    (.cons (.asg (.nm 2) (.o2 .mul false (.tup (.cons (.int 1) .nil)) (.o1 .len false (.var 2))))
    .nil)
    .nil)
    (.cons (.asg (.nm 3) (.o1 .sum false (.var 2)))
    (.cons (.lcs 4 (.comp true [5] (.o2 .fdiv false (.o2 .mul false (.var 0) (.var 5)) (.var 3)) (.nm 5) (.seq (.var 2))))
    (.cons (.asg (.nm 6) (.o2 .sub false (.var 0) (.o1 .sum false (.var 4))))
    (.cons (.asg (.nm 7) (.o1 .srt false (.comp false [5, 8, 9] (.tup (.cons (.o1 .neg false (.o2 .sub false (.o2 .mul false (.var 0) (.var 5)) (.o2 .mul false (.var 9) (.var 3)))) (.cons (.var 8) .nil))) (.tp (.cons (.nm 8) (.cons (.tp (.cons (.nm 5) (.cons (.nm 9) .nil))) .nil))) (.enz (.var 2) (.var 4)))))
    (.cons (.for (.tp (.cons (.nm 10) (.cons (.nm 8) .nil))) (.seq (.slc false (.var 7) .no (.yes (.var 6))))
    (.cons (.augS (.var 4) (.var 8) (.int 1))
    .nil))
    (.cons (.ret (.o1 .toTup false (.var 4)))
    .nil)))))))))⟩
def b7 : Fn := ⟨2, 3, [],
    (.cons (.ifs (.o1 .isNon false (.var 1))
    (.cons (.ret (.o1 .isNon false (.var 0)))
    .nil)
    .nil)
    (.cons (.ifs (.o1 (.isk [.tup]) false (.var 1))
    (.cons (.ifs (.orc (.not (.o1 (.isk [.tup]) false (.var 0))) (.or1 (.o2 .ne false (.o1 .len false (.var 0)) (.o1 .len false (.var 1)))))
    (.cons (.ret (.bl false))
    .nil)
    .nil)
    (.cons (.for (.nm 2) (.rng1 (.o1 .len false (.var 1)))
    (.cons (.ifs (.not (.call 7 (.cons (.o2 .ix false (.var 0) (.var 2)) (.cons (.o2 .ix false (.var 1) (.var 2)) .nil))))
    (.cons (.ret (.bl false))
    .nil)
    .nil)
    .nil))
    (.cons (.ret (.bl true))
    .nil)))
    .nil)
    (.cons (.ifs (.orc (.o1 (.isk [.bool]) false (.var 1)) (.or1 (.o1 (.isk [.bool]) false (.var 0))))
    (.cons (.ret (.andc (.o1 (.isk [.bool]) false (.var 1)) (.andc (.o1 (.isk [.bool]) false (.var 0)) (.and1 (.o2 .eq false (.var 0) (.var 1))))))
    .nil)
    .nil)
    (.cons (.ifs (.o1 (.isk [.int]) false (.var 1))
    (.cons (.ret (.andc (.o1 (.isk [.int]) false (.var 0)) (.and1 (.o2 .eq false (.var 0) (.var 1)))))
    .nil)
    .nil)
    (.cons (.ret (.andc (.o1 (.isk [.str]) false (.var 1)) (.andc (.o1 (.isk [.str]) false (.var 0)) (.and1 (.o2 .eq false (.var 0) (.var 1))))))
    .nil)))))⟩
def b8 : Fn := ⟨1, 6, [],
    (.cons (.asg (.nm 1) (.lst true .nil))
    (.cons (.for (.nm 2) (.seq (.slc false (.var 0) .no (.yes (.int 63))))
    (.cons (.ifs (.o2 .ge false (.var 2) (.o2 .pow false (.int 10) (.int 18)))
    (.cons (.asg (.nm 3) (.var 2))
    (.cons (.for (.nm 4) (.rng1 (.int 60))
    (.cons (.ifs (.o2 .eq false (.var 3) (.int 0))
    (.cons .brk
    .nil)
    .nil)
    (.cons (.expr (.app (.var 1) (.o2 .mod false (.o1 .int1 false (.var 3)) (.int 997))))
    (.cons (.asg (.nm 3) (.o2 .fdiv false (.var 3) (.int 997)))
    .nil))))
    .nil))
    (.cons (.for (.nm 4) (.rng1 (.int 4))
    (.cons (.asg (.nm 5) (.o2 .mod false (.o1 .int1 false (.o2 .add false (.o2 .add false (.o2 .mul false (.var 2) (.int 48271)) (.o2 .mul false (.var 4) (.int 69621))) (.int 11))) (.int 2147483647)))
    (.cons (.expr (.app (.var 1) (.o2 .mod false (.o1 .int1 false (.o2 .add false (.o2 .mul false (.var 5) (.int 16807)) (.var 4))) (.int 2147483629))))
    .nil)))
    .nil))
    .nil))
    (.cons (.ifs (.o2 .eq false (.o1 .len false (.var 1)) (.int 0))
    (.cons (.expr (.app (.var 1) (.int 0)))
    .nil)
    .nil)
    (.cons (.ret (.frz (.var 1)))
    .nil))))⟩
def b9 : Fn := ⟨3, 4, [],
    (.cons (.ifs (.o2 .lt false (.var 1) (.o1 .len false (.var 0)))
    (.cons (.ret (.o2 .mod false (.o1 .int1 false (.o2 .ix false (.var 0) (.var 1))) (.var 2)))
    .nil)
    .nil)
    (.cons (.asg (.nm 3) (.o2 .mod false (.o1 .int1 false (.o2 .add false (.o2 .add false (.o2 .mul false (.o2 .ix false (.var 0) (.o2 .mod false (.o1 .int1 false (.var 1)) (.o1 .len false (.var 0)))) (.int 40692)) (.o2 .mul false (.var 1) (.int 7919))) (.int 3))) (.int 2147483399)))
    (.cons (.ret (.o2 .mod false (.o1 .int1 false (.o2 .mod false (.o1 .int1 false (.o2 .add false (.o2 .mul false (.var 3) (.int 48271)) (.var 1))) (.int 2147483647))) (.var 2)))
    .nil)))⟩
def b10 : Fn := ⟨3, 3, [],
    (.cons (.asg (.sub (.var 1) (.int 0)) (.o2 .add false (.o2 .ix false (.var 1) (.int 0)) (.int 1)))
    (.cons (.ret (.call 9 (.cons (.var 0) (.cons (.o2 .sub false (.o2 .ix false (.var 1) (.int 0)) (.int 1)) (.cons (.var 2) .nil)))))
    .nil))⟩
def b11 : Fn := ⟨3, 6, [],
    (.cons (.asg (.nm 3) (.call 10 (.cons (.var 0) (.cons (.var 1) (.cons (.int 997) .nil)))))
    (.cons (.asg (.nm 4) (.call 10 (.cons (.var 0) (.cons (.var 1) (.cons (.int 997) .nil)))))
    (.cons (.asg (.nm 5) (.call 10 (.cons (.var 0) (.cons (.var 1) (.cons (.int 997) .nil)))))
    (.cons (.ret (.o2 .mod false (.o1 .int1 false (.o2 .add false (.o2 .add false (.o2 .mul false (.var 3) (.int 994009)) (.o2 .mul false (.var 4) (.int 997))) (.var 5))) (.var 2)))
    .nil))))⟩
def b12 : Fn := ⟨1, 2, [],
    (.cons (.ifs (.o1 (.isk [.tup]) false (.var 0))
    (.cons (.ret (.comp false [1] (.call 12 (.cons (.var 1) .nil)) (.nm 1) (.seq (.var 0))))
    .nil)
    .nil)
    (.cons (.ret (.var 0))
    .nil))⟩
def b13 : Fn := ⟨3, 3, [],
    (.cons (.ret (.ifx (.o2 .eq false (.call 10 (.cons (.var 0) (.cons (.var 1) (.cons (.int 2) .nil)))) (.int 0)) (.call 12 (.cons (.var 2) .nil)) (.var 2)))
    .nil)⟩
def b14 : Fn := ⟨3, 3, [],
    (.cons (.ret (.o2 .ix false (.var 2) (.call 10 (.cons (.var 0) (.cons (.var 1) (.cons (.o1 .len false (.var 2)) .nil))))))
    .nil)⟩
def b15 : Fn := ⟨1, 13, [],
    (.cons (.asg (.nm 1) (.call 8 (.cons (.var 0) .nil)))
    (.cons (.asg (.nm 2) (.lst true (.cons (.int 0) .nil)))
    (.cons (.for (.nm 3) (.rng1 (.int 6))
    (.cons (.lcs 4 (.comp false [5] (.call 14 (.cons (.var 1) (.cons (.var 2) (.cons (.lst false (.cons (.int 0) (.cons (.int 1) (.cons (.int 7) (.cons (.call 11 (.cons (.var 1) (.cons (.var 2) (.cons (.int 1000001) .nil)))) .nil))))) .nil)))) (.nm 5) (.rng1 (.o2 .add false (.int 1) (.call 10 (.cons (.var 1) (.cons (.var 2) (.cons (.int 12) .nil))))))))
    (.cons (.ifs (.o2 .eq false (.call 10 (.cons (.var 1) (.cons (.var 2) (.cons (.int 6) .nil)))) (.int 0))
    (.cons (.asg (.nm 4) (.o2 .mul false (.lst false (.cons (.int 0) .nil)) (.o1 .len false (.var 4))))
    .nil)
    .nil)
    (.cons (.asg (.nm 6) (.call 14 (.cons (.var 1) (.cons (.var 2) (.cons (.lst false (.cons (.int 0) (.cons (.int 1) (.cons (.int 100) (.cons (.call 11 (.cons (.var 1) (.cons (.var 2) (.cons (.int 100000001) .nil)))) (.cons (.int 100000000) .nil)))))) .nil)))))
    (.cons (.asg (.nm 7) (.call 6 (.cons (.var 6) (.cons (.call 13 (.cons (.var 1) (.cons (.var 2) (.cons (.o1 .toTup false (.var 4)) .nil)))) .nil))))
    (.cons (.asg (.nm 8) (.ifx (.o2 .eq false (.o1 .sum false (.var 4)) (.int 0)) (.o2 .mul false (.lst false (.cons (.int 1) .nil)) (.o1 .len false (.var 4))) (.var 4)))
    (.cons (.asg (.nm 9) (.o1 .sum false (.var 8)))
    (.cons (.asg (.nm 10) (.comp true [11] (.o2 .fdiv false (.o2 .mul false (.var 6) (.var 11)) (.var 9)) (.nm 11) (.seq (.var 8))))
    (.cons (.asg (.nm 12) (.o1 .srt false (.comp false [5] (.tup (.cons (.o2 .sub false (.int 0) (.o2 .sub false (.o2 .mul false (.var 6) (.o2 .ix false (.var 8) (.var 5))) (.o2 .mul false (.o2 .ix false (.var 10) (.var 5)) (.var 9)))) (.cons (.var 5) .nil))) (.nm 5) (.rng1 (.o1 .len false (.var 8))))))
    (.cons (.for (.nm 5) (.rng1 (.o2 .sub false (.var 6) (.o1 .sum false (.var 10))))
    (.cons (.asg (.sub (.var 10) (.o2 .ix false (.o2 .ix false (.var 12) (.var 5)) (.int 1))) (.o2 .add false (.o2 .ix false (.var 10) (.o2 .ix false (.o2 .ix false (.var 12) (.var 5)) (.int 1))) (.int 1)))
    .nil))
    (.cons (.ifs (.orc (.not (.call 7 (.cons (.var 7) (.cons (.o1 .toTup false (.var 10)) .nil)))) (.or1 (.o2 .ne false (.o1 .sum false (.var 7)) (.var 6))))
    (.cons (.ret (.bl false))
    .nil)
    .nil)
    .nil)))))))))))
    (.cons (.ret (.bl true))
    .nil))))⟩
def prog : Prog := ⟨[b0, b1, b2, b3, b4, b5, b6, b7, b8, b9, b10, b11, b12, b13, b14, b15], []⟩
def tab : Tab := ⟨[some "is_integer", some "is_within", some "is_row", some "integer_in", some "row_in", some "integers_in", some "shared", some "_law_so", some "_law_numbers", some "_law_draw", some "_law_take", some "_law_wide", some "_law_listed", some "_law_handed", some "_law_pick", some "law"], [], []⟩
def st (i : Nat) : Stmt := PySem.Challenge.pw_gatehold_k31_bills_whole_shares.main.body.getD i (.Pass ⟨0, 0, 0, 0⟩)
def t0 : FT := ⟨"is_integer", "is_integer", ["value"], ["value"], st 4⟩
def t1 : FT := ⟨"is_within", "is_within", ["value", "low", "high"], ["value", "low", "high"], st 5⟩
def t2 : FT := ⟨"is_row", "is_row", ["value"], ["value"], st 6⟩
def t3 : FT := ⟨"integer_in", "integer_in", ["value", "at", "low", "high"], ["value", "at", "low", "high"], st 7⟩
def t4 : FT := ⟨"row_in", "row_in", ["value", "at", "least", "most"], ["value", "at", "least", "most"], st 8⟩
def t5 : FT := ⟨"integers_in", "integers_in", ["value", "at", "low", "high", "least", "most", "row", "one"], ["value", "at", "low", "high", "least", "most"], st 9⟩
def t6 : FT := ⟨"shared", "shared", ["pence", "weights", "row", "whole", "parts", "weight", "left", "by_rest", "at", "part", "_"], ["pence", "weights"], st 11⟩
def t7 : FT := ⟨"_law_so", "_law_so", ["found", "meant", "k"], ["found", "meant"], st 13⟩
def t8 : FT := ⟨"_law_numbers", "_law_numbers", ["script", "row", "cell", "rest", "k", "stirred"], ["script"], st 14⟩
def t9 : FT := ⟨"_law_draw", "_law_draw", ["row", "at", "limit", "stirred"], ["row", "at", "limit"], st 15⟩
def t10 : FT := ⟨"_law_take", "_law_take", ["row", "spot", "limit"], ["row", "spot", "limit"], st 16⟩
def t11 : FT := ⟨"_law_wide", "_law_wide", ["row", "spot", "limit", "head", "mid", "tail"], ["row", "spot", "limit"], st 17⟩
def t12 : FT := ⟨"_law_listed", "_law_listed", ["thing", "one"], ["thing"], st 18⟩
def t13 : FT := ⟨"_law_handed", "_law_handed", ["row", "spot", "thing"], ["row", "spot", "thing"], st 19⟩
def t14 : FT := ⟨"_law_pick", "_law_pick", ["row", "spot", "things"], ["row", "spot", "things"], st 20⟩
def t15 : FT := ⟨"law", "law", ["script", "row", "spot", "again", "weights", "k", "pence", "told", "parts", "total", "due", "w", "rests"], ["script"], st 21⟩
def fts : List FT := [t0, t1, t2, t3, t4, t5, t6, t7, t8, t9, t10, t11, t12, t13, t14, t15]
theorem ok0 : okF tab b0 t0 = true := by decide +kernel
theorem ok1 : okF tab b1 t1 = true := by decide +kernel
theorem ok2 : okF tab b2 t2 = true := by decide +kernel
theorem ok3 : okF tab b3 t3 = true := by decide +kernel
theorem ok4 : okF tab b4 t4 = true := by decide +kernel
theorem ok5 : okF tab b5 t5 = true := by decide +kernel
theorem ok6 : okF tab b6 t6 = true := by decide +kernel
theorem ok7 : okF tab b7 t7 = true := by decide +kernel
theorem ok8 : okF tab b8 t8 = true := by decide +kernel
theorem ok9 : okF tab b9 t9 = true := by decide +kernel
theorem ok10 : okF tab b10 t10 = true := by decide +kernel
theorem ok11 : okF tab b11 t11 = true := by decide +kernel
theorem ok12 : okF tab b12 t12 = true := by decide +kernel
theorem ok13 : okF tab b13 t13 = true := by decide +kernel
theorem ok14 : okF tab b14 t14 = true := by decide +kernel
theorem ok15 : okF tab b15 t15 = true := by decide +kernel
theorem oks : okFs tab prog.fns fts = true := Bool.and_eq_true_iff.mpr ⟨ok0, Bool.and_eq_true_iff.mpr ⟨ok1, Bool.and_eq_true_iff.mpr ⟨ok2, Bool.and_eq_true_iff.mpr ⟨ok3, Bool.and_eq_true_iff.mpr ⟨ok4, Bool.and_eq_true_iff.mpr ⟨ok5, Bool.and_eq_true_iff.mpr ⟨ok6, Bool.and_eq_true_iff.mpr ⟨ok7, Bool.and_eq_true_iff.mpr ⟨ok8, Bool.and_eq_true_iff.mpr ⟨ok9, Bool.and_eq_true_iff.mpr ⟨ok10, Bool.and_eq_true_iff.mpr ⟨ok11, Bool.and_eq_true_iff.mpr ⟨ok12, Bool.and_eq_true_iff.mpr ⟨ok13, Bool.and_eq_true_iff.mpr ⟨ok14, Bool.and_eq_true_iff.mpr ⟨ok15, rfl⟩⟩⟩⟩⟩⟩⟩⟩⟩⟩⟩⟩⟩⟩⟩⟩
end W

set_option linter.all false
set_option Elab.async false
set_option maxRecDepth 100000
set_option maxHeartbeats 1000000
namespace W
open G
/-! ### shares, plainly -/
abbrev ti (a b : Int) : D := .tup [.int a, .int b]
def bump (ps : List Int) : D → List Int
  | .tup [_, .int k] => ps.set k.toNat (ps.getD k.toNat 0 + 1)
  | _ => ps
def bumps (ps : List Int) (xs : List D) : List Int := xs.foldl bump ps
def good (n : Nat) (d : D) : Prop := ∃ (a : Int) (k : Nat), d = ti a k ∧ k < n
theorem bump_len (ps : List Int) (d : D) : (bump ps d).length = ps.length := by unfold bump; split <;> simp
theorem bumps_len : ∀ (xs : List D) (ps : List Int), (bumps ps xs).length = ps.length
  | [], ps => rfl
  | x :: r, ps => by show (bumps (bump ps x) r).length = _; rw [bumps_len r, bump_len]
theorem sum_set : ∀ (ps : List Int) (k : Nat), k < ps.length → (ps.set k (ps.getD k 0 + 1)).sum = ps.sum + 1
  | [], k, h => by simp at h
  | p :: r, 0, h => by simp; omega
  | p :: r, k + 1, h => by
    have := sum_set r k (by simpa using h)
    simp at this ⊢
    omega
theorem bump_sum {ps : List Int} {d : D} (g : good ps.length d) : (bump ps d).sum = ps.sum + 1 := by
  obtain ⟨a, k, rfl, hk⟩ := g
  exact sum_set ps k hk
theorem bumps_sum : ∀ (xs : List D) (ps : List Int), (∀ x ∈ xs, good ps.length x) → (bumps ps xs).sum = ps.sum + xs.length
  | [], ps, _ => by simp [bumps]
  | x :: r, ps, g => by
    show (bumps (bump ps x) r).sum = _
    rw [bumps_sum r _ (fun y hy => by rw [bump_len]; exact g y (List.mem_cons_of_mem _ hy)), bump_sum (g x (List.mem_cons_self ..))]
    simp; omega
theorem mem_putIn {lt : D → D → Bool} {x a : D} : ∀ {l : List D}, x ∈ putIn lt a l → x = a ∨ x ∈ l
  | [], h => by simp [putIn] at h; exact .inl h
  | y :: r, h => by
    unfold putIn at h
    split at h
    · rcases List.mem_cons.mp h with z | z
      · exact .inl z
      · exact .inr z
    · rcases List.mem_cons.mp h with z | z
      · exact .inr (by rw [z]; exact List.mem_cons_self ..)
      · rcases mem_putIn z with q | q
        · exact .inl q
        · exact .inr (List.mem_cons_of_mem _ q)
theorem len_putIn {lt : D → D → Bool} {a : D} : ∀ (l : List D), (putIn lt a l).length = l.length + 1
  | [] => rfl
  | y :: r => by unfold putIn; split <;> simp [len_putIn r]
theorem mem_srt {lt : D → D → Bool} {x : D} : ∀ (l acc : List D), x ∈ l.foldl (fun acc x => putIn lt x acc) acc → x ∈ l ∨ x ∈ acc
  | [], acc, h => .inr h
  | y :: r, acc, h => by
    rcases mem_srt r _ h with z | z
    · exact .inl (List.mem_cons_of_mem _ z)
    · rcases mem_putIn z with q | q
      · exact .inl (by rw [q]; exact List.mem_cons_self ..)
      · exact .inr q
theorem len_srt {lt : D → D → Bool} : ∀ (l acc : List D), (l.foldl (fun acc x => putIn lt x acc) acc).length = l.length + acc.length
  | [], acc => by simp
  | y :: r, acc => by rw [List.foldl_cons, len_srt r, len_putIn]; simp; omega
/-- what is left of each, with its place -/
def restsAt (p w : Int) : Nat → List Int → List Int → List D
  | k, x :: xs, q :: qs => ti (-(p * x - q * w)) k :: restsAt p w (k + 1) xs qs
  | _, _, _ => []
theorem rests_good {p w : Int} : ∀ (k : Nat) (xs qs : List Int), ∀ d ∈ restsAt p w k xs qs, good (k + qs.length) d
  | k, [], qs, d, h => by simp [restsAt] at h
  | k, x :: xs, [], d, h => by simp [restsAt] at h
  | k, x :: xs, q :: qs, d, h => by
    rcases List.mem_cons.mp h with z | z
    · exact ⟨_, k, z, by simp⟩
    · obtain ⟨a, j, e, l⟩ := rests_good (k + 1) xs qs d z
      exact ⟨a, j, e, by simp; omega⟩
theorem rests_len {p w : Int} : ∀ (k : Nat) (xs qs : List Int), xs.length = qs.length → (restsAt p w k xs qs).length = qs.length
  | k, [], qs, h => by cases qs <;> simp [restsAt] at *
  | k, x :: xs, [], h => by simp at h
  | k, x :: xs, q :: qs, h => by simp [restsAt, rests_len (k + 1) xs qs (by simpa using h)]
theorem rests_get {p w : Int} : ∀ (k : Nat) (xs qs : List Int) (j : Nat) (h1 : j < xs.length) (h2 : j < qs.length), (restsAt p w k xs qs)[j]? = some (ti (-(p * xs[j] - qs[j] * w)) ((k + j : Nat) : Int))
  | k, x :: xs, q :: qs, 0, h1, h2 => by simp [restsAt]
  | k, x :: xs, q :: qs, j + 1, h1, h2 => by
    have := rests_get (p := p) (w := w) (k + 1) xs qs j (by simpa using h1) (by simpa using h2)
    simp [restsAt, this]
    omega
  | k, [], qs, j, h1, h2 => by simp at h1
  | k, x :: xs, [], j, h1, h2 => by simp at h2
theorem fit_ti (xs : List D) (h : ∀ x ∈ xs, ∃ a b, x = ti a b) : fitS xs = true := by
  cases xs with
  | nil => rfl
  | cons x r =>
    obtain ⟨a, b, rfl⟩ := h x (List.mem_cons_self ..)
    show ((ti a b :: r).all (fitT [false, false])) = true
    rw [List.all_eq_true]
    intro y hy
    obtain ⟨c, d, rfl⟩ := h y hy
    rfl
/-- the row, the whole, the parts, the order, the end -/
def rowW (ws : List Int) : List Int := if ws.sum = 0 then List.replicate ws.length 1 else ws
def partsW (p : Int) (r : List Int) : List Int := r.map fun w => (p * w).fdiv r.sum
def ordW (p : Int) (r : List Int) : List D := srt ltB (restsAt p r.sum 0 r (partsW p r))
def leftW (p : Int) (r : List Int) : Int := p - (partsW p r).sum
def dueW (p : Int) (r : List Int) : List Int := bumps (partsW p r) ((ordW p r).take (leftW p r).toNat)
theorem parts_bounds (p W : Int) (hW : 0 < W) : ∀ r : List Int, (r.map fun w => (p * w).fdiv W).sum * W ≤ p * r.sum ∧ p * r.sum ≤ (r.map fun w => (p * w).fdiv W).sum * W + r.length * W
  | [] => by simp
  | w :: r => by
    obtain ⟨h1, h2⟩ := parts_bounds p W hW r
    have e := Int.mul_fdiv_add_fmod (p * w) W
    have f := fmod_lt (a := p * w) hW
    simp only [List.map_cons, List.sum_cons, List.length_cons]
    rw [Int.add_mul, Int.mul_add, Int.mul_comm ((p * w).fdiv W) W]
    have : ((r.length + 1 : Nat) : Int) * W = r.length * W + W := by rw [Int.natCast_add, Int.add_mul]; simp
    rw [this]
    omega
theorem left_bounds {p : Int} {r : List Int} (hW : 0 < r.sum) : 0 ≤ leftW p r ∧ leftW p r ≤ r.length := by
  obtain ⟨h1, h2⟩ := parts_bounds p r.sum hW r
  unfold leftW partsW
  have a := Int.le_of_mul_le_mul_right h1 hW
  rw [← Int.add_mul] at h2
  have b := Int.le_of_mul_le_mul_right h2 hW
  omega
theorem sum_nonneg : ∀ ws : List Int, (∀ w ∈ ws, 0 ≤ w) → 0 ≤ ws.sum
  | [], _ => by simp
  | w :: r, h => by
    have := sum_nonneg r fun x hx => h x (List.mem_cons_of_mem _ hx)
    have := h w (List.mem_cons_self ..)
    simp; omega
theorem sum_le {b : Int} : ∀ ws : List Int, (∀ w ∈ ws, w ≤ b) → ws.sum ≤ b * ws.length
  | [], _ => by simp
  | w :: r, h => by
    have := sum_le r fun x hx => h x (List.mem_cons_of_mem _ hx)
    have := h w (List.mem_cons_self ..)
    simp [Int.mul_add]; omega
theorem sum_ones : ∀ n : Nat, (List.replicate n (1 : Int)).sum = n
  | 0 => rfl
  | n + 1 => by rw [List.replicate_succ, List.sum_cons, sum_ones n]; omega
structure RowOk (r : List Int) : Prop where
  pos : 0 < r.sum
  le : r.sum ≤ 12000000
  len : r.length ≤ 12
theorem row_ok {ws : List Int} (h1 : 1 ≤ ws.length) (h2 : ws.length ≤ 12) (h3 : ∀ w ∈ ws, 0 ≤ w ∧ w ≤ 1000000) : RowOk (rowW ws) := by
  have s0 := sum_nonneg ws fun w hw => (h3 w hw).1
  have s1 := sum_le (b := 1000000) ws fun w hw => (h3 w hw).2
  unfold rowW
  by_cases z : ws.sum = 0
  · rw [if_pos z]
    exact ⟨by rw [sum_ones]; omega, by rw [sum_ones]; omega, by simpa using h2⟩
  · rw [if_neg z]
    exact ⟨by omega, by omega, h2⟩
theorem ord_len (p : Int) (r : List Int) : (ordW p r).length = r.length := by
  unfold ordW srt
  rw [len_srt, rests_len 0 r (partsW p r) (by simp [partsW])]
  simp [partsW]
theorem ord_good (p : Int) (r : List Int) : ∀ d ∈ ordW p r, good (partsW p r).length d := fun d h => by
  rcases mem_srt _ _ h with z | z
  · have := rests_good 0 r (partsW p r) d z
    rwa [Nat.zero_add] at this
  · cases z
theorem due_sum {p : Int} {r : List Int} (h : RowOk r) : (dueW p r).sum = p := by
  obtain ⟨l0, l1⟩ := left_bounds (p := p) h.pos
  unfold dueW
  rw [bumps_sum _ _ fun x hx => ord_good p r x (List.mem_of_mem_take hx), List.length_take, ord_len]
  unfold leftW at *
  omega
theorem srt_ok (p : Int) (r : List Int) : op1 .srt (.lst (restsAt p r.sum 0 r (partsW p r))) = some (.lst (ordW p r)) := by
  have : fitS (restsAt p r.sum 0 r (partsW p r)) = true := fit_ti _ fun d hd => by
    obtain ⟨a, k, e, _⟩ := rests_good 0 r (partsW p r) d hd
    exact ⟨a, k, e⟩
  show (if fitS _ = true then some (D.lst _) else none) = _
  rw [if_pos this]; rfl
end W

set_option linter.all false
set_option Elab.async false
set_option maxRecDepth 100000
set_option maxHeartbeats 1000000
namespace W
open G
/-! ### the program's def -/
theorem get_last (h : S) (c : Cell) : (h ++ [c])[h.length]? = some c := by simp
theorem set_last (h : S) (c d : Cell) : (h ++ [c]).set h.length d = h ++ [d] := by
  rw [List.set_append_right _ _ (Nat.le_refl _), Nat.sub_self]; rfl
abbrev ic (b : Bool) (xs : List Int) : Cell := .lst b (xs.map fun i => W.d (.int i))
theorem vw_last (h : S) (b : Bool) (xs : List Int) : vw (h ++ [ic b xs]) (.ref h.length) = some (.lst (xs.map .int)) := by
  unfold vw; simp only []; rw [get_last]; simp only []; rw [allD_ints]; rfl
theorem getL_last (h : S) (b : Bool) (xs : List Int) : getL (h ++ [ic b xs]) h.length = some (xs.map fun i => W.d (.int i)) := by unfold getL; rw [get_last]
theorem getM_last (h : S) (xs : List Int) : getM (h ++ [ic false xs]) h.length = some (xs.map fun i => W.d (.int i)) := by unfold getM; rw [get_last]
theorem open_last (h : S) (xs : List Int) : isOpen (h ++ [ic false xs]) (.ref h.length) = [h.length] := by unfold isOpen; simp only []; rw [get_last]
theorem lock_last (h : S) (xs : List Int) : lockAll (h ++ [ic false xs]) [h.length] = h ++ [ic true xs] := by
  show lockOne (h ++ [ic false xs]) h.length = _
  unfold lockOne; rw [get_last]; exact set_last _ _ _
theorem unlock_last (h : S) (xs : List Int) : openAll (h ++ [ic true xs]) [h.length] = h ++ [ic false xs] := by
  show openOne (h ++ [ic true xs]) h.length = _
  unfold openOne; rw [get_last]; exact set_last _ _ _
theorem run1_last (o : O1) (mt : Bool) (h : S) (b : Bool) (xs : List Int) : runO1 o mt (.ref h.length) (h ++ [ic b xs]) = (ofO (h ++ [ic b xs]) (op1 o (.lst (xs.map .int)))).bind fun z h => fin mt (new1 o) z h := by
  unfold runO1; rw [vw_last]; rfl
theorem low_sweep {h : S} (hl : h.all (lowC 0) = true) (l : S) : sweep h.length (h ++ l) = h := by
  unfold sweep
  split
  · rename_i e
    have e := eq_of_beq e
    rw [List.length_append] at e
    have : l = [] := List.length_eq_zero_iff.mp (by omega)
    rw [this, List.append_nil]
  · rw [List.take_left, if_pos]
    rw [List.all_eq_true] at hl ⊢
    intro c hc
    have := hl c hc
    cases c with
    | dead => rfl
    | lst b xs =>
      have this : xs.all (lowW 0) = true := this
      show xs.all (lowW h.length) = true
      rw [List.all_eq_true] at this ⊢
      intro w hw
      have := this w hw
      cases w <;> first | rfl | (simp [lowW] at this)
    | dct b kvs =>
      have this : kvs.all (fun p => lowW 0 p.2) = true := this
      show kvs.all (fun p => lowW h.length p.2) = true
      rw [List.all_eq_true] at this ⊢
      intro w hw
      have := this w hw
      cases q : w.2 <;> first | rfl | (rw [q] at this; simp [lowW] at this)
    | ins b fs =>
      have this : fs.all (fun p => lowW 0 p.2) = true := this
      show fs.all (fun p => lowW h.length p.2) = true
      rw [List.all_eq_true] at this ⊢
      intro w hw
      have := this w hw
      cases q : w.2 <;> first | rfl | (rw [q] at this; simp [lowW] at this)
def shComp : Ex := .comp true [5] (.o2 .fdiv false (.o2 .mul false (.var 0) (.var 5)) (.var 3)) (.nm 5) (.seq (.var 2))
def shElt : Ex := .tup (.cons (.o1 .neg false (.o2 .sub false (.o2 .mul false (.var 0) (.var 5)) (.o2 .mul false (.var 9) (.var 3)))) (.cons (.var 8) .nil))
def shTg : Tg := .tp (.cons (.nm 8) (.cons (.tp (.cons (.nm 5) (.cons (.nm 9) .nil))) .nil))
def shLoop : Sts := .cons (.augS (.var 4) (.var 8) (.int 1)) .nil
def shEnd : Sts := .cons (.for (.tp (.cons (.nm 10) (.cons (.nm 8) .nil))) (.seq (.slc false (.var 7) .no (.yes (.var 6)))) shLoop) (.cons (.ret (.o1 .toTup false (.var 4))) .nil)
def shSort : Sts := .cons (.asg (.nm 7) (.o1 .srt false (.comp false [5, 8, 9] shElt shTg (.enz (.var 2) (.var 4))))) shEnd
def shTail : Sts := .cons (.asg (.nm 3) (.o1 .sum false (.var 2))) (.cons (.lcs 4 shComp) (.cons (.asg (.nm 6) (.o2 .sub false (.var 0) (.o1 .sum false (.var 4)))) shSort))
def shAll : Sts := .cons (.expr (.call 3 (.cons (.var 0) (.cons (.int 0) (.cons (.int 0) (.cons (.int 100000000) .nil))))))
    (.cons (.asg (.nm 2) (.call 5 (.cons (.var 1) (.cons (.int 1) (.cons (.int 0) (.cons (.int 1000000) (.cons (.int 1) (.cons (.int 12) .nil))))))))
    (.cons (.ifs (.o2 .eq false (.o1 .sum false (.var 2)) (.int 0))
    (.cons (.asg (.nm 2) (.o2 .mul false (.tup (.cons (.int 1) .nil)) (.o1 .len false (.var 2))))
    .nil)
    .nil) shTail))
theorem b6_is : b6 = ⟨2, 11, [], shAll⟩ := rfl
section
variable {C : Calls} {p : Int} {v : D} {r : List Int} {h : S}
theorem loop_ok {W' : Int} {a5 a9 : Option W} {le : Int} {xs : List D} : ∀ (L : List D) (ps : List Int) (a8 a10 : Option W), (∀ x ∈ L, good ps.length x) →
    ∃ b8 b10, forGo (stepF C (.tp (.cons (.nm 10) (.cons (.nm 8) .nil))) shLoop) (L.map W.d) [some (.d (.int p)), some (.d v), some (.d (.tup (r.map .int))), some (.d (.int W')), some (.ref h.length), a5, some (.d (.int le)), some (.d (.lst xs)), a8, a9, a10] (h ++ [ic false ps]) =
      .ok (.nx [some (.d (.int p)), some (.d v), some (.d (.tup (r.map .int))), some (.d (.int W')), some (.ref h.length), a5, some (.d (.int le)), some (.d (.lst xs)), b8, a9, b10]) (h ++ [ic false (bumps ps L)])
  | [], ps, a8, a10, _ => ⟨a8, a10, rfl⟩
  | x :: L, ps, a8, a10, g => by
    obtain ⟨a, k, rfl, hk⟩ := g x (List.mem_cons_self ..)
    obtain ⟨b8, b10, e⟩ := loop_ok (W' := W') (a5 := a5) (a9 := a9) (le := le) (xs := xs) L (bump ps (ti a k)) (some (.d (.int k))) (some (.d (.int a))) (fun y hy => by rw [bump_len]; exact g y (List.mem_cons_of_mem _ hy))
    refine ⟨b8, b10, ?_⟩
    have e1 : atZ (ps.map fun i => W.d (.int i)) (k : Int) = some (.d (.int ps[k])) := by rw [atZ_nn (by omega)]; simp [hk]
    have e2 : ixZ ps.length (k : Int) = some k := by unfold ixZ; rw [if_pos (by omega), if_pos (by omega)]; simp
    have e3 : (h ++ [ic false ps]).set h.length (.lst false ((ps.map fun i => W.d (.int i)).set k (.d (.int (ps[k] + 1))))) = h ++ [ic false (bump ps (ti a k))] := by
      rw [set_last]; congr 3
      unfold bump
      simp only [Int.toNat_natCast]
      rw [List.map_set]; simp [List.getD, hk]
    show forGo _ (_ :: _) _ _ = _
    unfold forGo
    simp [stepF, shLoop, lenT, getL_last, getM_last, e1, e2, e3, addI]
    simp [shLoop] at e
    exact e
theorem sort_go {W' le : Int} (hp : p.natAbs < big64) (hW : W'.natAbs < big64) {a5 a7 a8 a9 a10 : Option W} (h' : S) : ∀ (xs qs : List Int) (k : Nat), xs.length = qs.length →
    compGo (stepC C [5, 8, 9] shTg shElt [some (.d (.int p)), some (.d v), some (.d (.tup (r.map .int))), some (.d (.int W')), some (.ref h.length), a5, some (.d (.int le)), a7, a8, a9, a10]) (enumOf k (zipOf (xs.map D.int) (qs.map D.int))) h' = .ok (restsAt p W' k xs qs) h'
  | [], [], k, _ => rfl
  | [], q :: qs, k, e => by simp at e
  | x :: xs, [], k, e => by simp at e
  | x :: xs, q :: qs, k, e => by
    have ih := sort_go hp hW (a5 := a5) (a7 := a7) (a8 := a8) (a9 := a9) (a10 := a10) (le := le) (W' := W') h' xs qs (k + 1) (by simpa using e)
    show compGo _ (W.d (.tup [.int (k : Nat), .tup [.int x, .int q]]) :: enumOf (k + 1) (zipOf (xs.map D.int) (qs.map D.int))) h' = _
    unfold compGo
    have st : stepC C [5, 8, 9] shTg shElt [some (.d (.int p)), some (.d v), some (.d (.tup (r.map .int))), some (.d (.int W')), some (.ref h.length), a5, some (.d (.int le)), a7, a8, a9, a10] (W.d (.tup [.int (k : Nat), .tup [.int x, .int q]])) h' = .ok (some (ti (-(p * x - q * W')) k)) h' := by
      simp [stepC, wipe, shTg, shElt, lenT, q_mul1 _ _ hp, q_mul2 _ _ hW, op1, new1, new2, allD]
    rw [st]
    show ((compGo _ _ h').bind _) = _
    rw [ih]
    rfl
theorem sumL_map (xs : List Int) : op1 .sum (.lst (xs.map D.int)) = some (.int xs.sum) := q_sumL xs
theorem ints_comp (xs : List Int) : (xs.map D.int).map W.d = xs.map fun i => W.d (.int i) := by rw [List.map_map]; rfl
theorem len_parts : (partsW p r).length = r.length := by simp [partsW]
theorem tail1 (ok : RowOk r) (hp : p.natAbs < big64) :
    exs C shTail [some (.d (.int p)), some (.d v), some (.d (.tup (r.map .int))), none, none, none, none, none, none, none, none] h =
      exs C shSort [some (.d (.int p)), some (.d v), some (.d (.tup (r.map .int))), some (.d (.int r.sum)), some (.ref h.length), none, some (.d (.int (leftW p r))), none, none, none, none] (h ++ [ic false (partsW p r)]) := by
  have e1 : op1 .sum (.tup (r.map D.int)) = some (.int r.sum) := q_sumT r
  have f1 : ∀ w : Int, op2 .fdiv (.int (p * w)) (.int r.sum) = some (.int ((p * w).fdiv r.sum)) := fun w => q_fdiv _ _ (by have := ok.pos; omega) (by have := ok.pos; have := ok.le; omega)
  have c1 := compGo_map (step := stepC C [5] (.nm 5) (.o2 .fdiv false (.o2 .mul false (.var 0) (.var 5)) (.var 3)) [some (.d (.int p)), some (.d v), some (.d (.tup (r.map .int))), some (.d (.int r.sum)), none, none, none, none, none, none, none]) (f := fun d => match d with | .int w => .int ((p * w).fdiv r.sum) | x => x) (h := h) (r.map D.int) fun x hx => by
    obtain ⟨w, _, rfl⟩ := List.mem_map.mp hx
    simp [stepC, wipe, q_mul1 _ _ hp, f1, new2]
  rw [List.map_map, List.map_map] at c1
  have c2 : ((fun d => match d with | .int w => D.int ((p * w).fdiv r.sum) | x => x) ∘ D.int) = D.int ∘ fun w => (p * w).fdiv r.sum := by funext w; rfl
  rw [c2, ← List.map_map (g := D.int)] at c1
  have lb : ((partsW p r).map D.int).length ≤ big := by rw [List.length_map, len_parts]; exact le_big (by have := ok.len; omega)
  have e2 : op1 .sum (.lst ((partsW p r).map D.int)) = some (.int (partsW p r).sum) := q_sumL _
  have c1 : compGo (stepC C [5] (.nm 5) (.o2 .fdiv false (.o2 .mul false (.var 0) (.var 5)) (.var 3)) [some (.d (.int p)), some (.d v), some (.d (.tup (r.map .int))), some (.d (.int r.sum)), none, none, none, none, none, none, none]) (r.map (W.d ∘ D.int)) h = .ok ((partsW p r).map D.int) h := c1
  have hd : (((partsW p r).map D.int).map W.d) = (partsW p r).map fun i => W.d (.int i) := by rw [List.map_map]; rfl
  simp only [shTail, exs_cons, ex_asg, ev_o1, ev_var, List.getElem?_cons_succ, List.getElem?_cons_zero, Option.bind_some, id, ofO_some, bind_ok, asked_ff, run1_d, e1, new1, fin_f, stg_nm, List.set_cons_succ, List.set_cons_zero, seqK_nx, ex_lcs, shComp, ev_comp, evit_seq, items_t, open_d, lock_0, List.map_map, c1, outC, cmpR_ok _ lb, openR_0, fin_t, putNew, ev_o2, run1_last, e2, run2_d, q_subi]
  rw [← List.map_map, hd]
  simp only [List.getElem?_cons_succ, List.getElem?_cons_zero, Option.bind_some, id, ofO_some, bind_ok, asked_ff, run1_last, e2, run2_d, q_subi, new1, new2, fin_f, List.set_cons_succ, List.set_cons_zero, seqK_nx]
  rfl
theorem tail2 (ok : RowOk r) (hp : p.natAbs < big64) :
    exs C shSort [some (.d (.int p)), some (.d v), some (.d (.tup (r.map .int))), some (.d (.int r.sum)), some (.ref h.length), none, some (.d (.int (leftW p r))), none, none, none, none] (h ++ [ic false (partsW p r)]) =
      exs C shEnd [some (.d (.int p)), some (.d v), some (.d (.tup (r.map .int))), some (.d (.int r.sum)), some (.ref h.length), none, some (.d (.int (leftW p r))), some (.d (.lst (ordW p r))), none, none, none] (h ++ [ic false (partsW p r)]) := by
  have hW : r.sum.natAbs < big64 := by have := ok.pos; have := ok.le; have : r.sum.natAbs < 18446744073709551616 := by omega
                                       exact this
  have c1 := sort_go (C := C) (v := v) (r := r) (h := h) (p := p) (W' := r.sum) (le := leftW p r) hp hW (a5 := none) (a7 := none) (a8 := none) (a9 := none) (a10 := none) (h ++ [ic true (partsW p r)]) r (partsW p r) 0 len_parts.symm
  have e1 : seqV (h ++ [ic false (partsW p r)]) (.ref h.length) = some ((partsW p r).map .int) := by unfold seqV; rw [vw_last]; rfl
  have e2 : seqV (h ++ [ic false (partsW p r)]) (.d (.tup (r.map .int))) = some (r.map .int) := rfl
  have lb : (restsAt p r.sum 0 r (partsW p r)).length ≤ big := by rw [rests_len _ _ _ len_parts.symm, len_parts]; exact le_big (by have := ok.len; omega)
  simp only [shSort, exs_cons, ex_asg, ev_o1, ev_var, ev_comp, evit_enz, List.getElem?_cons_succ, List.getElem?_cons_zero, Option.bind_some, id, ofO_some, bind_ok, asked_ff, e1, e2, open_d, open_last, List.nil_append, lock_last, c1, outC, cmpR_ok _ lb, fin_f, openR, unlock_last, run1_d, srt_ok, new1, stg_nm, List.set_cons_succ, List.set_cons_zero, seqK_nx]
theorem cutL_take {α : Type} (xs : List α) {i : Int} (h : 0 ≤ i) : cutL xs none (some i) = xs.take i.toNat := by
  unfold cutL cutZ
  simp only []
  rw [if_pos h]
  simp only [List.drop_zero, Nat.sub_zero]
  rcases Nat.le_total i.toNat xs.length with q | q
  · rw [Nat.min_eq_left q]
  · rw [Nat.min_eq_right q, List.take_length, List.take_of_length_le q]
theorem tail3 (ok : RowOk r) :
    exs C shEnd [some (.d (.int p)), some (.d v), some (.d (.tup (r.map .int))), some (.d (.int r.sum)), some (.ref h.length), none, some (.d (.int (leftW p r))), some (.d (.lst (ordW p r))), none, none, none] (h ++ [ic false (partsW p r)]) =
      .ok (.rt (.d (.tup ((dueW p r).map .int)))) (h ++ [ic false (dueW p r)]) := by
  obtain ⟨l0, l1⟩ := left_bounds (p := p) ok.pos
  have e1 : opS (.lst (ordW p r)) none (some (leftW p r)) = some (.lst ((ordW p r).take (leftW p r).toNat)) := by
    show some (D.lst (cutL _ _ _)) = _
    rw [cutL_take _ l0]
  obtain ⟨b8, b10, e⟩ := loop_ok (C := C) (p := p) (v := v) (r := r) (h := h) (W' := r.sum) (a5 := none) (a9 := none) (le := leftW p r) (xs := ordW p r) ((ordW p r).take (leftW p r).toNat) (partsW p r) none none fun x hx => ord_good p r x (List.mem_of_mem_take hx)
  have e2 : op1 .toTup (.lst ((dueW p r).map .int)) = some (.tup ((dueW p r).map .int)) := rfl
  have e : forGo (stepF C (.tp (.cons (.nm 10) (.cons (.nm 8) .nil))) shLoop) (((ordW p r).take (leftW p r).toNat).map W.d) [some (.d (.int p)), some (.d v), some (.d (.tup (r.map .int))), some (.d (.int r.sum)), some (.ref h.length), none, some (.d (.int (leftW p r))), some (.d (.lst (ordW p r))), none, none, none] (h ++ [ic false (partsW p r)]) =
      .ok (.nx [some (.d (.int p)), some (.d v), some (.d (.tup (r.map .int))), some (.d (.int r.sum)), some (.ref h.length), none, some (.d (.int (leftW p r))), some (.d (.lst (ordW p r))), b8, none, b10]) (h ++ [ic false (dueW p r)]) := e
  simp only [shEnd, exs_cons, ex_for, evit_seq, ev_slc, ev_var, evo_no, evo_yes, List.getElem?_cons_succ, List.getElem?_cons_zero, Option.bind_some, id, ofO_some, bind_ok, asked_ff, intW_i, vw_d, e1, fin_f, items_l, open_d, lock_0, e, openR_0, seqK_nx, ex_ret, ev_o1, run1_last, e2, new1, seqK_rt]
end
theorem shared_ok {n : Nat} {h : S} (hl : h.all (lowC 0) = true) {p : Int} {v : D} {ws : List Int} (hv : v = .lst (ws.map .int) ∨ v = .tup (ws.map .int)) (p0 : 0 ≤ p) (p1 : p ≤ 100000000) (h1 : 1 ≤ ws.length) (h2 : ws.length ≤ 12) (h3 : ∀ w ∈ ws, 0 ≤ w ∧ w ≤ 1000000) :
    runFn prog (n + 4) 6 [.d (.int p), .d v] h = .ok (.d (.tup ((dueW p (rowW ws)).map .int))) h := by
  have ok := row_ok h1 h2 h3
  have hp : p.natAbs < big64 := by have : p.natAbs < 18446744073709551616 := by omega
                                   exact this
  have e1 := intIn_spec (P := prog) (n := n) (k := 3) (kw := 1) (ki := 0) rfl rfl rfl p0 p1 (.int 0) h
  have e2 := intsIn_spec (P := prog) (n := n) (k := 5) (kw := 1) (kr := 4) (ki := 2) rfl rfl rfl (k2 := 0) rfl rfl hv (lo := 0) (up := 1000000) (least := 1) (most := 12) (by omega) (by omega) (by omega) h3 (.int 1) h
  have key : exs ⟨runFn prog (n + 3), fun k => prog.glbs[k]?⟩ shAll ([.d (.int p), .d v].map some ++ List.replicate 9 none) h = .ok (.rt (.d (.tup ((dueW p (rowW ws)).map .int)))) (h ++ [ic false (dueW p (rowW ws))]) := by
    have s1 : op1 .sum (.tup (ws.map D.int)) = some (.int ws.sum) := q_sumT ws
    have fin : exs ⟨runFn prog (n + 3), fun k => prog.glbs[k]?⟩ shTail [some (.d (.int p)), some (.d v), some (.d (.tup ((rowW ws).map .int))), none, none, none, none, none, none, none, none] h = .ok (.rt (.d (.tup ((dueW p (rowW ws)).map .int)))) (h ++ [ic false (dueW p (rowW ws))]) := by
      rw [tail1 ok hp, tail2 ok hp, tail3 ok]
    by_cases z : ws.sum = 0
    · have rw1 : rowW ws = List.replicate ws.length 1 := if_pos z
      have m1 : op2 .mul (.tup [.int 1]) (.int ws.length) = some (.tup ((rowW ws).map .int)) := by
        rw [q_repT (.int 1) (by omega) (by omega), rw1]; simp
      simp [shAll, e1, e2, s1, z, new1, new2, allD, m1]
      exact fin
    · have rw1 : rowW ws = ws := if_neg z
      rw [rw1] at fin ⊢
      have z' : (ws.sum == 0) = false := by simpa using z
      simp [shAll, e1, e2, s1, z', new1, new2]
      exact fin
  rw [run_ok (f := b6) rfl rfl (by rw [b6_is]; exact key)]
  show R.ok (W.d _) (sweep h.length (h ++ [ic false (dueW p (rowW ws))])) = _
  rw [low_sweep hl]
end W

set_option linter.all false
set_option Elab.async false
set_option maxRecDepth 100000
set_option maxHeartbeats 1000000
namespace W
open G
/-! ### the law's text, plainly -/
def lwW : Ex := .comp false [5] (.call 14 (.cons (.var 1) (.cons (.var 2) (.cons (.lst false (.cons (.int 0) (.cons (.int 1) (.cons (.int 7) (.cons (.call 11 (.cons (.var 1) (.cons (.var 2) (.cons (.int 1000001) .nil)))) .nil))))) .nil)))) (.nm 5) (.rng1 (.o2 .add false (.int 1) (.call 10 (.cons (.var 1) (.cons (.var 2) (.cons (.int 12) .nil))))))
def lwD : Ex := .comp true [11] (.o2 .fdiv false (.o2 .mul false (.var 6) (.var 11)) (.var 9)) (.nm 11) (.seq (.var 8))
def lwE : Ex := .tup (.cons (.o2 .sub false (.int 0) (.o2 .sub false (.o2 .mul false (.var 6) (.o2 .ix false (.var 8) (.var 5))) (.o2 .mul false (.o2 .ix false (.var 10) (.var 5)) (.var 9)))) (.cons (.var 5) .nil))
def lwL : Sts := .cons (.asg (.sub (.var 10) (.o2 .ix false (.o2 .ix false (.var 12) (.var 5)) (.int 1))) (.o2 .add false (.o2 .ix false (.var 10) (.o2 .ix false (.o2 .ix false (.var 12) (.var 5)) (.int 1))) (.int 1))) .nil
def lw4 : Sts := .cons (.ifs (.orc (.not (.call 7 (.cons (.var 7) (.cons (.o1 .toTup false (.var 10)) .nil)))) (.or1 (.o2 .ne false (.o1 .sum false (.var 7)) (.var 6)))) (.cons (.ret (.bl false)) .nil) .nil) .nil
def lw3 : Sts := .cons (.for (.nm 5) (.rng1 (.o2 .sub false (.var 6) (.o1 .sum false (.var 10)))) lwL) lw4
def lw2b : Sts := .cons (.asg (.nm 12) (.o1 .srt false (.comp false [5] lwE (.nm 5) (.rng1 (.o1 .len false (.var 8)))))) lw3
def lw2a : Sts := .cons (.asg (.nm 9) (.o1 .sum false (.var 8))) (.cons (.asg (.nm 10) lwD) lw2b)
def lw2 : Sts := .cons (.asg (.nm 8) (.ifx (.o2 .eq false (.o1 .sum false (.var 4)) (.int 0)) (.o2 .mul false (.lst false (.cons (.int 1) .nil)) (.o1 .len false (.var 4))) (.var 4))) lw2a
def lw1b : Sts := .cons (.asg (.nm 6) (.call 14 (.cons (.var 1) (.cons (.var 2) (.cons (.lst false (.cons (.int 0) (.cons (.int 1) (.cons (.int 100) (.cons (.call 11 (.cons (.var 1) (.cons (.var 2) (.cons (.int 100000001) .nil)))) (.cons (.int 100000000) .nil)))))) .nil)))))
    (.cons (.asg (.nm 7) (.call 6 (.cons (.var 6) (.cons (.call 13 (.cons (.var 1) (.cons (.var 2) (.cons (.o1 .toTup false (.var 4)) .nil)))) .nil)))) lw2)
def lw1a : Sts := .cons (.ifs (.o2 .eq false (.call 10 (.cons (.var 1) (.cons (.var 2) (.cons (.int 6) .nil)))) (.int 0)) (.cons (.asg (.nm 4) (.o2 .mul false (.lst false (.cons (.int 0) .nil)) (.o1 .len false (.var 4)))) .nil) .nil) lw1b
def lwAll : Sts := .cons (.lcs 4 lwW) lw1a
def lwLaw : Sts := .cons (.asg (.nm 1) (.call 8 (.cons (.var 0) .nil))) (.cons (.asg (.nm 2) (.lst true (.cons (.int 0) .nil))) (.cons (.for (.nm 3) (.rng1 (.int 6)) lwAll) (.cons (.ret (.bl true)) .nil)))
theorem b15_is : b15 = ⟨1, 13, [], lwLaw⟩ := rfl
theorem dr : Drw prog 9 10 := ⟨rfl, rfl⟩
/-- the names: what came before each turn does not matter -/
abbrev sg (sc : W) (row : List Int) (a3 a4 a5 a6 a7 a8 a9 a10 a11 a12 : Option W) : Lo := [some sc, some (.d (.lst (row.map .int))), some (.ref 0), a3, a4, a5, a6, a7, a8, a9, a10, a11, a12]
def low (t : S) : Prop := t.all (lowC 0) = true
theorem low_spt {s : Int} {t : S} (h : low t) : (spt s t).all (lowC 0) = true := by
  show (lowC 0 _ && t.all (lowC 0)) = true
  rw [h]; rfl
theorem low_snoc {t : S} (h : low t) (xs : List Int) : low (t ++ [ic false xs]) := by
  unfold low at *
  rw [List.all_append, h]
  simp [lowC, lowW]
def lv : Nat := 13
abbrev CC : Calls := ⟨runFn prog 13, fun k => prog.glbs[k]?⟩
variable {sc : W} {row : List Int} {a3 a4 a5 a6 a7 a8 a9 a10 a11 a12 : Option W} {p : Int} {r : List Int} {h : S}
theorem l4_ok (hs : op1 .sum (.tup ((dueW p r).map .int)) = some (.int p)) (hl : (dueW p r).length ≤ 1000) :
    exs CC lw4 (sg sc row a3 a4 a5 (some (.d (.int p))) (some (.d (.tup ((dueW p r).map .int)))) a8 a9 (some (.ref h.length)) a11 a12) (h ++ [ic false (dueW p r)]) =
      .ok (.nx (sg sc row a3 a4 a5 (some (.d (.int p))) (some (.d (.tup ((dueW p r).map .int)))) a8 a9 (some (.ref h.length)) a11 a12)) (h ++ [ic false (dueW p r)]) := by
  have c : cln 1 (.tup ((dueW p r).map .int)) = true := by
    unfold cln
    rw [Bool.and_eq_true]
    refine ⟨decide_eq_true (by rw [List.length_map]; exact le_big hl), ?_⟩
    induction (dueW p r) with
    | nil => rfl
    | cons x xs ih => show (cln 0 (.int x) && clns 0 (xs.map .int)) = true; rw [ih]; rfl
  have e : runFn prog 13 7 [.d (.tup ((dueW p r).map .int)), .d (.tup ((dueW p r).map .int))] (h ++ [ic false (dueW p r)]) = .ok (.d (.bl true)) (h ++ [ic false (dueW p r)]) := so_refl (P := prog) (k := 7) rfl 1 11 _ c _
  simp [lw4, run1_last, e, hs, new1, new2]
theorem l3_loop {W' : Int} {xs : List D} : ∀ (L : List D) (i : Nat) (ps : List Int) (a5 : Option W), (∀ x ∈ L, good ps.length x) → (∀ j x, L[j]? = some x → xs[i + j]? = some x) →
    ∃ b5, forGo (stepF CC (.nm 5) lwL) ((List.range L.length).map fun j => W.d (.int ((i + j : Nat) : Int))) (sg sc row a3 a4 a5 a6 a7 a8 a9 (some (.ref h.length)) a11 (some (.d (.lst xs)))) (h ++ [ic false ps]) =
      .ok (.nx (sg sc row a3 a4 b5 a6 a7 a8 a9 (some (.ref h.length)) a11 (some (.d (.lst xs))))) (h ++ [ic false (bumps ps L)])
  | [], i, ps, a5, _, _ => ⟨a5, rfl⟩
  | x :: L, i, ps, a5, g, gx => by
    obtain ⟨a, k, rfl, hk⟩ := g x (List.mem_cons_self ..)
    obtain ⟨b5, e⟩ := l3_loop (W' := W') (xs := xs) L (i + 1) (bump ps (ti a k)) (some (.d (.int ((i : Nat) : Int)))) (fun y hy => by rw [bump_len]; exact g y (List.mem_cons_of_mem _ hy)) (fun j y hj => by
      have := gx (j + 1) y (by simpa using hj)
      rwa [show i + 1 + j = i + (j + 1) by omega])
    refine ⟨b5, ?_⟩
    have e0 : atZ xs ((i : Nat) : Int) = some (ti a k) := by rw [atZ_nn (by omega)]; simpa using gx 0 _ rfl
    have e0' : atZ [D.int a, D.int k] 1 = some (.int k) := rfl
    have e1 : atZ (ps.map fun i => W.d (.int i)) (k : Int) = some (.d (.int ps[k])) := by rw [atZ_nn (by omega)]; simp [hk]
    have e2 : ixZ ps.length (k : Int) = some k := by unfold ixZ; rw [if_pos (by omega), if_pos (by omega)]; simp
    have e3 : (h ++ [ic false ps]).set h.length (.lst false ((ps.map fun i => W.d (.int i)).set k (.d (.int (ps[k] + 1))))) = h ++ [ic false (bump ps (ti a k))] := by
      rw [set_last]; congr 3
      unfold bump
      simp only [Int.toNat_natCast]
      rw [List.map_set]; simp [List.getD, hk]
    have er : ((List.range (ti a k :: L).length).map fun j => W.d (.int ((i + j : Nat) : Int))) = W.d (.int ((i : Nat) : Int)) :: ((List.range L.length).map fun j => W.d (.int ((i + 1 + j : Nat) : Int))) := by
      rw [List.length_cons, List.range_succ_eq_map, List.map_cons, List.map_map]
      congr 1
      apply List.map_congr_left
      intro j _
      show W.d (.int ((i + (j + 1) : Nat) : Int)) = _
      rw [show i + (j + 1) = i + 1 + j by omega]
    rw [er]
    unfold forGo
    simp [stepF, lwL, getL_last, getM_last, e0, e0', e1, e2, e3, new2]
    simp [lwL] at e
    exact e
theorem l3_ok (ok : RowOk r) {told : Option W}
    (h4' : ∀ b5, exs CC lw4 (sg sc row a3 a4 b5 (some (.d (.int p))) told a8 a9 (some (.ref h.length)) a11 (some (.d (.lst (ordW p r))))) (h ++ [ic false (dueW p r)]) = .ok (.nx (sg sc row a3 a4 b5 (some (.d (.int p))) told a8 a9 (some (.ref h.length)) a11 (some (.d (.lst (ordW p r)))))) (h ++ [ic false (dueW p r)])) :
    ∃ b5, exs CC lw3 (sg sc row a3 a4 a5 (some (.d (.int p))) told a8 a9 (some (.ref h.length)) a11 (some (.d (.lst (ordW p r))))) (h ++ [ic false (partsW p r)]) =
      .ok (.nx (sg sc row a3 a4 b5 (some (.d (.int p))) told a8 a9 (some (.ref h.length)) a11 (some (.d (.lst (ordW p r)))))) (h ++ [ic false (dueW p r)]) := by
  obtain ⟨l0, l1⟩ := left_bounds (p := p) ok.pos
  have tl : ((ordW p r).take (leftW p r).toNat).length = (leftW p r).toNat := by rw [List.length_take, ord_len]; omega
  obtain ⟨b5, e⟩ := l3_loop (W' := 0) (sc := sc) (row := row) (a3 := a3) (a4 := a4) (a6 := some (.d (.int p))) (a7 := told) (a8 := a8) (a9 := a9) (a11 := a11) (h := h) (xs := ordW p r) ((ordW p r).take (leftW p r).toNat) 0 (partsW p r) a5 (fun x hx => ord_good p r x (List.mem_of_mem_take hx)) (fun j x hj => by
    rw [Nat.zero_add]
    rw [List.getElem?_take] at hj
    split at hj
    · exact hj
    · cases hj)
  rw [tl] at e
  have er : rngOf 0 (leftW p r) = (List.range (leftW p r).toNat).map fun j => W.d (.int ((0 + j : Nat) : Int)) := by
    unfold rngOf
    rw [Int.sub_zero]
    apply List.map_congr_left
    intro j _
    simp
  have sm : small62 (leftW p r) = true := by
    have := ok.len
    unfold small62
    exact decide_eq_true (by omega)
  have e2 : op1 .sum (.lst ((partsW p r).map D.int)) = some (.int (partsW p r).sum) := q_sumL _
  have el : p - (partsW p r).sum = leftW p r := rfl
  refine ⟨b5, ?_⟩
  have e : forGo (stepF CC (.nm 5) lwL) (rngOf 0 (leftW p r)) (sg sc row a3 a4 a5 (some (.d (.int p))) told a8 a9 (some (.ref h.length)) a11 (some (.d (.lst (ordW p r))))) (h ++ [ic false (partsW p r)]) =
      .ok (.nx (sg sc row a3 a4 b5 (some (.d (.int p))) told a8 a9 (some (.ref h.length)) a11 (some (.d (.lst (ordW p r)))))) (h ++ [ic false (dueW p r)]) := by rw [er]; exact e
  simp only [lw3, exs_cons, ex_for, evit_rng1, ev_o2, ev_o1, ev_var, List.getElem?_cons_succ, List.getElem?_cons_zero, Option.bind_some, id, ofO_some, bind_ok, asked_ff, run1_last, e2, new1, new2, fin_f, run2_d, q_subi, el, intW_i, rgR_ok _ sm, lock_0, e, openR_0, seqK_nx, h4' b5]
theorem compGo_mapW {step : W → S → R (Option D)} {f : W → D} {h : S} : ∀ (xs : List W), (∀ x ∈ xs, step x h = .ok (some (f x)) h) → compGo step xs h = .ok (xs.map f) h
  | [], _ => rfl
  | x :: r, k => by
    unfold compGo
    rw [k x (List.mem_cons_self ..)]
    show ((compGo step r h).bind _) = _
    rw [compGo_mapW r fun y hy => k y (List.mem_cons_of_mem _ hy)]
    rfl
theorem l2b_ok (ok : RowOk r) (hp : p.natAbs < big64) (a11 a12 : Option W) :
    exs CC lw2b (sg sc row a3 a4 a5 (some (.d (.int p))) a7 (some (.d (.lst (r.map .int)))) (some (.d (.int r.sum))) (some (.ref h.length)) a11 a12) (h ++ [ic false (partsW p r)]) =
      exs CC lw3 (sg sc row a3 a4 a5 (some (.d (.int p))) a7 (some (.d (.lst (r.map .int)))) (some (.d (.int r.sum))) (some (.ref h.length)) a11 (some (.d (.lst (ordW p r))))) (h ++ [ic false (partsW p r)]) := by
  have hW : r.sum.natAbs < big64 := by have := ok.pos; have := ok.le; have : r.sum.natAbs < 18446744073709551616 := by omega
                                       exact this
  have c1 := compGo_mapW (step := stepC CC [5] (.nm 5) lwE (sg sc row a3 a4 a5 (some (.d (.int p))) a7 (some (.d (.lst (r.map .int)))) (some (.d (.int r.sum))) (some (.ref h.length)) a11 a12)) (h := h ++ [ic false (partsW p r)])
    (f := fun w => match w with | .d (.int k) => ti (-(p * r.getD k.toNat 0 - (partsW p r).getD k.toNat 0 * r.sum)) k | _ => .non) (rngOf 0 r.length) fun x hx => by
      obtain ⟨j, hj, ej⟩ := List.mem_iff_getElem.mp hx
      obtain ⟨rfl, hj2⟩ := rng_get (List.getElem?_eq_some_iff.mpr ⟨hj, ej⟩)
      have hj3 : j < r.length := by omega
      have hj4 : j < (partsW p r).length := by rw [len_parts]; exact hj3
      have g1 : atZ (r.map D.int) (j : Int) = some (.int r[j]) := by rw [atZ_nn (by omega)]; simp [hj3]
      have g2 : atZ ((partsW p r).map fun i => W.d (.int i)) (j : Int) = some (.d (.int (partsW p r)[j])) := by rw [atZ_nn (by omega)]; simp [hj4]
      simp [stepC, wipe, lwE, q_mul1 _ _ hp, q_mul2 _ _ hW, new2, allD, g1, g2, getL_last, hj3, hj4, List.getD]
  have c2 : (rngOf 0 r.length).map (fun w => match w with | .d (.int k) => ti (-(p * r.getD k.toNat 0 - (partsW p r).getD k.toNat 0 * r.sum)) k | _ => .non) = restsAt p r.sum 0 r (partsW p r) := by
    apply List.ext_getElem?
    intro j
    by_cases hj : j < r.length
    · have hj4 : j < (partsW p r).length := by rw [len_parts]; exact hj
      rw [rests_get 0 r (partsW p r) j hj hj4]
      unfold rngOf
      simp [hj, hj4, List.getD]
    · rw [List.getElem?_eq_none (by rw [List.length_map, rng_len]; omega), List.getElem?_eq_none (by rw [rests_len _ _ _ len_parts.symm, len_parts]; omega)]
  rw [c2] at c1
  have sm : small62 (r.length : Int) = true := sm_big (le_big (by have := ok.len; omega))
  have lb : (restsAt p r.sum 0 r (partsW p r)).length ≤ big := by rw [rests_len _ _ _ len_parts.symm, len_parts]; exact le_big (by have := ok.len; omega)
  simp only [lw2b, exs_cons, ex_asg, ev_o1, ev_comp, evit_rng1, ev_var, List.getElem?_cons_succ, List.getElem?_cons_zero, Option.bind_some, id, ofO_some, bind_ok, asked_ff, run1_d, q_lenl, List.length_map, new1, fin_f, intW_i, rgR_ok _ sm, lock_0, c1, outC, cmpR_ok _ lb, openR_0, srt_ok, stg_nm, List.set_cons_succ, List.set_cons_zero, seqK_nx]
theorem l2a_ok (ok : RowOk r) (hp : p.natAbs < big64) (a9 a10 a11 a12 : Option W) :
    exs CC lw2a (sg sc row a3 a4 a5 (some (.d (.int p))) a7 (some (.d (.lst (r.map .int)))) a9 a10 a11 a12) h =
      exs CC lw2b (sg sc row a3 a4 a5 (some (.d (.int p))) a7 (some (.d (.lst (r.map .int)))) (some (.d (.int r.sum))) (some (.ref h.length)) a11 a12) (h ++ [ic false (partsW p r)]) := by
  have e1 : op1 .sum (.lst (r.map D.int)) = some (.int r.sum) := q_sumL r
  have f1 : ∀ w : Int, op2 .fdiv (.int (p * w)) (.int r.sum) = some (.int ((p * w).fdiv r.sum)) := fun w => q_fdiv _ _ (by have := ok.pos; omega) (by have := ok.pos; have := ok.le; omega)
  have c1 := compGo_map (step := stepC CC [11] (.nm 11) (.o2 .fdiv false (.o2 .mul false (.var 6) (.var 11)) (.var 9)) (sg sc row a3 a4 a5 (some (.d (.int p))) a7 (some (.d (.lst (r.map .int)))) (some (.d (.int r.sum))) a10 a11 a12)) (f := fun d => match d with | .int w => .int ((p * w).fdiv r.sum) | x => x) (h := h) (r.map D.int) fun x hx => by
    obtain ⟨w, _, rfl⟩ := List.mem_map.mp hx
    simp [stepC, wipe, q_mul1 _ _ hp, f1, new2]
  have c2 : (r.map D.int).map (fun d => match d with | .int w => D.int ((p * w).fdiv r.sum) | x => x) = (partsW p r).map D.int := by
    unfold partsW
    rw [List.map_map, List.map_map]
    rfl
  rw [c2] at c1
  have lb : ((partsW p r).map D.int).length ≤ big := by rw [List.length_map, len_parts]; exact le_big (by have := ok.len; omega)
  have hd : (((partsW p r).map D.int).map W.d) = (partsW p r).map fun i => W.d (.int i) := by rw [List.map_map]; rfl
  simp only [lw2a, lwD, exs_cons, ex_asg, ev_o1, ev_var, ev_comp, evit_seq, List.getElem?_cons_succ, List.getElem?_cons_zero, Option.bind_some, id, ofO_some, bind_ok, asked_ff, run1_d, e1, new1, fin_f, stg_nm, List.set_cons_succ, List.set_cons_zero, seqK_nx, items_l, open_d, lock_0, c1, outC, cmpR_ok _ lb, openR_0, fin_t, putNew]
  rw [hd]
theorem l2_ok {ws : List Int} (h1 : ws.length ≤ 12) (a8 a9 a10 a11 a12 : Option W) :
    exs CC lw2 (sg sc row a3 (some (.d (.lst (ws.map .int)))) a5 a6 a7 a8 a9 a10 a11 a12) h = exs CC lw2a (sg sc row a3 (some (.d (.lst (ws.map .int)))) a5 a6 a7 (some (.d (.lst ((rowW ws).map .int)))) a9 a10 a11 a12) h := by
  have e1 : op1 .sum (.lst (ws.map D.int)) = some (.int ws.sum) := q_sumL ws
  by_cases z : ws.sum = 0
  · have m1 : op2 .mul (.lst [.int 1]) (.int ws.length) = some (.lst ((rowW ws).map .int)) := by
      rw [q_repL (.int 1) (by omega) (by omega), show rowW ws = List.replicate ws.length 1 from if_pos z]; simp
    simp [lw2, e1, z, new1, new2, allD, m1]
  · have z' : (ws.sum == 0) = false := by simpa using z
    simp [lw2, e1, z', new1, new2, show rowW ws = ws from if_neg z]
/-- from the parts on -/
theorem rest_ok {ws : List Int} (h1 : 1 ≤ ws.length) (h2 : ws.length ≤ 12) (h3 : ∀ w ∈ ws, 0 ≤ w ∧ w ≤ 1000000) (p0 : 0 ≤ p) (p1 : p ≤ 100000000) (a8 a9 a10 a11 a12 : Option W) :
    ∃ b5 b8 b9 b10 b11 b12 l, exs CC lw2 (sg sc row a3 (some (.d (.lst (ws.map .int)))) a5 (some (.d (.int p))) (some (.d (.tup ((dueW p (rowW ws)).map .int)))) a8 a9 a10 a11 a12) h =
      .ok (.nx (sg sc row a3 (some (.d (.lst (ws.map .int)))) b5 (some (.d (.int p))) (some (.d (.tup ((dueW p (rowW ws)).map .int)))) b8 b9 b10 b11 b12)) (h ++ [ic false l]) := by
  have ok := row_ok h1 h2 h3
  have hp : p.natAbs < big64 := by have : p.natAbs < 18446744073709551616 := by omega
                                   exact this
  have hs : op1 .sum (.tup ((dueW p (rowW ws)).map .int)) = some (.int p) := by rw [q_sumT, due_sum ok]
  have hl : (dueW p (rowW ws)).length ≤ 1000 := by
    unfold dueW
    rw [bumps_len, len_parts]
    have := ok.len; omega
  obtain ⟨b5, e⟩ := l3_ok (sc := sc) (row := row) (a3 := a3) (a4 := some (.d (.lst (ws.map .int)))) (a5 := a5) (a8 := some (.d (.lst ((rowW ws).map .int)))) (a9 := some (.d (.int (rowW ws).sum))) (a11 := a11) (p := p) (r := rowW ws) (h := h) ok (told := some (.d (.tup ((dueW p (rowW ws)).map .int)))) (fun b5 => l4_ok hs hl)
  refine ⟨b5, some (.d (.lst ((rowW ws).map .int))), some (.d (.int (rowW ws).sum)), some (.ref h.length), a11, some (.d (.lst (ordW p (rowW ws)))), dueW p (rowW ws), ?_⟩
  rw [l2_ok h2, l2a_ok ok hp, l2b_ok ok hp]
  exact e
theorem l1b_ok (hr : row ≠ []) {ws : List Int} (h1 : 1 ≤ ws.length) (h2 : ws.length ≤ 12) (h3 : ∀ w ∈ ws, 0 ≤ w ∧ w ≤ 1000000) {s : Int} (s0 : 0 ≤ s) {t : S} (lt : low t) (a5 a6 a7 a8 a9 a10 a11 a12 : Option W) :
    ∃ b4 b5 b6 b7 b8 b9 b10 b11 b12 l s', 0 ≤ s' ∧ exs CC lw1b (sg sc row a3 (some (.d (.lst (ws.map .int)))) a5 a6 a7 a8 a9 a10 a11 a12) (spt s t) = .ok (.nx (sg sc row a3 b4 b5 b6 b7 b8 b9 b10 b11 b12)) (spt s' t ++ [ic false l]) := by
  obtain ⟨w, w0, w1, ew⟩ := wide_spec (P := prog) (n := 10) (kw := 11) dr rfl hr (lim := 100000001) s0 (by omega) t
  obtain ⟨x, hx, ex'⟩ := pick_spec (P := prog) (n := 10) (kp := 14) dr rfl hr (s := s + 1 + 1 + 1) (xs := [.int 0, .int 1, .int 100, .int w, .int 100000000]) (by omega) (by simp) t
  obtain ⟨p, rfl, p0, p1⟩ : ∃ p : Int, x = .int p ∧ 0 ≤ p ∧ p ≤ 100000000 := by
    simp at hx
    rcases hx with z | z | z | z | z <;> exact ⟨_, z, by omega, by omega⟩
  have hd : dpt 1 (.tup (ws.map .int)) = true := by
    unfold dpt
    rw [Bool.and_eq_true]
    refine ⟨decide_eq_true (by rw [List.length_map]; exact le_big (by omega)), ?_⟩
    clear h1 h2 h3
    induction ws with
    | nil => rfl
    | cons x xs ih => show (dpt 0 (.int x) && dpts 0 (xs.map .int)) = true; rw [ih]; rfl
  have hd10 : dpt 10 (.tup (ws.map .int)) = true := by
    unfold dpt
    rw [Bool.and_eq_true]
    refine ⟨decide_eq_true (by rw [List.length_map]; exact le_big (by omega)), ?_⟩
    clear h1 h2 h3 hd
    induction ws with
    | nil => rfl
    | cons x xs ih => show (dpt 9 (.int x) && dpts 9 (xs.map .int)) = true; rw [ih]; rfl
  obtain ⟨y, hy, ey⟩ := handed_spec (P := prog) (n := 10) (kl := 12) (kh := 13) dr rfl rfl hr (s := s + 1 + 1 + 1 + 1) (by omega) hd10 t
  have hv : y = .lst (ws.map .int) ∨ y = .tup (ws.map .int) := by
    rcases hy with z | z
    · exact .inr z
    · refine .inl ?_
      rw [z]
      unfold lsd
      rw [lsds_map, List.map_map]
      rfl
  have es := shared_ok (n := 9) (h := spt (s + 1 + 1 + 1 + 1 + 1) t) (low_spt lt) hv p0 p1 h1 h2 h3
  obtain ⟨b5, b8, b9, b10, b11, b12, l, e⟩ := rest_ok (sc := sc) (row := row) (a3 := a3) (a5 := a5) (h := spt (s + 1 + 1 + 1 + 1 + 1) t) h1 h2 h3 p0 p1 a8 a9 a10 a11 a12
  refine ⟨some (.d (.lst (ws.map .int))), b5, some (.d (.int p)), some (.d (.tup ((dueW p (rowW ws)).map .int))), b8, b9, b10, b11, b12, l, s + 1 + 1 + 1 + 1 + 1, by omega, ?_⟩
  refine Eq.trans ?_ e
  simp [lw1b, ew, ex', ey, es, allD, new1]
theorem l1a_ok (hr : row ≠ []) {ws : List Int} (h1 : 1 ≤ ws.length) (h2 : ws.length ≤ 12) (h3 : ∀ w ∈ ws, 0 ≤ w ∧ w ≤ 1000000) {s : Int} (s0 : 0 ≤ s) {t : S} (lt : low t) (a5 a6 a7 a8 a9 a10 a11 a12 : Option W) :
    ∃ b4 b5 b6 b7 b8 b9 b10 b11 b12 l s', 0 ≤ s' ∧ exs CC lw1a (sg sc row a3 (some (.d (.lst (ws.map .int)))) a5 a6 a7 a8 a9 a10 a11 a12) (spt s t) = .ok (.nx (sg sc row a3 b4 b5 b6 b7 b8 b9 b10 b11 b12)) (spt s' t ++ [ic false l]) := by
  obtain ⟨w, w0, w1, ew⟩ := take_spec (P := prog) (n := 11) dr hr (lim := 6) s0 (by omega) t
  by_cases z : w = 0
  · have m1 : op2 .mul (.lst [.int 0]) (.int ws.length) = some (.lst ((List.replicate ws.length (0 : Int)).map .int)) := by
      rw [q_repL (.int 0) (by omega) (by omega)]; simp
    obtain ⟨b4, b5, b6, b7, b8, b9, b10, b11, b12, l, s', q0, q⟩ := l1b_ok (sc := sc) (a3 := a3) hr (ws := List.replicate ws.length 0) (by simpa using h1) (by simpa using h2) (fun w hw => by rw [List.mem_replicate] at hw; omega) (s := s + 1) (by omega) lt a5 a6 a7 a8 a9 a10 a11 a12
    refine ⟨b4, b5, b6, b7, b8, b9, b10, b11, b12, l, s', q0, ?_⟩
    refine Eq.trans ?_ q
    simp [lw1a, ew, z, new1, new2, allD, m1]
  · have z' : (w == 0) = false := by simpa using z
    obtain ⟨b4, b5, b6, b7, b8, b9, b10, b11, b12, l, s', q0, q⟩ := l1b_ok (sc := sc) (a3 := a3) hr h1 h2 h3 (s := s + 1) (by omega) lt a5 a6 a7 a8 a9 a10 a11 a12
    refine ⟨b4, b5, b6, b7, b8, b9, b10, b11, b12, l, s', q0, ?_⟩
    refine Eq.trans ?_ q
    simp [lw1a, ew, z', new1, new2]
theorem all_ok (hr : row ≠ []) {s : Int} (s0 : 0 ≤ s) {t : S} (lt : low t) (a4 a5 a6 a7 a8 a9 a10 a11 a12 : Option W) :
    ∃ b4 b5 b6 b7 b8 b9 b10 b11 b12 l s', 0 ≤ s' ∧ exs CC lwAll (sg sc row a3 a4 a5 a6 a7 a8 a9 a10 a11 a12) (spt s t) = .ok (.nx (sg sc row a3 b4 b5 b6 b7 b8 b9 b10 b11 b12)) (spt s' t ++ [ic false l]) := by
  obtain ⟨w, w0, w1, ew⟩ := take_spec (P := prog) (n := 11) dr hr (lim := 12) s0 (by omega) t
  obtain ⟨ds, h', e, ws, k0, s1, k1, k2, k3, k4⟩ := compGo_inv (step := stepC CC [5] (.nm 5) (.call 14 (.cons (.var 1) (.cons (.var 2) (.cons (.lst false (.cons (.int 0) (.cons (.int 1) (.cons (.int 7) (.cons (.call 11 (.cons (.var 1) (.cons (.var 2) (.cons (.int 1000001) .nil)))) .nil))))) .nil)))) (sg sc row a3 a4 a5 a6 a7 a8 a9 a10 a11 a12))
    (I := fun i ds h => ∃ ws : List Int, ws.length = i ∧ ∃ s1, 0 ≤ s1 ∧ h = spt s1 t ∧ ds = ws.map .int ∧ ∀ w ∈ ws, 0 ≤ w ∧ w ≤ 1000000) (rngOf 0 (1 + w)) 0 [] (spt (s + 1) t) ⟨[], rfl, s + 1, by omega, rfl, rfl, fun _ h => by simp at h⟩ fun j x ds h ej ⟨ws, k0, s1, k1, k2, k3, k4⟩ => by
      subst k2; subst k3
      obtain ⟨w', q0, q1, eq⟩ := wide_spec (P := prog) (n := 10) (kw := 11) dr rfl hr (lim := 1000001) k1 (by omega) t
      obtain ⟨x', hx, ex'⟩ := pick_spec (P := prog) (n := 10) (kp := 14) dr rfl hr (s := s1 + 1 + 1 + 1) (xs := [.int 0, .int 1, .int 7, .int w']) (by omega) (by simp) t
      obtain ⟨p, rfl, p0, p1⟩ : ∃ p : Int, x' = .int p ∧ 0 ≤ p ∧ p ≤ 1000000 := by
        simp at hx
        rcases hx with z | z | z | z <;> exact ⟨_, z, by omega, by omega⟩
      refine ⟨.int p, spt (s1 + 1 + 1 + 1 + 1) t, ?_, ws ++ [p], by simp; omega, _, by omega, rfl, by simp, fun v hv => ?_⟩
      · simp [stepC, wipe, eq, ex', allD]
      · rcases List.mem_append.mp hv with z | z
        · exact k4 v z
        · simp at z; subst z; exact ⟨p0, p1⟩
  subst k2
  rw [List.nil_append] at k3
  subst k3
  rw [rng_len] at k0
  have sm : small62 (1 + w) = true := by unfold small62; exact decide_eq_true (by omega)
  have lb : (ws.map D.int).length ≤ big := by rw [List.length_map]; exact le_big (by omega)
  obtain ⟨b4, b5, b6, b7, b8, b9, b10, b11, b12, l, s', q0, q⟩ := l1a_ok (sc := sc) (a3 := a3) hr (ws := ws) (by omega) (by omega) k4 k1 lt a5 a6 a7 a8 a9 a10 a11 a12
  refine ⟨b4, b5, b6, b7, b8, b9, b10, b11, b12, l, s', q0, ?_⟩
  refine Eq.trans ?_ q
  simp [lwAll, lwW, ew, new2, rgR_ok _ sm, e, outC, cmpR_ok _ lb]
theorem law_true : ∀ ns : List Int, ns.length ≤ 63 → ∃ h, runFn prog 14 15 [.d (.scr (ns.map D.int))] [] = .ok (.d (.bl true)) h := fun ns _ => by
  obtain ⟨row, hr, er⟩ := nums_spec (P := prog) (n := 12) (k := 8) rfl ns
  obtain ⟨σ', h', e, hI⟩ := forGo_inv (step := stepF CC (.nm 3) lwAll) (I := fun _ σ h => ∃ s t a3 a4 a5 a6 a7 a8 a9 a10 a11 a12, 0 ≤ s ∧ low t ∧ h = spt s t ∧ σ = sg (.d (.scr (ns.map D.int))) row a3 a4 a5 a6 a7 a8 a9 a10 a11 a12) (rngOf 0 6) 0
    (sg (.d (.scr (ns.map D.int))) row none none none none none none none none none none) (spt 0 []) ⟨0, [], _, _, _, _, _, _, _, _, _, _, by omega, rfl, rfl, rfl⟩ fun j x σ h _ ⟨s, t, a3, a4, a5, a6, a7, a8, a9, a10, a11, a12, s0, lt, eh, es⟩ => by
      subst eh; subst es
      obtain ⟨b4, b5, b6, b7, b8, b9, b10, b11, b12, l, s', q0, q⟩ := all_ok (sc := .d (.scr (ns.map D.int))) (a3 := some x) hr s0 lt a4 a5 a6 a7 a8 a9 a10 a11 a12
      refine ⟨sg (.d (.scr (ns.map D.int))) row (some x) b4 b5 b6 b7 b8 b9 b10 b11 b12, spt s' (t ++ [ic false l]), .inl ?_, s', t ++ [ic false l], some x, b4, b5, b6, b7, b8, b9, b10, b11, b12, q0, low_snoc lt l, rfl, rfl⟩
      simp [stepF, q]
  obtain ⟨s, t, a3, a4, a5, a6, a7, a8, a9, a10, a11, a12, s0, lt, eh, es⟩ := hI
  refine ⟨sweep 0 h', ?_⟩
  rw [run_ok (f := b15) (w := .d (.bl true)) (h1 := h') rfl rfl]
  · rfl
  · rw [b15_is]
    have e' : forGo (stepF CC (.nm 3) lwAll) (rngOf 0 6) (sg (.d (.scr (ns.map D.int))) row none none none none none none none none none none) [.lst false [.d (.int 0)]] = .ok (.nx σ') h' := e
    simp [lwLaw, er, putNew]
    rw [rgR_ok _ (by decide)]
    simp [e']
end W

set_option linter.all false
set_option Elab.async false
set_option maxRecDepth 100000
set_option maxHeartbeats 1000000
namespace W
open PySem L2 PyProof.Rows G

theorem txt {K : PySem.W.Frag} {h : Heap} {mg : Str → Option Value} {f0 f1 f2 f3 f4 f5 f6 f7 f8 f9 f10 f11 f12 f13 f14 f15 : Addr} (X : K.In h) (G : h.Ns mainGlobals mg)
    {od0 an0 od1 an1 od2 an2 od3 an3 od4 an4 od5 an5 od6 an6 od7 an7 od8 an8 od9 an9 od10 an10 od11 an11 od12 an12 od13 an13 od14 an14 od15 an15 : Option Addr} {sl0 sl1 sl2 sl3 sl4 sl5 sl6 sl7 sl8 sl9 sl10 sl11 sl12 sl13 sl14 sl15 : Array (Option Value)}
    {oc0 kV0 dc0 pm0 cd0 ct0 oc1 kV1 dc1 pm1 cd1 ct1 oc2 kV2 dc2 pm2 cd2 ct2 oc3 kV3 dc3 pm3 cd3 ct3 oc4 kV4 dc4 pm4 cd4 ct4 oc5 kV5 dc5 pm5 cd5 ct5 oc6 kV6 dc6 pm6 cd6 ct6 oc7 kV7 dc7 pm7 cd7 ct7 oc8 kV8 dc8 pm8 cd8 ct8 oc9 kV9 dc9 pm9 cd9 ct9 oc10 kV10 dc10 pm10 cd10 ct10 oc11 kV11 dc11 pm11 cd11 ct11 oc12 kV12 dc12 pm12 cd12 ct12 oc13 kV13 dc13 pm13 cd13 ct13 oc14 kV14 dc14 pm14 cd14 ct14 oc15 kV15 dc15 pm15 cd15 ct15 : Value}
    (a0 : PySem.W.nsIn K mainGlobals "is_integer" = some (some (.ref f0)))
    (l0 : K.lookup f0 = some ⟨oc0, od0, .func (PySem.W.fnOf "is_integer" "is_integer" (defArgs (st 4)) (defBody (st 4)) (defScope (st 4)) .none kV0 dc0 pm0 an0 cd0 ct0), sl0⟩) (c0 : PySem.W.codeIn K cd0 "is_integer" = true) (k0 : PySem.W.keepIn K (.ref f0) = true)
    (a1 : PySem.W.nsIn K mainGlobals "is_within" = some (some (.ref f1)))
    (l1 : K.lookup f1 = some ⟨oc1, od1, .func (PySem.W.fnOf "is_within" "is_within" (defArgs (st 5)) (defBody (st 5)) (defScope (st 5)) .none kV1 dc1 pm1 an1 cd1 ct1), sl1⟩) (c1 : PySem.W.codeIn K cd1 "is_within" = true) (k1 : PySem.W.keepIn K (.ref f1) = true)
    (a2 : PySem.W.nsIn K mainGlobals "is_row" = some (some (.ref f2)))
    (l2 : K.lookup f2 = some ⟨oc2, od2, .func (PySem.W.fnOf "is_row" "is_row" (defArgs (st 6)) (defBody (st 6)) (defScope (st 6)) .none kV2 dc2 pm2 an2 cd2 ct2), sl2⟩) (c2 : PySem.W.codeIn K cd2 "is_row" = true) (k2 : PySem.W.keepIn K (.ref f2) = true)
    (a3 : PySem.W.nsIn K mainGlobals "integer_in" = some (some (.ref f3)))
    (l3 : K.lookup f3 = some ⟨oc3, od3, .func (PySem.W.fnOf "integer_in" "integer_in" (defArgs (st 7)) (defBody (st 7)) (defScope (st 7)) .none kV3 dc3 pm3 an3 cd3 ct3), sl3⟩) (c3 : PySem.W.codeIn K cd3 "integer_in" = true) (k3 : PySem.W.keepIn K (.ref f3) = true)
    (a4 : PySem.W.nsIn K mainGlobals "row_in" = some (some (.ref f4)))
    (l4 : K.lookup f4 = some ⟨oc4, od4, .func (PySem.W.fnOf "row_in" "row_in" (defArgs (st 8)) (defBody (st 8)) (defScope (st 8)) .none kV4 dc4 pm4 an4 cd4 ct4), sl4⟩) (c4 : PySem.W.codeIn K cd4 "row_in" = true) (k4 : PySem.W.keepIn K (.ref f4) = true)
    (a5 : PySem.W.nsIn K mainGlobals "integers_in" = some (some (.ref f5)))
    (l5 : K.lookup f5 = some ⟨oc5, od5, .func (PySem.W.fnOf "integers_in" "integers_in" (defArgs (st 9)) (defBody (st 9)) (defScope (st 9)) .none kV5 dc5 pm5 an5 cd5 ct5), sl5⟩) (c5 : PySem.W.codeIn K cd5 "integers_in" = true) (k5 : PySem.W.keepIn K (.ref f5) = true)
    (a6 : PySem.W.nsIn K mainGlobals "shared" = some (some (.ref f6)))
    (l6 : K.lookup f6 = some ⟨oc6, od6, .func (PySem.W.fnOf "shared" "shared" (defArgs (st 11)) (defBody (st 11)) (defScope (st 11)) .none kV6 dc6 pm6 an6 cd6 ct6), sl6⟩) (c6 : PySem.W.codeIn K cd6 "shared" = true) (k6 : PySem.W.keepIn K (.ref f6) = true)
    (a7 : PySem.W.nsIn K mainGlobals "_law_so" = some (some (.ref f7)))
    (l7 : K.lookup f7 = some ⟨oc7, od7, .func (PySem.W.fnOf "_law_so" "_law_so" (defArgs (st 13)) (defBody (st 13)) (defScope (st 13)) .none kV7 dc7 pm7 an7 cd7 ct7), sl7⟩) (c7 : PySem.W.codeIn K cd7 "_law_so" = true) (k7 : PySem.W.keepIn K (.ref f7) = true)
    (a8 : PySem.W.nsIn K mainGlobals "_law_numbers" = some (some (.ref f8)))
    (l8 : K.lookup f8 = some ⟨oc8, od8, .func (PySem.W.fnOf "_law_numbers" "_law_numbers" (defArgs (st 14)) (defBody (st 14)) (defScope (st 14)) .none kV8 dc8 pm8 an8 cd8 ct8), sl8⟩) (c8 : PySem.W.codeIn K cd8 "_law_numbers" = true) (k8 : PySem.W.keepIn K (.ref f8) = true)
    (a9 : PySem.W.nsIn K mainGlobals "_law_draw" = some (some (.ref f9)))
    (l9 : K.lookup f9 = some ⟨oc9, od9, .func (PySem.W.fnOf "_law_draw" "_law_draw" (defArgs (st 15)) (defBody (st 15)) (defScope (st 15)) .none kV9 dc9 pm9 an9 cd9 ct9), sl9⟩) (c9 : PySem.W.codeIn K cd9 "_law_draw" = true) (k9 : PySem.W.keepIn K (.ref f9) = true)
    (a10 : PySem.W.nsIn K mainGlobals "_law_take" = some (some (.ref f10)))
    (l10 : K.lookup f10 = some ⟨oc10, od10, .func (PySem.W.fnOf "_law_take" "_law_take" (defArgs (st 16)) (defBody (st 16)) (defScope (st 16)) .none kV10 dc10 pm10 an10 cd10 ct10), sl10⟩) (c10 : PySem.W.codeIn K cd10 "_law_take" = true) (k10 : PySem.W.keepIn K (.ref f10) = true)
    (a11 : PySem.W.nsIn K mainGlobals "_law_wide" = some (some (.ref f11)))
    (l11 : K.lookup f11 = some ⟨oc11, od11, .func (PySem.W.fnOf "_law_wide" "_law_wide" (defArgs (st 17)) (defBody (st 17)) (defScope (st 17)) .none kV11 dc11 pm11 an11 cd11 ct11), sl11⟩) (c11 : PySem.W.codeIn K cd11 "_law_wide" = true) (k11 : PySem.W.keepIn K (.ref f11) = true)
    (a12 : PySem.W.nsIn K mainGlobals "_law_listed" = some (some (.ref f12)))
    (l12 : K.lookup f12 = some ⟨oc12, od12, .func (PySem.W.fnOf "_law_listed" "_law_listed" (defArgs (st 18)) (defBody (st 18)) (defScope (st 18)) .none kV12 dc12 pm12 an12 cd12 ct12), sl12⟩) (c12 : PySem.W.codeIn K cd12 "_law_listed" = true) (k12 : PySem.W.keepIn K (.ref f12) = true)
    (a13 : PySem.W.nsIn K mainGlobals "_law_handed" = some (some (.ref f13)))
    (l13 : K.lookup f13 = some ⟨oc13, od13, .func (PySem.W.fnOf "_law_handed" "_law_handed" (defArgs (st 19)) (defBody (st 19)) (defScope (st 19)) .none kV13 dc13 pm13 an13 cd13 ct13), sl13⟩) (c13 : PySem.W.codeIn K cd13 "_law_handed" = true) (k13 : PySem.W.keepIn K (.ref f13) = true)
    (a14 : PySem.W.nsIn K mainGlobals "_law_pick" = some (some (.ref f14)))
    (l14 : K.lookup f14 = some ⟨oc14, od14, .func (PySem.W.fnOf "_law_pick" "_law_pick" (defArgs (st 20)) (defBody (st 20)) (defScope (st 20)) .none kV14 dc14 pm14 an14 cd14 ct14), sl14⟩) (c14 : PySem.W.codeIn K cd14 "_law_pick" = true) (k14 : PySem.W.keepIn K (.ref f14) = true)
    (a15 : PySem.W.nsIn K mainGlobals "law" = some (some (.ref f15)))
    (l15 : K.lookup f15 = some ⟨oc15, od15, .func (PySem.W.fnOf "law" "law" (defArgs (st 21)) (defBody (st 21)) (defScope (st 21)) .none kV15 dc15 pm15 an15 cd15 ct15), sl15⟩) (c15 : PySem.W.codeIn K cd15 "law" = true) (k15 : PySem.W.keepIn K (.ref f15) = true)
    (z0 : PySem.W.nsIn K mainGlobals "len" = some none)
    (z1 : PySem.W.nsIn K mainGlobals "tuple" = some none)
    (z2 : PySem.W.nsIn K mainGlobals "list" = some none)
    (z3 : PySem.W.nsIn K mainGlobals "sum" = some none)
    (z4 : PySem.W.nsIn K mainGlobals "all" = some none)
    (z5 : PySem.W.nsIn K mainGlobals "any" = some none)
    (z6 : PySem.W.nsIn K mainGlobals "int" = some none)
    (z7 : PySem.W.nsIn K mainGlobals "sorted" = some none)
    (z8 : PySem.W.nsIn K mainGlobals "isinstance" = some none)
    (z9 : PySem.W.nsIn K mainGlobals "max" = some none)
    (z10 : PySem.W.nsIn K mainGlobals "min" = some none)
    (z11 : PySem.W.nsIn K mainGlobals "range" = some none)
    (z12 : PySem.W.nsIn K mainGlobals "enumerate" = some none)
    (z13 : PySem.W.nsIn K mainGlobals "zip" = some none)
    (z14 : PySem.W.nsIn K mainGlobals "str" = some none)
    (z15 : PySem.W.nsIn K mainGlobals "bool" = some none)
    (z16 : PySem.W.nsIn K mainGlobals "set" = some none)
    (z17 : PySem.W.nsIn K mainGlobals "reversed" = some none)
    (z18 : PySem.W.nsIn K mainGlobals "abs" = some none)
    (z19 : PySem.W.nsIn K mainGlobals "dict" = some none)
    : ∃ F : Nat → Addr, Txt tab prog fts K mg F ∧ mg "law" = some (.ref (F 15)) := by
  refine ⟨fun k => [f0, f1, f2, f3, f4, f5, f6, f7, f8, f9, f10, f11, f12, f13, f14, f15].getD k 0, txt_mk ?_ ?_ ?_ ?_, PySem.W.mg_of X G a15⟩
  · exact ⟨funT0 (t := t0) l0 c0 (fun _ _ _ _ _ _ us hl => match us, hl with | [_], _ => rfl), funT0 (t := t1) l1 c1 (fun _ _ _ _ _ _ us hl => match us, hl with | [_, _, _], _ => rfl), funT0 (t := t2) l2 c2 (fun _ _ _ _ _ _ us hl => match us, hl with | [_], _ => rfl), funT0 (t := t3) l3 c3 (fun _ _ _ _ _ _ us hl => match us, hl with | [_, _, _, _], _ => rfl), funT0 (t := t4) l4 c4 (fun _ _ _ _ _ _ us hl => match us, hl with | [_, _, _, _], _ => rfl), funT0 (t := t5) l5 c5 (fun _ _ _ _ _ _ us hl => match us, hl with | [_, _, _, _, _, _], _ => rfl), funT0 (t := t6) l6 c6 (fun _ _ _ _ _ _ us hl => match us, hl with | [_, _], _ => rfl), funT0 (t := t7) l7 c7 (fun _ _ _ _ _ _ us hl => match us, hl with | [_, _], _ => rfl), funT0 (t := t8) l8 c8 (fun _ _ _ _ _ _ us hl => match us, hl with | [_], _ => rfl), funT0 (t := t9) l9 c9 (fun _ _ _ _ _ _ us hl => match us, hl with | [_, _, _], _ => rfl), funT0 (t := t10) l10 c10 (fun _ _ _ _ _ _ us hl => match us, hl with | [_, _, _], _ => rfl), funT0 (t := t11) l11 c11 (fun _ _ _ _ _ _ us hl => match us, hl with | [_, _, _], _ => rfl), funT0 (t := t12) l12 c12 (fun _ _ _ _ _ _ us hl => match us, hl with | [_], _ => rfl), funT0 (t := t13) l13 c13 (fun _ _ _ _ _ _ us hl => match us, hl with | [_, _, _], _ => rfl), funT0 (t := t14) l14 c14 (fun _ _ _ _ _ _ us hl => match us, hl with | [_, _, _], _ => rfl), funT0 (t := t15) l15 c15 (fun _ _ _ _ _ _ us hl => match us, hl with | [_], _ => rfl), trivial⟩
  · exact ⟨⟨PySem.W.mg_of X G a0, k0⟩, ⟨PySem.W.mg_of X G a1, k1⟩, ⟨PySem.W.mg_of X G a2, k2⟩, ⟨PySem.W.mg_of X G a3, k3⟩, ⟨PySem.W.mg_of X G a4, k4⟩, ⟨PySem.W.mg_of X G a5, k5⟩, ⟨PySem.W.mg_of X G a6, k6⟩, ⟨PySem.W.mg_of X G a7, k7⟩, ⟨PySem.W.mg_of X G a8, k8⟩, ⟨PySem.W.mg_of X G a9, k9⟩, ⟨PySem.W.mg_of X G a10, k10⟩, ⟨PySem.W.mg_of X G a11, k11⟩, ⟨PySem.W.mg_of X G a12, k12⟩, ⟨PySem.W.mg_of X G a13, k13⟩, ⟨PySem.W.mg_of X G a14, k14⟩, ⟨PySem.W.mg_of X G a15, k15⟩, trivial⟩
  · exact trivial
  · exact ⟨PySem.W.mg_none_of X G z0, PySem.W.mg_none_of X G z1, PySem.W.mg_none_of X G z2, PySem.W.mg_none_of X G z3, PySem.W.mg_none_of X G z4, PySem.W.mg_none_of X G z5, PySem.W.mg_none_of X G z6, PySem.W.mg_none_of X G z7, PySem.W.mg_none_of X G z8, PySem.W.mg_none_of X G z9, PySem.W.mg_none_of X G z10, PySem.W.mg_none_of X G z11, PySem.W.mg_none_of X G z12, PySem.W.mg_none_of X G z13, PySem.W.mg_none_of X G z14, PySem.W.mg_none_of X G z15, PySem.W.mg_none_of X G z16, PySem.W.mg_none_of X G z17, PySem.W.mg_none_of X G z18, PySem.W.mg_none_of X G z19, trivial⟩
end W
open PySem PySem.W PyProof.Rows
set_option maxRecDepth 100000 in
set_option maxHeartbeats 0 in
theorem PySem.Challenge.cw_gatehold_k31_bills_whole_shares_holds : PySem.Challenge.rw_gatehold_k31_bills_whole_shares.Holds := by
  w_on; o_law; k_head; (case hw => w_witness2)
  k_fill
  refine G.end_walk (row := PySem.Challenge.rw_gatehold_k31_bills_whole_shares) (T := W.tab) (Pr := W.prog) (ts := W.fts) (lev := 14) (kL := 15) (f := W.b15) (t := W.t15) (x := "script") rfl rfl ⟨rfl, by decide, by decide⟩ W.oks rfl rfl rfl rfl rfl (fun w h Y => PySem.W.kIn_of Y) ?F W.law_true
  case F =>
    intro w mg h KX G
    refine' W.txt KX G ?a0 ?l0 ?c0 ?k0 ?a1 ?l1 ?c1 ?k1 ?a2 ?l2 ?c2 ?k2 ?a3 ?l3 ?c3 ?k3 ?a4 ?l4 ?c4 ?k4 ?a5 ?l5 ?c5 ?k5 ?a6 ?l6 ?c6 ?k6 ?a7 ?l7 ?c7 ?k7 ?a8 ?l8 ?c8 ?k8 ?a9 ?l9 ?c9 ?k9 ?a10 ?l10 ?c10 ?k10 ?a11 ?l11 ?c11 ?k11 ?a12 ?l12 ?c12 ?k12 ?a13 ?l13 ?c13 ?k13 ?a14 ?l14 ?c14 ?k14 ?a15 ?l15 ?c15 ?k15 ?z0 ?z1 ?z2 ?z3 ?z4 ?z5 ?z6 ?z7 ?z8 ?z9 ?z10 ?z11 ?z12 ?z13 ?z14 ?z15 ?z16 ?z17 ?z18 ?z19
    (case a0 => k_is)
    (case l0 => k_is)
    (case c0 => k_is)
    (case k0 => k_is)
    (case a1 => k_is)
    (case l1 => k_is)
    (case c1 => k_is)
    (case k1 => k_is)
    (case a2 => k_is)
    (case l2 => k_is)
    (case c2 => k_is)
    (case k2 => k_is)
    (case a3 => k_is)
    (case l3 => k_is)
    (case c3 => k_is)
    (case k3 => k_is)
    (case a4 => k_is)
    (case l4 => k_is)
    (case c4 => k_is)
    (case k4 => k_is)
    (case a5 => k_is)
    (case l5 => k_is)
    (case c5 => k_is)
    (case k5 => k_is)
    (case a6 => k_is)
    (case l6 => k_is)
    (case c6 => k_is)
    (case k6 => k_is)
    (case a7 => k_is)
    (case l7 => k_is)
    (case c7 => k_is)
    (case k7 => k_is)
    (case a8 => k_is)
    (case l8 => k_is)
    (case c8 => k_is)
    (case k8 => k_is)
    (case a9 => k_is)
    (case l9 => k_is)
    (case c9 => k_is)
    (case k9 => k_is)
    (case a10 => k_is)
    (case l10 => k_is)
    (case c10 => k_is)
    (case k10 => k_is)
    (case a11 => k_is)
    (case l11 => k_is)
    (case c11 => k_is)
    (case k11 => k_is)
    (case a12 => k_is)
    (case l12 => k_is)
    (case c12 => k_is)
    (case k12 => k_is)
    (case a13 => k_is)
    (case l13 => k_is)
    (case c13 => k_is)
    (case k13 => k_is)
    (case a14 => k_is)
    (case l14 => k_is)
    (case c14 => k_is)
    (case k14 => k_is)
    (case a15 => k_is)
    (case l15 => k_is)
    (case c15 => k_is)
    (case k15 => k_is)
    (case z0 => k_is)
    (case z1 => k_is)
    (case z2 => k_is)
    (case z3 => k_is)
    (case z4 => k_is)
    (case z5 => k_is)
    (case z6 => k_is)
    (case z7 => k_is)
    (case z8 => k_is)
    (case z9 => k_is)
    (case z10 => k_is)
    (case z11 => k_is)
    (case z12 => k_is)
    (case z13 => k_is)
    (case z14 => k_is)
    (case z15 => k_is)
    (case z16 => k_is)
    (case z17 => k_is)
    (case z18 => k_is)
    (case z19 => k_is)

