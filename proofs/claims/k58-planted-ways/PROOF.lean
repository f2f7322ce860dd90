import PyProof.Rows.All
import Wide.All
import OpenK.AllK
import Wide.FinOn
import KE.KStateDown
import Lean
import HandS.ForExc
import HandS.More
import HandS.Defaults
import HandS.Head0
import HandS.Head1
import HandS.Head2
import HandS.HeadEnd
import HandS.HeadHook1
import HandS.HeadHook2
import HandS.ForMost
import HandS.Wide
import HandS.Deep
import HandS.Style
import HandS.IsInst
import HandS.SortInts
import HandS.CallSlots
import HandS.TryOnly
import HandS.ExcOwn
import HandS.ExcInit
import HandS.ExcIs
import HandS.ExcField
import HandS.TupAny
import HandS.Iter
import HandS.WordsExc
import HandS.Dict
import HandS.WordsDict
import HandS.TryMany
import HandS.Base
import HandS.Call
import HandS.Ends
import HandS.Exc
import HandS.EndBits
import PySem.Challenge.RW_lath_k58_planted_ways
set_option Elab.async false
set_option linter.all false
set_option maxRecDepth 100000
set_option maxHeartbeats 0
namespace Lt
open PySem L2
inductive D where
  | non | bl (b : Bool) | int (i : Int) | str (s : Str) | tup (xs : List D) | frl (xs : List D) | frt (xs : List D) | ref (n : Nat)
  deriving Inhabited
inductive Cell where
  | lst (xs : List D) | dK (kvs : List (Key × D)) | dT (kvs : List (List Key × D)) | ins (C : Str) (fs : List (Str × D))
  deriving Inhabited
abbrev Store := List Cell
abbrev Env := List (Option D)
structure Exc where
  cls : Str
  at_ : Option D
inductive R (α : Type) where
  | ok (a : α) (S : Store) | exc (c : Exc) (S : Store) | bad
inductive SR where
  | nx (e : Env) (S : Store) | ret (d : D) (S : Store) | brk (e : Env) (S : Store) | exc (c : Exc) (e : Env) (S : Store) | bad
def R.bind {α β : Type} (r : R α) (k : α → Store → R β) : R β := match r with
  | .ok a S => k a S
  | .exc c S => .exc c S
  | .bad => .bad
def R.toS {α : Type} (r : R α) (e : Env) (k : α → Store → SR) : SR := match r with
  | .ok a S => k a S
  | .exc c S => .exc c e S
  | .bad => .bad
inductive Op where | add | sub | mul | fdiv | mod | pow
inductive Cm where | lt | le | gt | ge | eq | ne | isin | notin
inductive Ty where | int | bool | str | tuple | list
inductive Bi where | len | abs | int | str | list | tuple | sorted | max | min
mutual
inductive Ex where
  | int (i : Int) | str (s : Str) | bl (b : Bool) | non
  | var (i : Nat) | glo (x : Str)
  | bin (op : Op) (a b : Ex) | neg (a : Ex) | not (a : Ex) | and (a b : Ex) | or (a b : Ex)
  | cmp (op : Cm) (a b : Ex) | chn (o1 o2 : Cm) (a b c : Ex) | isN (a : Ex) | ntN (a : Ex) | ife (c a b : Ex)
  | tup (es : List Ex) | lst (es : List Ex)
  | idx (a i : Ex) | slT (a b : Ex) | slF (a b : Ex) | slB (a b c : Ex) | rev (a : Ex)
  | call (f : Str) (es : List Ex)
  | bi (b : Bi) (es : List Ex) | isI (a : Ex) (t : Ty)
  | app (o a : Ex) | ext (o a : Ex) | clr (o : Ex)
  | isB (a : Ex) (b : Bool) | chn4 (o1 o2 o3 : Cm) (a b c d : Ex)
  | fld (a : Ex) (C f : Str) | mth (o : Ex) (C m key : Str) (es : List Ex) | mk (C key : Str) (es : List Ex)
  | any | chn5 (o1 o2 o3 o4 : Cm) (a b c d f : Ex) | ntB (a : Ex) (b : Bool)
  | dic (t : Bool) | dgt (o k : Ex) | din (n : Bool) (k o : Ex) | get1 (o k : Ex) | get2 (o k d : Ex) | dpop (o k : Ex)
  | ixo (o a : Ex) | ins (o i a : Ex) | pop0 (o : Ex) | pop1 (o i : Ex)
  | xis (i : Nat) (C : Str) | xat (i : Nat) | dsp (es : List Ex)
  | lc (own : List Nat) (t : Tg) (it : It) (el : Ex) | lcI (own : List Nat) (t : Tg) (it : It) (c el : Ex)
inductive It where
  | seq (a : Ex) | rng (a : Ex) | rng2 (a b : Ex) | enm (a : Ex) | zip (a b : Ex) | rvd (a : Ex)
inductive Tg where
  | name (i : Nat) | tup (is : List Nat)
end
inductive St where
  | asg (t : Tg) (e : Ex) | par (i j : Nat) (a b : Ex) | sub (o i e : Ex)
  | exp (e : Ex) | ite (c : Ex) (a b : List St) | forS (t : Tg) (it : It) (b : List St) | whl (c : Ex) (b : List St)
  | ret (e : Ex) | retN | brk | pass
  | stf (o : Ex) (C f : Str) (e : Ex)
  | any | dst (o k e : Ex)
  | rai (C : Str) | tryC (b : List St) (C : Str) (a : Ex)
  | raiA (C : Str) (a : Ex) | tryA (b : List St) (C : Str) (i : Nat) (su : List St)
  | par3 (i j l : Nat) (a b c : Ex) | try2 (b : List St) (C : Str) (i : Nat) (su : List St) (C2 : Str) (i2 : Nat) (su2 : List St)
/-- lists and texts are shorter -/
def lim : Nat := 100000
/-- the list at a cell -/
def getL (S : Store) (r : Nat) : Option (List D) := match S[r]? with
  | some (.lst xs) => some xs
  | _ => none
/-- a value's list -/
def lstOf (S : Store) (d : D) : Option (List D) := match d with
  | .ref r => getL S r
  | .frl xs => some xs
  | _ => none
def alloc (c : Cell) (S : Store) : R D := .ok (.ref S.length) (S ++ [c])
def Sm (i j : Int) : Prop := i.natAbs.log2 + j.natAbs.log2 < 1000000
instance (i j : Int) : Decidable (Sm i j) := inferInstanceAs (Decidable (_ < _))
def binop (op : Op) (x y : D) (S : Store) : R D := match op, x, y with
  | .add, .int i, .int j => .ok (.int (i + j)) S
  | .add, .str s, .str t => if s.length + t.length ≤ lim then .ok (.str (s ++ t)) S else .bad
  | .add, .ref a, .ref b => match getL S a, getL S b with
    | some xs, some ys => if xs.length + ys.length ≤ lim then alloc (.lst (xs ++ ys)) S else .bad
    | _, _ => .bad
  | .sub, .int i, .int j => .ok (.int (i - j)) S
  | .mul, .int i, .int j => if Sm i j then .ok (.int (i * j)) S else .bad
  | .mul, .ref a, .int j => match getL S a with
    | some xs => if 0 ≤ j ∧ j ≤ 100000 ∧ xs.length * j.toNat ≤ lim then alloc (.lst (List.replicate j.toNat xs).flatten) S else .bad
    | _ => .bad
  | .fdiv, .int i, .int j => if j ≠ 0 ∧ j.natAbs.log2 < 9000 then .ok (.int (i.fdiv j)) S else .bad
  | .mod, .int i, .int j => if j ≠ 0 then .ok (.int (i.fmod j)) S else .bad
  | .pow, .int i, .int j => if 0 ≤ j ∧ j ≤ 1000000 ∧ i.natAbs < 2 ^ 64 then .ok (.int (i ^ j.toNat)) S else .bad
  | _, _, _ => .bad
def mapO {α β : Type} (f : α → Option β) : List α → Option (List β)
  | [] => some []
  | x :: r => match f x, mapO f r with
    | some y, some ys => some (y :: ys)
    | _, _ => none
/-- a value as plain data -/
def toP (S : Store) : Nat → D → Option PyData
  | 0, _ => none
  | _ + 1, .non => some .none
  | _ + 1, .bl b => some (.bool b)
  | _ + 1, .int i => some (.int i)
  | _ + 1, .str s => if PyData.canLay0 (.str s) = true then some (.str s) else none
  | n + 1, .tup xs => (mapO (toP S n) xs).map .tuple
  | n + 1, .frl xs => (mapO (toP S n) xs).map .list
  | n + 1, .frt xs => (mapO (toP S n) xs).map .tuple
  | n + 1, .ref r => match getL S r with
    | some xs => (mapO (toP S n) xs).map .list
    | none => none
def eqD (S : Store) (x y : D) : Option Bool := match toP S 12 x, toP S 12 y with
  | some a, some b => some (PyData.eqv a b)
  | _, _ => none
/-- a flat value is among flat ones -/
def flatD : D → Bool
  | .non => true
  | .bl _ => true
  | .int _ => true
  | .str _ => true
  | _ => false
def eqF : D → D → Bool
  | .non, .non => true
  | .bl a, .bl b => a == b
  | .bl a, .int b => (if a then 1 else 0) == b
  | .int a, .bl b => a == (if b then 1 else 0)
  | .int a, .int b => a == b
  | .str a, .str b => a == b
  | _, _ => false
def inO (S : Store) (x : D) (y : D) : Option Bool := match y with
  | .tup ys => if flatD x = true ∧ ys.all flatD = true then some (ys.any fun z => eqF z x) else none
  | .frt ys => if flatD x = true ∧ ys.all flatD = true then some (ys.any fun z => eqF z x) else none
  | .ref _ => match toP S 12 x, toP S 12 y with
    | some a, some (.list bs) => some (bs.any fun b => PyData.eqv b a)
    | _, _ => none
  | _ => none
def cmpop (op : Cm) (x y : D) (S : Store) : R D := match op with
  | .lt => match x, y with
    | .int i, .int j => .ok (.bl (decide (i < j))) S
    | _, _ => .bad
  | .le => match x, y with
    | .int i, .int j => .ok (.bl (decide (i ≤ j))) S
    | _, _ => .bad
  | .gt => match x, y with
    | .int i, .int j => .ok (.bl (decide (j < i))) S
    | _, _ => .bad
  | .ge => match x, y with
    | .int i, .int j => .ok (.bl (decide (j ≤ i))) S
    | _, _ => .bad
  | .eq => match eqD S x y with
    | some b => .ok (.bl b) S
    | none => .bad
  | .ne => match eqD S x y with
    | some b => .ok (.bl (!b)) S
    | none => .bad
  | .isin => match inO S x y with
    | some b => .ok (.bl b) S
    | none => .bad
  | .notin => match inO S x y with
    | some b => .ok (.bl (!b)) S
    | none => .bad
def isN : D → Bool
  | .non => true
  | _ => false
def isTy (S : Store) (t : Ty) (x : D) : Option Bool := match x with
  | .non => some false
  | .bl _ => some (match t with
    | .bool => true
    | .int => true
    | _ => false)
  | .int _ => some (match t with
    | .int => true
    | _ => false)
  | .str _ => some (match t with
    | .str => true
    | _ => false)
  | .tup _ => some (match t with
    | .tuple => true
    | _ => false)
  | .frl _ => some (match t with
    | .list => true
    | _ => false)
  | .frt _ => some (match t with
    | .tuple => true
    | _ => false)
  | .ref r => match getL S r with
    | some _ => some (match t with
      | .list => true
      | _ => false)
    | none => none
def seqOf (S : Store) (d : D) : Option (List D) := match d with
  | .tup xs => some xs
  | .frl xs => some xs
  | .frt xs => some xs
  | .ref r => getL S r
  | _ => none
def item (x i : D) (S : Store) : R D := match i with
  | .int k => match seqOf S x with
    | some xs => match atI xs k with
      | some d => .ok d S
      | none => .bad
    | none => .bad
  | _ => .bad
def cutD (xs : List D) (lo hi : Option Int) : List D := (xs.drop (HT.sIx xs.length 0 lo)).take (HT.sIx xs.length xs.length hi - HT.sIx xs.length 0 lo)
def intO : Option D → Option (Option Int)
  | none => some none
  | some (.int i) => some (some i)
  | _ => none
def isInt : D → Bool
  | .int _ => true
  | _ => false
def slice (x : D) (lo hi : Option D) (S : Store) : R D := match x with
  | .tup xs => match intO lo, intO hi with
    | some l, some h => .ok (.tup (cutD xs l h)) S
    | _, _ => .bad
  | x => match lstOf S x, intO lo, intO hi with
    | some xs, some l, some h => alloc (.lst (cutD xs l h)) S
    | _, _, _ => .bad
def intsOf : List D → Option (List Int)
  | [] => some []
  | .int i :: r => match intsOf r with
    | some is => some (i :: is)
    | none => none
  | _ :: _ => none
def keyD : D → Option Key
  | .int i => some (.inl i)
  | .str s => some (.inr s)
  | _ => none
def keysD : D → Option (List Key)
  | .tup xs => mapO keyD xs
  | _ => none
section
variable {κ : Type} [DecidableEq κ]
def lookK (kvs : List (κ × D)) (k : κ) : Option D := (kvs.find? fun kv => decide (kv.1 = k)).map (·.2)
def putKD (kvs : List (κ × D)) (k : κ) (v : D) : List (κ × D) :=
  if (kvs.any fun kv => decide (kv.1 = k)) = true then kvs.map (fun kv => if kv.1 = k then (kv.1, v) else kv) else kvs ++ [(k, v)]
def dropKD (kvs : List (κ × D)) (k : κ) : List (κ × D) := kvs.filter fun kv => decide (kv.1 ≠ k)
end
/-- a display's pairs, one behind another -/
def pairsD : List D → Option (List (Key × D))
  | [] => some []
  | [_] => none
  | k :: v :: r => match keyD k, pairsD r with
    | some k, some l => some ((k, v) :: l)
    | _, _ => none
def mergeD (kvs : List (Key × D)) : List (Key × D) := kvs.foldl (fun acc kv => putKD acc kv.1 kv.2) []
def dspR (ds : List D) (S : Store) : R D := match pairsD ds with
  | some kvs => if kvs.length ≤ 15 then alloc (.dK (mergeD kvs)) S else .bad
  | none => .bad
def isDct (x : D) (S : Store) : Bool := match x with
  | .ref r => match S[r]? with
    | some (.dK _) => true
    | some (.dT _) => true
    | _ => false
  | _ => false
def dgetO (S : Store) (x y : D) : Option (Option D) := match x with
  | .ref r => match S[r]? with
    | some (.dK kvs) => (keyD y).map (lookK kvs)
    | some (.dT kvs) => (keysD y).map (lookK kvs)
    | _ => none
  | _ => none
def dgtR (x y : D) (S : Store) : R D := match dgetO S x y with
  | some (some d) => .ok d S
  | _ => .bad
def dinR (n : Bool) (y x : D) (S : Store) : R D := match dgetO S x y with
  | some o => .ok (.bl (if n then !o.isSome else o.isSome)) S
  | none => .bad
def getR (x y z : D) (S : Store) : R D := match dgetO S x y with
  | some o => .ok (o.getD z) S
  | none => .bad
def dpopR (x y : D) (S : Store) : R D := match x with
  | .ref r => match S[r]?, keyD y with
    | some (.dK kvs), some k => match lookK kvs k with
      | some v => .ok v (S.set r (.dK (dropKD kvs k)))
      | none => .bad
    | _, _ => .bad
  | _ => .bad
def dstR (x y v : D) (S : Store) : R D := match x with
  | .ref r => match S[r]? with
    | some (.dK kvs) => match keyD y with
      | some k => if kvs.length < lim then .ok .non (S.set r (.dK (putKD kvs k v))) else .bad
      | none => .bad
    | some (.dT kvs) => match keysD y with
      | some k => if kvs.length < lim then .ok .non (S.set r (.dT (putKD kvs k v))) else .bad
      | none => .bad
    | _ => .bad
  | _ => .bad
def lenO (S : Store) (x : D) : Option Nat := match x with
  | .ref r => match S[r]? with
    | some (.dK kvs) => some kvs.length
    | some (.lst xs) => some xs.length
    | _ => none
  | x => (seqOf S x).map (·.length)
def minL : Int → List Int → Int
  | a, [] => a
  | a, b :: r => minL (if b < a then b else a) r
def maxL : Int → List Int → Int
  | a, [] => a
  | a, b :: r => maxL (if b > a then b else a) r
def biop (b : Bi) (ds : List D) (S : Store) : R D := match b, ds with
  | .len, [x] => match x with
    | .str s => if s.length ≤ lim then .ok (.int s.length) S else .bad
    | x => match lenO S x with
      | some n => .ok (.int n) S
      | none => .bad
  | .abs, [.int i] => .ok (.int (if i < 0 then -i else i)) S
  | .int, [.int i] => .ok (.int i) S
  | .int, [.bl k] => .ok (.int (if k then 1 else 0)) S
  | .list, [x] => match seqOf S x with
    | some xs => alloc (.lst xs) S
    | none => .bad
  | .tuple, [x] => match x with
    | .tup xs => .ok (.tup xs) S
    | x => match lstOf S x with
      | some xs => .ok (.tup xs) S
      | none => .bad
  | .max, [.int i, .int j] => .ok (.int (if j > i then j else i)) S
  | .min, [.int i, .int j] => .ok (.int (if j < i then j else i)) S
  | .max, [x] => match lstOf S x with
    | some xs => match intsOf xs with
      | some (a :: is) => .ok (.int (maxL a is)) S
      | _ => .bad
    | none => .bad
  | .min, [x] => match lstOf S x with
    | some xs => match intsOf xs with
      | some (a :: is) => .ok (.int (minL a is)) S
      | _ => .bad
    | none => .bad
  | .sorted, [x] => match lstOf S x with
    | some xs => match intsOf xs with
      | some is => if is.length < 64 then alloc (.lst ((is.mergeSort (fun a b => decide (a ≤ b))).map .int)) S else .bad
      | none => .bad
    | none => .bad
  | _, _ => .bad
def isLst (o : D) (S : Store) : Bool := match o with
  | .ref r => (getL S r).isSome
  | _ => false
def append (o a : D) (S : Store) : R D := match o with
  | .ref r => match getL S r with
    | some xs => if xs.length < lim then .ok .non (S.set r (.lst (xs ++ [a]))) else .bad
    | _ => .bad
  | _ => .bad
def extend (o a : D) (S : Store) : R D := match o, a with
  | .ref r, .ref q => match getL S r, getL S q with
    | some xs, some ys => if xs.length + ys.length ≤ lim then .ok .non (S.set r (.lst (xs ++ ys))) else .bad
    | _, _ => .bad
  | _, _ => .bad
def clear (o : D) (S : Store) : R D := match o with
  | .ref r => match getL S r with
    | some _ => .ok .non (S.set r (.lst []))
    | _ => .bad
  | _ => .bad
/-- the first place of an equal one -/
def findP (a : PyData) : List PyData → Option Nat
  | [] => none
  | b :: r => if PyData.eqv b a = true then some 0 else (findP a r).map (· + 1)
def ixoR (x y : D) (S : Store) : R D := match toP S 12 x, toP S 12 y with
  | some (.list bs), some a => match findP a bs with
    | some j => .ok (.int j) S
    | none => .bad
  | _, _ => .bad
def insR (x i y : D) (S : Store) : R D := match x, i with
  | .ref r, .int j => match getL S r with
    | some xs => if xs.length < lim ∧ 0 ≤ j ∧ j < 2 ^ 62 then .ok .non (S.set r (.lst (xs.take j.toNat ++ [y] ++ xs.drop j.toNat))) else .bad
    | none => .bad
  | _, _ => .bad
def pop0R (x : D) (S : Store) : R D := match x with
  | .ref r => match getL S r with
    | some xs => match xs[xs.length - 1]? with
      | some y => .ok y (S.set r (.lst xs.dropLast))
      | none => .bad
    | none => .bad
  | _ => .bad
def pop1R (x i : D) (S : Store) : R D := match x, i with
  | .ref r, .int j => match getL S r with
    | some xs => match xs[j.toNat]? with
      | some y => if 0 ≤ j ∧ j < 2 ^ 62 then .ok y (S.set r (.lst (xs.eraseIdx j.toNat))) else .bad
      | none => .bad
    | none => .bad
  | _, _ => .bad
def setItem (o i v : D) (S : Store) : R D := match o, i with
  | .ref r, .int k => match getL S r with
    | some xs => match ixN xs.length k with
      | some j => .ok .non (S.set r (.lst (xs.set j v)))
      | none => .bad
    | _ => .bad
  | _, _ => .bad
def getI (S : Store) (r : Nat) : Option (Str × List (Str × D)) := match S[r]? with
  | some (.ins C fs) => some (C, fs)
  | _ => none
def putD (f : Str) (v : D) : List (Str × D) → List (Str × D)
  | [] => [(f, v)]
  | (g, x) :: r => if g = f then (g, v) :: r else (g, x) :: putD f v r
def fldR (C f : Str) (x : D) (S : Store) : R D := match x with
  | .ref r => match getI S r with
    | some (C', fs) => if C' = C then (match fs.lookup f with
      | some d => .ok d S
      | none => .bad) else .bad
    | none => .bad
  | _ => .bad
def insOk (C m : Str) (x : D) (S : Store) : Bool := match x with
  | .ref r => match getI S r with
    | some (C', fs) => decide (C' = C) && (fs.lookup m).isNone
    | none => false
  | _ => false
def stfR (C f : Str) (x v : D) (S : Store) : R D := match x with
  | .ref r => match getI S r with
    | some (C', fs) => if C' = C ∧ fs.length < 900 then .ok .non (S.set r (.ins C (putD f v fs))) else .bad
    | none => .bad
  | _ => .bad
/-- behind __init__ -/
def madeR (n : Nat) (d : D) (S : Store) : R D := match d with
  | .non => .ok (.ref n) S
  | _ => .bad
def isBR (b : Bool) (x : D) (S : Store) : R D := match x with
  | .bl c => .ok (.bl (decide (c = b))) S
  | _ => .bad
def ntBR (b : Bool) (x : D) (S : Store) : R D := match x with
  | .bl c => .ok (.bl (!decide (c = b))) S
  | _ => .bad
structure Itr where
  n : Nat
  at_ : Nat → Store → Option D
  fin : Store → Bool
def seqItr (d : D) (S : Store) : Option Itr := match seqOf S d with
  | some xs => some ⟨xs.length, fun i S => match seqOf S d with
      | some ys => if ys.length = xs.length then ys[i]? else none
      | none => none, fun S => match seqOf S d with
      | some ys => decide (ys.length = xs.length)
      | none => false⟩
  | none => none
def lstItr (d : D) (S : Store) (f : Nat → Nat → Nat) (w : Nat → D → D) : Option Itr := match lstOf S d with
  | some xs => some ⟨xs.length, fun i S => match lstOf S d with
      | some ys => if ys.length = xs.length then (ys[f xs.length i]?).map (w i) else none
      | none => none, fun S => match lstOf S d with
      | some ys => decide (ys.length = xs.length)
      | none => false⟩
  | none => none
def zipItr (x y : D) (S : Store) : Option Itr := match lstOf S x, lstOf S y with
  | some xs, some ys => some ⟨min xs.length ys.length, fun i S => match lstOf S x, lstOf S y with
      | some xs', some ys' => if xs'.length = xs.length ∧ ys'.length = ys.length then (match xs'[i]?, ys'[i]? with
        | some u, some v => some (.tup [u, v])
        | _, _ => none) else none
      | _, _ => none, fun S => match lstOf S x, lstOf S y with
      | some xs', some ys' => decide (xs'.length = xs.length ∧ ys'.length = ys.length)
      | _, _ => false⟩
  | _, _ => none
def rngItr (lo hi : Int) : Option Itr := if -(2 ^ 62) ≤ lo ∧ lo < 2 ^ 62 ∧ -(2 ^ 62) ≤ hi ∧ hi < 2 ^ 62 then some ⟨(hi - lo).toNat, fun i _ => some (.int (lo + i)), fun _ => true⟩ else none
/-- the slots of a target -/
def tsl : Tg → List Nat
  | .name i => [i]
  | .tup is => is
def setAll : List Nat → List D → Env → Option Env
  | [], [], e => some e
  | i :: is, x :: xs, e => if i < e.length then setAll is xs (e.set i (some x)) else none
  | _, _, _ => none
def bindT : Tg → D → Env → Store → Option Env
  | .name i, d, e, _ => if i < e.length then some (e.set i (some d)) else none
  | .tup is, d, e, S => match seqOf S d with
    | some xs => if xs.length = is.length then setAll is xs e else none
    | none => none
/-- turns of a loop: k are left, the next is the i-th -/
def forGo (t : Tg) (it : Itr) (body : Env → Store → SR) : Nat → Nat → Env → Store → SR
  | 0, _, e, S => if it.fin S = true then .nx e S else .bad
  | k + 1, i, e, S => match it.at_ i S with
    | none => .bad
    | some d => match bindT t d e S with
      | none => .bad
      | some e1 => match body e1 S with
        | .nx e2 S2 => forGo t it body k (i + 1) e2 S2
        | .brk e2 S2 => .nx e2 S2
        | r => r
def whGo (c : Env → Store → R D) (body : Env → Store → SR) : Nat → Env → Store → SR
  | 0, _, _ => .bad
  | k + 1, e, S => (c e S).toS e fun d S1 => match d with
    | .bl true => match body e S1 with
      | .nx e2 S2 => whGo c body k e2 S2
      | .brk e2 S2 => .nx e2 S2
      | r => r
    | .bl false => .nx e S1
    | _ => .bad
/-- no error comes out of a comprehension -/
def R.bindX {α β : Type} (r : R α) (k : α → Store → R β) : R β := match r with
  | .ok a S => k a S
  | _ => .bad
/-- turns of a comprehension; acc: what is made so far -/
def lcGo (t : Tg) (it : Itr) (c : Option (Env → Store → R D)) (el : Env → Store → R D) (e : Env) : Nat → Nat → List D → Store → R (List D)
  | 0, _, acc, S => if it.fin S = true then .ok acc S else .bad
  | k + 1, i, acc, S => match it.at_ i S with
    | none => .bad
    | some d => match bindT t d e S with
      | none => .bad
      | some e1 => match c with
        | none => (el e1 S).bindX fun y S2 => if acc.length < lim then lcGo t it none el e k (i + 1) (acc ++ [y]) S2 else .bad
        | some c => (c e1 S).bindX fun b S1 => match b with
          | .bl true => (el e1 S1).bindX fun y S2 => if acc.length < lim then lcGo t it (some c) el e k (i + 1) (acc ++ [y]) S2 else .bad
          | .bl false => lcGo t it (some c) el e k (i + 1) acc S1
          | _ => .bad
def wipeE (e : Env) : List Nat → Env
  | [] => e
  | v :: vs => (wipeE e vs).set v none
structure Cxt where
  cl : Str → List D → Store → R D
  glo : Str → Option D
  fuel : Nat
  sub : Str → Str → Option Bool
  /-- the error that a suite holds -/
  exc : Option Exc
  /-- isinstance of an error's class -/
  isc : Str → Str → Option Bool
def xisR (o : Option Exc) (f : Str → Option Bool) (S : Store) : R D := match o with
  | some c => match f c.cls with
    | some b => .ok (.bl b) S
    | none => .bad
  | none => .bad
def xatR (o : Option Exc) (f : Str → Bool) (S : Store) : R D := match o with
  | some c => match c.at_ with
    | some d => if f c.cls = true then .ok d S else .bad
    | none => .bad
  | none => .bad
mutual
def ev (G : Cxt) : Ex → Env → Store → R D
  | .int i, _, S => .ok (.int i) S
  | .str s, _, S => .ok (.str s) S
  | .bl b, _, S => .ok (.bl b) S
  | .non, _, S => .ok .non S
  | .var i, e, S => match e[i]? with
    | some (some d) => .ok d S
    | _ => .bad
  | .glo x, _, S => match G.glo x with
    | some d => .ok d S
    | none => .bad
  | .bin op a b, e, S => (ev G a e S).bind fun x S => (ev G b e S).bind fun y S => binop op x y S
  | .neg a, e, S => (ev G a e S).bind fun x S => match x with
    | .int i => .ok (.int (-i)) S
    | _ => .bad
  | .not a, e, S => (ev G a e S).bind fun x S => match x with
    | .bl b => .ok (.bl (!b)) S
    | _ => .bad
  | .and a b, e, S => (ev G a e S).bind fun x S => match x with
    | .bl true => ev G b e S
    | .bl false => .ok (.bl false) S
    | _ => .bad
  | .or a b, e, S => (ev G a e S).bind fun x S => match x with
    | .bl true => .ok (.bl true) S
    | .bl false => ev G b e S
    | _ => .bad
  | .cmp op a b, e, S => (ev G a e S).bind fun x S => (ev G b e S).bind fun y S => cmpop op x y S
  | .chn o1 o2 a b c, e, S => (ev G a e S).bind fun x S => (ev G b e S).bind fun y S => (cmpop o1 x y S).bind fun k S => match k with
    | .bl true => (ev G c e S).bind fun z S => cmpop o2 y z S
    | .bl false => .ok (.bl false) S
    | _ => .bad
  | .isN a, e, S => (ev G a e S).bind fun x S => .ok (.bl (isN x)) S
  | .ntN a, e, S => (ev G a e S).bind fun x S => .ok (.bl (!isN x)) S
  | .ife c a b, e, S => (ev G c e S).bind fun x S => match x with
    | .bl true => ev G a e S
    | .bl false => ev G b e S
    | _ => .bad
  | .tup es, e, S => (evs G es e S).bind fun ds S => .ok (.tup ds) S
  | .lst es, e, S => (evs G es e S).bind fun ds S => alloc (.lst ds) S
  | .idx a i, e, S => (ev G a e S).bind fun x S => (ev G i e S).bind fun y S => item x y S
  | .slT a b, e, S => (ev G a e S).bind fun x S => (ev G b e S).bind fun y S => slice x none (some y) S
  | .slF a b, e, S => (ev G a e S).bind fun x S => (ev G b e S).bind fun y S => slice x (some y) none S
  | .slB a b c, e, S => (ev G a e S).bind fun x S => (ev G b e S).bind fun y S => if isInt y = true then (ev G c e S).bind fun z S => slice x (some y) (some z) S else .bad
  | .rev a, e, S => (ev G a e S).bind fun x S => match lstOf S x with
    | some xs => alloc (.lst xs.reverse) S
    | none => .bad
  | .call f es, e, S => (evs G es e S).bind fun ds S => G.cl f ds S
  | .bi b es, e, S => (evs G es e S).bind fun ds S => biop b ds S
  | .isI a t, e, S => (ev G a e S).bind fun x S => match isTy S t x with
    | some b => .ok (.bl b) S
    | none => .bad
  | .app o a, e, S => (ev G o e S).bind fun x S => if isLst x S = true then (ev G a e S).bind fun y S => append x y S else .bad
  | .ext o a, e, S => (ev G o e S).bind fun x S => if isLst x S = true then (ev G a e S).bind fun y S => extend x y S else .bad
  | .clr o, e, S => (ev G o e S).bind fun x S => clear x S
  | .isB a b, e, S => (ev G a e S).bind (isBR b)
  | .chn4 o1 o2 o3 a b c d, e, S => (ev G a e S).bind fun x S => (ev G b e S).bind fun y S => (cmpop o1 x y S).bind fun k S => match k with
    | .bl true => (ev G c e S).bind fun z S => (cmpop o2 y z S).bind fun k S => match k with
      | .bl true => (ev G d e S).bind fun w S => cmpop o3 z w S
      | .bl false => .ok (.bl false) S
      | _ => .bad
    | .bl false => .ok (.bl false) S
    | _ => .bad
  | .fld a C f, e, S => (ev G a e S).bind (fldR C f)
  | .mth o C m key es, e, S => (ev G o e S).bind fun x S => if insOk C m x S = true then (evs G es e S).bind fun ds S => G.cl key (x :: ds) S else .bad
  | .mk C key es, e, S => (evs G es e S).bind fun ds S => (G.cl key (.ref S.length :: ds) (S ++ [.ins C []])).bind (madeR S.length)
  | .any, _, _ => .bad
  | .chn5 o1 o2 o3 o4 a b c d f, e, S => (ev G a e S).bind fun x S => (ev G b e S).bind fun y S => (cmpop o1 x y S).bind fun k S => match k with
    | .bl true => (ev G c e S).bind fun z S => (cmpop o2 y z S).bind fun k S => match k with
      | .bl true => (ev G d e S).bind fun w S => (cmpop o3 z w S).bind fun k S => match k with
        | .bl true => (ev G f e S).bind fun u S => cmpop o4 w u S
        | .bl false => .ok (.bl false) S
        | _ => .bad
      | .bl false => .ok (.bl false) S
      | _ => .bad
    | .bl false => .ok (.bl false) S
    | _ => .bad
  | .ntB a b, e, S => (ev G a e S).bind (ntBR b)
  | .dic t, _, S => alloc (if t = true then .dT [] else .dK []) S
  | .dgt o k, e, S => (ev G o e S).bind fun x S => (ev G k e S).bind fun y S => dgtR x y S
  | .din n k o, e, S => (ev G k e S).bind fun y S => (ev G o e S).bind fun x S => dinR n y x S
  | .get1 o k, e, S => (ev G o e S).bind fun x S => if isDct x S = true then (ev G k e S).bind fun y S => getR x y .non S else .bad
  | .get2 o k d, e, S => (ev G o e S).bind fun x S => if isDct x S = true then (ev G k e S).bind fun y S => (ev G d e S).bind fun z S => getR x y z S else .bad
  | .dpop o k, e, S => (ev G o e S).bind fun x S => if isDct x S = true then (ev G k e S).bind fun y S => dpopR x y S else .bad
  | .ixo o a, e, S => (ev G o e S).bind fun x S => if isLst x S = true then (ev G a e S).bind fun y S => ixoR x y S else .bad
  | .ins o i a, e, S => (ev G o e S).bind fun x S => if isLst x S = true then (ev G i e S).bind fun j S => (ev G a e S).bind fun y S => insR x j y S else .bad
  | .pop0 o, e, S => (ev G o e S).bind pop0R
  | .pop1 o i, e, S => (ev G o e S).bind fun x S => if isLst x S = true then (ev G i e S).bind fun j S => pop1R x j S else .bad
  | .xis _ C, _, S => xisR G.exc (fun x => G.isc x C) S
  | .xat _, _, S => xatR G.exc (fun x => (G.isc x x).isSome) S
  | .dsp es, e, S => (evs G es e S).bind dspR
  | .lc own t it el, e, S => (evI G it e S).bind fun j S => (lcGo t j none (ev G el) (wipeE e own) j.n 0 [] S).bind fun ds S => alloc (.lst ds) S
  | .lcI own t it c el, e, S => (evI G it e S).bind fun j S => (lcGo t j (some (ev G c)) (ev G el) (wipeE e own) j.n 0 [] S).bind fun ds S => alloc (.lst ds) S
def evs (G : Cxt) : List Ex → Env → Store → R (List D)
  | [], _, S => .ok [] S
  | a :: r, e, S => (ev G a e S).bind fun x S => (evs G r e S).bind fun xs S => .ok (x :: xs) S
def evI (G : Cxt) : It → Env → Store → R Itr
  | .seq a, e, S => (ev G a e S).bind fun x S => match seqItr x S with
    | some j => .ok j S
    | none => .bad
  | .rng a, e, S => (ev G a e S).bind fun x S => match x with
    | .int j => match rngItr 0 j with
      | some j => .ok j S
      | none => .bad
    | _ => .bad
  | .rng2 a b, e, S => (ev G a e S).bind fun x S => (ev G b e S).bind fun y S => match x, y with
    | .int i, .int j => match rngItr i j with
      | some j => .ok j S
      | none => .bad
    | _, _ => .bad
  | .enm a, e, S => (ev G a e S).bind fun x S => match lstItr x S (fun _ i => i) (fun i d => .tup [.int i, d]) with
    | some j => .ok j S
    | none => .bad
  | .zip a b, e, S => (ev G a e S).bind fun x S => (ev G b e S).bind fun y S => match zipItr x y S with
    | some j => .ok j S
    | none => .bad
  | .rvd a, e, S => (ev G a e S).bind fun x S => match lstItr x S (fun n i => n - 1 - i) (fun _ d => d) with
    | some j => .ok j S
    | none => .bad
end
/-- behind a suite: the error's name goes -/
def suR (i : Nat) : SR → SR
  | .nx e2 S2 => .nx (e2.set i none) S2
  | .ret d S2 => .ret d S2
  | .brk e2 S2 => .brk (e2.set i none) S2
  | .exc _ _ _ => .bad
  | .bad => .bad
mutual
def exS (G : Cxt) : St → Env → Store → SR
  | .asg t a, e, S => (ev G a e S).toS e fun d S1 => match bindT t d e S1 with
    | some e1 => .nx e1 S1
    | none => .bad
  | .par i j a b, e, S => (ev G a e S).toS e fun x S1 => (ev G b e S1).toS e fun y S2 => if i < e.length ∧ j < e.length then .nx ((e.set i (some x)).set j (some y)) S2 else .bad
  | .sub o i a, e, S => (ev G a e S).toS e fun v S1 => (ev G o e S1).toS e fun x S2 => (ev G i e S2).toS e fun k S3 => (setItem x k v S3).toS e fun _ S4 => .nx e S4
  | .exp a, e, S => (ev G a e S).toS e fun _ S1 => .nx e S1
  | .ite c a b, e, S => (ev G c e S).toS e fun x S1 => match x with
    | .bl true => exB G a e S1
    | .bl false => exB G b e S1
    | _ => .bad
  | .forS t it b, e, S => (evI G it e S).toS e fun j S1 => forGo t j (exB G b) j.n 0 e S1
  | .whl c b, e, S => whGo (ev G c) (exB G b) G.fuel e S
  | .ret a, e, S => (ev G a e S).toS e fun d S1 => .ret d S1
  | .retN, _, S => .ret .non S
  | .brk, e, S => .brk e S
  | .pass, e, S => .nx e S
  | .stf o C f a, e, S => (ev G a e S).toS e fun v S1 => (ev G o e S1).toS e fun x S2 => (stfR C f x v S2).toS e fun _ S3 => .nx e S3
  | .any, _, _ => .bad
  | .dst o k a, e, S => (ev G a e S).toS e fun v S1 => (ev G o e S1).toS e fun x S2 => (ev G k e S2).toS e fun y S3 => (dstR x y v S3).toS e fun _ S4 => .nx e S4
  | .rai C, e, S => .exc ⟨C, none⟩ e S
  | .tryC b C a, e, S => match exB G b e S with
    | .exc c e1 S1 => match G.sub c.cls C with
      | some true => match ev G a e1 S1 with
        | .ok d S2 => .ret d S2
        | _ => .bad
      | some false => .exc c e1 S1
      | none => .bad
    | q => q
  | .raiA C a, e, S => (ev G a e S).toS e fun d S1 => .exc ⟨C, some d⟩ e S1
  | .tryA b C i su, e, S => match exB G b e S with
    | .exc c e1 S1 => match G.sub c.cls C with
      | some true => if i < e1.length then suR i (exB { G with exc := some c } su (e1.set i none) S1) else .bad
      | some false => .exc c e1 S1
      | none => .bad
    | q => q
  | .par3 i j l a b c, e, S => (ev G a e S).toS e fun x S1 => (ev G b e S1).toS e fun y S2 => (ev G c e S2).toS e fun z S3 => if i < e.length ∧ j < e.length ∧ l < e.length then .nx (((e.set i (some x)).set j (some y)).set l (some z)) S3 else .bad
  | .try2 b C i su C2 i2 su2, e, S => match exB G b e S with
    | .exc c e1 S1 => match G.sub c.cls C with
      | some true => if i < e1.length then suR i (exB { G with exc := some c } su (e1.set i none) S1) else .bad
      | some false => match G.sub c.cls C2 with
        | some true => if i2 < e1.length then suR i2 (exB { G with exc := some c } su2 (e1.set i2 none) S1) else .bad
        | some false => .exc c e1 S1
        | none => .bad
      | none => .bad
    | q => q
def exB (G : Cxt) : List St → Env → Store → SR
  | [], e, S => .nx e S
  | s :: r, e, S => match exS G s e S with
    | .nx e1 S1 => exB G r e1 S1
    | q => q
end
structure Def where
  ps : List Str
  ns : List Str
  dfl : List D
  body : List St
structure Prog where
  defs : List (Str × Def)
  glob : List (Str × D)
  subs : List (Str × List (Str × Bool))
  /-- a class: its fields, its methods with their defs' names -/
  kl : List (Str × List Str × List (Str × Str))
  /-- of each error's class, whose instances its instances are -/
  isx : List (Str × List (Str × Bool))
  /-- errors with a field, as subs -/
  sub2 : List (Str × List (Str × Bool))
def endR : SR → R D
  | .nx _ S => .ok .non S
  | .ret d S => .ok d S
  | .exc c _ S => .exc c S
  | _ => .bad
def Prog.cx (P : Prog) (fuel : Nat) (cl : Str → List D → Store → R D) : Cxt := ⟨cl, fun x => P.glob.lookup x, fuel, fun x y => ((P.subs.lookup x).or (P.sub2.lookup x)).bind fun l => l.lookup y, none, fun x y => (P.isx.lookup x).bind fun l => l.lookup y⟩
/-- left out arguments -/
def padD (m : Def) (ds : List D) : List D := ds ++ m.dfl.drop (m.dfl.length - (m.ps.length - ds.length))
def callN (P : Prog) (fuel : Nat) : Nat → Str → List D → Store → R D
  | 0, _, _, _ => .bad
  | k + 1, f, ds, S => match P.defs.lookup f with
    | none => .bad
    | some d => if (padD d ds).length = d.ps.length then endR (exB (P.cx fuel (callN P fuel k)) d.body ((padD d ds).map some ++ List.replicate (d.ns.length - (padD d ds).length) none) S) else .bad
end Lt
namespace Lt
open PySem PySem.Spec PyProof.Rows L2
abbrev Sl := List (Option V)
/-- a list that never changes -/
def SqF (K : PySem.W.Frag) (H : Hp) (a : Addr) (vs : List V) : Prop := (∃ o, H a = some (.frz o (.lst vs))) ∨
    ∃ (o : Obj) (its : Array Value) (n : Nat), K.lookup a = some o ∧ o.cls = .type "list" ∧ o.dict = none ∧ o.data = .seq its n ∧ its.size ≤ sizeLine ∧ Vals vs its.toList
theorem SqF.sq {K : PySem.W.Frag} {H : Hp} {a : Addr} {vs : List V} (h : SqF K H a vs) : SqL K H a vs := by
  rcases h with h | h
  · exact .inl (.inr h)
  · exact .inr h
/-- a tuple of the module's -/
def SqC (K : PySem.W.Frag) (a : Addr) (vs : List V) : Prop := ∃ (o : Obj) (its : Array Value) (n : Nat), K.lookup a = some o ∧ o.cls = .type "tuple" ∧ o.data = .seq its n ∧ its.size ≤ sizeLine ∧ Vals vs its.toList
theorem SqC.sq {K : PySem.W.Frag} {H : Hp} {a : Addr} {vs : List V} (h : SqC K a vs) : SqT K H a vs := .inr h
section
variable (K : PySem.W.Frag) (CA : Str → Addr)
mutual
def RelD (L : List Addr) (H : Hp) : D → V → Prop
  | .non, v => v = .non
  | .bl b, v => v = .bl b
  | .int i, v => v = .int i
  | .str s, v => v = .str s
  | .ref n, v => ∃ a, L[n]? = some a ∧ v = .ref a
  | .tup xs, v => ∃ p vs, v = .ref p ∧ H p = some (.tup vs) ∧ RelDs L H xs vs
  | .frt xs, v => ∃ p vs, v = .ref p ∧ SqC K p vs ∧ RelDs L H xs vs
  | .frl xs, v => ∃ p vs, v = .ref p ∧ SqF K H p vs ∧ RelDs L H xs vs
def RelDs (L : List Addr) (H : Hp) : List D → List V → Prop
  | [], vs => vs = []
  | x :: xs, vs => ∃ v r, vs = v :: r ∧ RelD L H x v ∧ RelDs L H xs r
end
def CellR (L : List Addr) (H : Hp) (c : Cell) (a : Addr) : Prop := match c with
  | .lst xs => ∃ vs, H a = some (.lst vs) ∧ RelDs K L H xs vs
  | .dK kvs => ∃ vs, H a = some (.dK vs) ∧ vs.map (·.1) = kvs.map (·.1) ∧ RelDs K L H (kvs.map (·.2)) (vs.map (·.2))
  | .dT kvs => ∃ vs, H a = some (.dT vs) ∧ vs.map (·.1) = kvs.map (·.1) ∧ RelDs K L H (kvs.map (·.2)) (vs.map (·.2))
  | .ins C fs => ∃ dx gs, H a = some (.ins (CA C) dx gs) ∧ H dx = some (.own a) ∧ gs.map (·.1) = fs.map (·.1) ∧ RelDs K L H (fs.map (·.2)) (gs.map (·.2))
structure Good (S : Store) (L : List Addr) (H : Hp) : Prop where
  len : L.length = S.length
  nd : L.Nodup
  cell : ∀ (n : Nat) c a, S[n]? = some c → L[n]? = some a → CellR K CA L H c a
structure Step (L : List Addr) (H : Hp) (L' : List Addr) (H' : Hp) : Prop where
  ext : ∃ M, L' = L ++ M
  fresh : ∀ a, a ∈ L' → a ∈ L ∨ H a = none
  keep : ∀ a o, H a = some o → a ∉ L → H' a = some o
end
section
variable {K : PySem.W.Frag} {CA : Str → Addr} {S S' : Store} {L L1 M2 L' : List Addr} {H H1 H2 H' : Hp}
theorem Step.refl : Step L H L H := ⟨⟨[], by simp⟩, fun _ h => .inl h, fun _ _ h _ => h⟩
theorem Step.trans (a : Step L H L1 H1) (b : Step L1 H1 M2 H2) : Step L H M2 H2 := by
  obtain ⟨M, rfl⟩ := a.ext
  obtain ⟨M2, rfl⟩ := b.ext
  refine ⟨⟨M ++ M2, by simp⟩, fun x hx => ?_, fun x o e hn => ?_⟩
  · rcases b.fresh x hx with h | h
    · exact a.fresh x h
    · by_cases hL : x ∈ L
      · exact .inl hL
      · cases e : H x with
        | none => exact .inr rfl
        | some o =>
          have := a.keep x o e hL
          rw [h] at this; cases this
  · refine b.keep x o (a.keep x o e hn) fun hm => ?_
    rcases a.fresh x hm with h | h
    · exact hn h
    · rw [e] at h; cases h
theorem Step.get (a : Step L H L1 H1) {n : Nat} {x : Addr} (h : L[n]? = some x) : L1[n]? = some x := by
  obtain ⟨M, rfl⟩ := a.ext
  obtain ⟨hn, _⟩ := List.getElem?_eq_some_iff.mp h
  rw [List.getElem?_append_left hn]; exact h
theorem Good.at_ (g : Good K CA S L H) {a : Addr} (h : a ∈ L) : ∃ (n : Nat) (c : Cell), S[n]? = some c ∧ L[n]? = some a ∧ CellR K CA L H c a := by
  obtain ⟨n, hn, e⟩ := List.getElem_of_mem h
  have hS : n < S.length := by rw [← g.len]; exact hn
  exact ⟨n, S[n], by simp [hS], by simp [hn, e], g.cell n _ a (by simp [hS]) (by simp [hn, e])⟩
theorem Good.there (g : Good K CA S L H) {a : Addr} (h : a ∈ L) : ∃ o, H a = some o ∧ (∀ xs, o ≠ .tup xs) ∧ (∀ ob u, o ≠ .frz ob u) ∧ ∀ fs, o ≠ .xd fs := by
  obtain ⟨n, c, _, _, r⟩ := g.at_ h
  cases c with
  | lst xs => obtain ⟨vs, e, _⟩ := r; exact ⟨_, e, (by intro _ z; cases z), (by intro _ _ z; cases z), (by intro _ z; cases z)⟩
  | dK xs => obtain ⟨vs, e, _⟩ := r; exact ⟨_, e, (by intro _ z; cases z), (by intro _ _ z; cases z), (by intro _ z; cases z)⟩
  | dT xs => obtain ⟨vs, e, _⟩ := r; exact ⟨_, e, (by intro _ z; cases z), (by intro _ _ z; cases z), (by intro _ z; cases z)⟩
  | ins C fs => obtain ⟨dx, gs, e, _⟩ := r; exact ⟨_, e, (by intro _ z; cases z), (by intro _ _ z; cases z), (by intro _ z; cases z)⟩
theorem Good.fresh (g : Good K CA S L H) {a : Addr} (e : H a = none) : a ∉ L := fun h => by
  obtain ⟨o, e', _⟩ := g.there h
  rw [e] at e'; cases e'
/-- what never changes -/
def Per : HO → Prop
  | .tup _ => True
  | .frz _ _ => True
  | .xd _ => True
  | _ => False
/-- no cell goes, nothing changes that never changes -/
structure Mon (L : List Addr) (H : Hp) (L' : List Addr) (H' : Hp) : Prop where
  get : ∀ (n : Nat) (a : Addr), L[n]? = some a → L'[n]? = some a
  per : ∀ a o, H a = some o → Per o → H' a = some o
theorem Step.mon (g : Good K CA S L H) (st : Step L H L1 H1) : Mon L H L1 H1 := ⟨fun _ _ h => st.get h, fun a o e p => st.keep a o e fun h => by
  obtain ⟨o', e', n1, n2, n3⟩ := g.there h
  rw [e] at e'; cases e'
  cases o with
  | tup xs => exact n1 _ rfl
  | frz x u => exact n2 _ _ rfl
  | xd fs => exact n3 _ rfl
  | _ => exact p⟩
theorem SqT.mon (m : Mon L H L1 H1) {p : Addr} {vs : List V} (h : SqT K H p vs) : SqT K H1 p vs := by
  rcases h with (h | ⟨o, h⟩) | h
  · exact .inl (.inl (m.per _ _ h True.intro))
  · exact .inl (.inr ⟨o, m.per _ _ h True.intro⟩)
  · exact .inr h
theorem SqF.mon (m : Mon L H L1 H1) {p : Addr} {vs : List V} (h : SqF K H p vs) : SqF K H1 p vs := by
  rcases h with ⟨o, h⟩ | h
  · exact .inl ⟨o, m.per _ _ h True.intro⟩
  · exact .inr h
mutual
theorem RelD.mon (m : Mon L H L1 H1) : ∀ (d : D) (v : V), RelD K L H d v → RelD K L1 H1 d v
  | .non, v, h => by simpa [RelD] using h
  | .bl b, v, h => by simpa [RelD] using h
  | .int i, v, h => by simpa [RelD] using h
  | .str s, v, h => by simpa [RelD] using h
  | .ref n, v, h => by
    simp only [RelD] at h ⊢
    obtain ⟨a, e, h⟩ := h
    exact ⟨a, m.get _ _ e, h⟩
  | .tup xs, v, h => by
    simp only [RelD] at h ⊢
    obtain ⟨p, vs, e, h1, h2⟩ := h
    exact ⟨p, vs, e, m.per _ _ h1 True.intro, RelDs.mon m xs vs h2⟩
  | .frt xs, v, h => by
    simp only [RelD] at h ⊢
    obtain ⟨p, vs, e, h1, h2⟩ := h
    exact ⟨p, vs, e, h1, RelDs.mon m xs vs h2⟩
  | .frl xs, v, h => by
    simp only [RelD] at h ⊢
    obtain ⟨p, vs, e, h1, h2⟩ := h
    exact ⟨p, vs, e, h1.mon m, RelDs.mon m xs vs h2⟩
theorem RelDs.mon (m : Mon L H L1 H1) : ∀ (ds : List D) (vs : List V), RelDs K L H ds vs → RelDs K L1 H1 ds vs
  | [], vs, h => by simpa [RelDs] using h
  | d :: ds, vs, h => by
    simp only [RelDs] at h ⊢
    obtain ⟨v, r, e, h1, h2⟩ := h
    exact ⟨v, r, e, RelD.mon m d v h1, RelDs.mon m ds r h2⟩
end
theorem RelD.step (g : Good K CA S L H) (st : Step L H L1 H1) {d : D} {v : V} (h : RelD K L H d v) : RelD K L1 H1 d v := RelD.mon (st.mon g) d v h
theorem RelDs.step (g : Good K CA S L H) (st : Step L H L1 H1) {d : List D} {v : List V} (h : RelDs K L H d v) : RelDs K L1 H1 d v := RelDs.mon (st.mon g) d v h
theorem RelDs.cons {d : D} {ds : List D} {v : V} {vs : List V} (h : RelD K L H d v) (t : RelDs K L H ds vs) : RelDs K L H (d :: ds) (v :: vs) := by
  simp only [RelDs]
  exact ⟨v, vs, rfl, h, t⟩
theorem RelDs.nil : RelDs K L H [] [] := by simp [RelDs]
theorem RelDs.length : ∀ {ds : List D} {vs : List V}, RelDs K L H ds vs → vs.length = ds.length
  | [], vs, h => by simp only [RelDs] at h; rw [h]; rfl
  | d :: ds, vs, h => by
    simp only [RelDs] at h
    obtain ⟨v, r, rfl, _, t⟩ := h
    simp [RelDs.length t]
theorem RelDs.get : ∀ {ds : List D} {vs : List V} {i : Nat} {d : D}, RelDs K L H ds vs → ds[i]? = some d → ∃ v, vs[i]? = some v ∧ RelD K L H d v
  | [], _, _, _, _, e => by simp at e
  | x :: ds, vs, i, d, h, e => by
    simp only [RelDs] at h
    obtain ⟨v, r, rfl, h1, t⟩ := h
    cases i with
    | zero => simp at e; subst e; exact ⟨v, by simp, h1⟩
    | succ i => simp at e; obtain ⟨w, e2, h2⟩ := RelDs.get t e; exact ⟨w, by simpa using e2, h2⟩
theorem RelDs.append : ∀ {ds es : List D} {vs ws : List V}, RelDs K L H ds vs → RelDs K L H es ws → RelDs K L H (ds ++ es) (vs ++ ws)
  | [], _, vs, _, h, t => by simp only [RelDs] at h; subst h; exact t
  | x :: ds, _, vs, _, h, t => by
    simp only [RelDs] at h
    obtain ⟨v, r, rfl, h1, h2⟩ := h
    exact RelDs.cons h1 (RelDs.append h2 t)
theorem RelDs.set : ∀ {ds : List D} {vs : List V} (i : Nat) {d : D} {v : V}, RelDs K L H ds vs → RelD K L H d v → RelDs K L H (ds.set i d) (vs.set i v)
  | [], vs, _, _, _, h, _ => by simp only [RelDs] at h; subst h; exact RelDs.nil
  | x :: ds, vs, i, _, _, h, hd => by
    simp only [RelDs] at h
    obtain ⟨v, r, rfl, h1, h2⟩ := h
    cases i with
    | zero => exact RelDs.cons hd h2
    | succ i => exact RelDs.cons h1 (RelDs.set i h2 hd)
theorem RelDs.drop : ∀ {ds : List D} {vs : List V} (i : Nat), RelDs K L H ds vs → RelDs K L H (ds.drop i) (vs.drop i)
  | ds, vs, 0, h => by simpa using h
  | [], vs, i + 1, h => by simp only [RelDs] at h; subst h; exact RelDs.nil
  | x :: ds, vs, i + 1, h => by
    simp only [RelDs] at h
    obtain ⟨v, r, rfl, h1, h2⟩ := h
    exact RelDs.drop i h2
theorem RelDs.take : ∀ {ds : List D} {vs : List V} (i : Nat), RelDs K L H ds vs → RelDs K L H (ds.take i) (vs.take i)
  | ds, vs, 0, h => by simpa using RelDs.nil
  | [], vs, i + 1, h => by simp only [RelDs] at h; subst h; exact RelDs.nil
  | x :: ds, vs, i + 1, h => by
    simp only [RelDs] at h
    obtain ⟨v, r, rfl, h1, h2⟩ := h
    exact RelDs.cons h1 (RelDs.take i h2)
theorem RelDs.reverse : ∀ {ds : List D} {vs : List V}, RelDs K L H ds vs → RelDs K L H ds.reverse vs.reverse
  | [], vs, h => by simp only [RelDs] at h; subst h; exact RelDs.nil
  | x :: ds, vs, h => by
    simp only [RelDs] at h
    obtain ⟨v, r, rfl, h1, h2⟩ := h
    rw [List.reverse_cons, List.reverse_cons]
    exact RelDs.append (RelDs.reverse h2) (RelDs.cons h1 RelDs.nil)
theorem RelDs.rep {ds : List D} {vs : List V} (h : RelDs K L H ds vs) : ∀ n, RelDs K L H (List.replicate n ds).flatten (List.replicate n vs).flatten
  | 0 => RelDs.nil
  | n + 1 => by
    rw [List.replicate_succ, List.replicate_succ, List.flatten_cons, List.flatten_cons]
    exact RelDs.append h (RelDs.rep h n)
theorem RelDs.ints : ∀ {is : List Int}, RelDs K L H (is.map .int) (is.map V.int)
  | [] => RelDs.nil
  | i :: is => by
    rw [List.map_cons, List.map_cons]
    exact RelDs.cons (by simp [RelD]) RelDs.ints
/-- what a cell's description leans on -/
theorem CellR.mon (m : Mon L H L1 H1) {c : Cell} {a : Addr} (h : CellR K CA L H c a) (e : H1 a = H a) (hd : ∀ dx, H dx = some (.own a) → H1 dx = some (.own a)) : CellR K CA L1 H1 c a := by
  cases c with
  | lst xs => obtain ⟨vs, e1, r⟩ := h; exact ⟨vs, e.trans e1, RelDs.mon m _ _ r⟩
  | dK xs => obtain ⟨vs, e1, k, r⟩ := h; exact ⟨vs, e.trans e1, k, RelDs.mon m _ _ r⟩
  | dT xs => obtain ⟨vs, e1, k, r⟩ := h; exact ⟨vs, e.trans e1, k, RelDs.mon m _ _ r⟩
  | ins C fs => obtain ⟨dx, gs, e1, e2, e3, r⟩ := h; exact ⟨dx, gs, e.trans e1, hd dx e2, e3, RelDs.mon m _ _ r⟩
theorem Good.noO (g : Good K CA S L H) {b x : Addr} (e : H b = some (.own x)) : b ∉ L := fun h => by
  obtain ⟨n, c, _, _, r⟩ := g.at_ h
  cases c with
  | lst xs => obtain ⟨vs, e', _⟩ := r; rw [e] at e'; cases e'
  | dK xs => obtain ⟨vs, e', _⟩ := r; rw [e] at e'; cases e'
  | dT xs => obtain ⟨vs, e', _⟩ := r; rw [e] at e'; cases e'
  | ins C fs => obtain ⟨dx, gs, e', _⟩ := r; rw [e] at e'; cases e'
/-- a new cell -/
theorem Good.alloc (g : Good K CA S L H) {p : Addr} {o : HO} {c : Cell} (hp : H p = none) (hc : CellR K CA (L ++ [p]) (upd H p o) c p) :
    Step L H (L ++ [p]) (upd H p o) ∧ Good K CA (S ++ [c]) (L ++ [p]) (upd H p o) := by
  have hn := g.fresh hp
  have st : Step L H (L ++ [p]) (upd H p o) := by
    refine ⟨⟨[p], rfl⟩, fun x hx => ?_, fun x u e _ => ?_⟩
    · rcases List.mem_append.mp hx with h | h
      · exact .inl h
      · rw [List.mem_singleton] at h; subst h; exact .inr hp
    · rw [upd_ne (ne_of_none e hp)]; exact e
  refine ⟨st, by simp [g.len], ?_, fun n c' a h1 h2 => ?_⟩
  · rw [List.nodup_append]
    refine ⟨g.nd, by simp, fun x hx y hy => ?_⟩
    rw [List.mem_singleton] at hy
    subst hy
    exact fun e => hn (e ▸ hx)
  · by_cases hlt : n < S.length
    · rw [List.getElem?_append_left hlt] at h1
      rw [List.getElem?_append_left (by rw [g.len]; exact hlt)] at h2
      have ha : a ∈ L := List.mem_of_getElem? h2
      refine (g.cell n c' a h1 h2).mon (st.mon g) (upd_ne fun e => hn (e ▸ ha)) fun dx e => ?_
      rw [upd_ne (ne_of_none e hp)]; exact e
    · have e : n = S.length := by
        have := (List.getElem?_eq_some_iff.mp h1).1
        simp at this; omega
      subst e
      rw [List.getElem?_append_right (Nat.le_refl _)] at h1
      rw [List.getElem?_append_right (by rw [g.len]; exact Nat.le_refl _)] at h2
      simp at h1
      simp [g.len] at h2
      subst h1 h2
      exact hc
/-- something new that is no cell -/
theorem Good.side (g : Good K CA S L H) {p : Addr} {o : HO} (hp : H p = none) : Step L H L (upd H p o) ∧ Good K CA S L (upd H p o) := by
  have hn := g.fresh hp
  have st : Step L H L (upd H p o) := ⟨⟨[], by simp⟩, fun x hx => .inl hx, fun x u e _ => by rw [upd_ne (ne_of_none e hp)]; exact e⟩
  refine ⟨st, g.len, g.nd, fun n c a h1 h2 => ?_⟩
  have ha : a ∈ L := List.mem_of_getElem? h2
  refine (g.cell n c a h1 h2).mon (st.mon g) (upd_ne fun e => hn (e ▸ ha)) fun dx e => ?_
  rw [upd_ne (ne_of_none e hp)]; exact e
/-- a cell is written -/
theorem Good.write (g : Good K CA S L H) {n : Nat} {a : Addr} {o : HO} {c : Cell} (hn : L[n]? = some a) (hc : CellR K CA L (upd H a o) c a) :
    Step L H L (upd H a o) ∧ Good K CA (S.set n c) L (upd H a o) := by
  have ha : a ∈ L := List.mem_of_getElem? hn
  have st : Step L H L (upd H a o) := ⟨⟨[], by simp⟩, fun x hx => .inl hx, fun x u e hx => by rw [upd_ne (by intro z; subst z; exact hx ha)]; exact e⟩
  refine ⟨st, by simp [g.len], g.nd, fun m c' b h1 h2 => ?_⟩
  by_cases hm : m = n
  · subst hm
    rw [hn] at h2; cases h2
    have hlt : m < S.length := by rw [← g.len]; exact (List.getElem?_eq_some_iff.mp hn).1
    rw [List.getElem?_set_self hlt] at h1
    cases h1
    exact hc
  · rw [List.getElem?_set_ne (Ne.symm hm)] at h1
    have hab : b ≠ a := fun e => by
      subst e
      obtain ⟨h3, e3⟩ := List.getElem?_eq_some_iff.mp h2
      obtain ⟨h4, e4⟩ := List.getElem?_eq_some_iff.mp hn
      exact hm ((List.getElem_inj g.nd).mp (e3.trans e4.symm))
    refine (g.cell m c' b h1 h2).mon (st.mon g) (upd_ne hab) fun dx e => ?_
    rw [upd_ne (by intro z; subst z; exact g.noO e ha)]; exact e
/-- a list that is no cell is changed -/
theorem Good.other (g : Good K CA S L H) {p : Addr} {xs ys : List V} (hp : p ∉ L) (e : H p = some (.lst xs)) : Mon L H L (upd H p (.lst ys)) ∧ Good K CA S L (upd H p (.lst ys)) := by
  have m : Mon L H L (upd H p (.lst ys)) := ⟨fun _ _ h => h, fun a o ea pa => by
    rw [upd_ne (by intro z; subst z; rw [e] at ea; cases ea; exact pa)]; exact ea⟩
  refine ⟨m, g.len, g.nd, fun n c a h1 h2 => ?_⟩
  have ha : a ∈ L := List.mem_of_getElem? h2
  refine (g.cell n c a h1 h2).mon m (upd_ne fun z => hp (z ▸ ha)) fun dx ex => ?_
  rw [upd_ne (by intro z; subst z; rw [e] at ex; cases ex)]; exact ex
/-- where a suite's error stands: its slot, its address, its dict's address and what stands there -/
abbrev PinT := Option (Nat × Addr × Option (Addr × D))
structure Cxp extends Cxt where
  pin : PinT
instance : Coe Cxp Cxt := ⟨Cxp.toCxt⟩
def PinR (K : PySem.W.Frag) (pn : PinT) (L : List Addr) (H : Hp) (e : Env) (σ : Sl) : Prop := ∀ i a o, pn = some (i, a, o) → σ[i]? = some (some (.ref a)) ∧ e[i]? = some none ∧ ∀ x d, o = some (x, d) → ∃ v, H x = some (.xd [("at", v)]) ∧ RelD K L H d v
structure EnvR (K : PySem.W.Frag) (pn : PinT) (L : List Addr) (H : Hp) (e : Env) (σ : Sl) : Prop where
  len : e.length = σ.length
  has : ∀ (i : Nat) d, e[i]? = some (some d) → ∃ v, σ[i]? = some (some v) ∧ RelD K L H d v
  pin : PinR K pn L H e σ
variable {pn : PinT}
theorem EnvR.mon {e : Env} {σ : Sl} (h : EnvR K pn L H e σ) (m : Mon L H L1 H1) : EnvR K pn L1 H1 e σ :=
  ⟨h.len, fun i d hi => let ⟨v, e1, r⟩ := h.has i d hi; ⟨v, e1, RelD.mon m d v r⟩, fun i a o hp => by
    obtain ⟨p1, p2, p3⟩ := h.pin i a o hp
    refine ⟨p1, p2, fun x d ho => ?_⟩
    obtain ⟨v, q1, q2⟩ := p3 x d ho
    exact ⟨v, m.per _ _ q1 True.intro, RelD.mon m d v q2⟩⟩
theorem EnvR.step {e : Env} {σ : Sl} (h : EnvR K pn L H e σ) (g : Good K CA S L H) (st : Step L H L1 H1) : EnvR K pn L1 H1 e σ := h.mon (st.mon g)
theorem EnvR.set {e : Env} {σ : Sl} (h : EnvR K pn L H e σ) {i : Nat} {d : D} {v : V} (r : RelD K L H d v) (hp : ∀ j a o, pn = some (j, a, o) → j ≠ i) : EnvR K pn L H (e.set i (some d)) (σ.set i (some v)) := by
  refine ⟨by simp [h.len], fun j d' hj => ?_, fun j a o hj => ?_⟩
  · by_cases hij : j = i
    · subst hij
      by_cases hlt : j < e.length
      · rw [List.getElem?_set_self hlt] at hj
        cases hj
        exact ⟨v, by rw [List.getElem?_set_self (by rw [← h.len]; exact hlt)], r⟩
      · rw [List.getElem?_eq_none (by simpa using hlt)] at hj; cases hj
    · rw [List.getElem?_set_ne (Ne.symm hij)] at hj
      obtain ⟨w, e1, r1⟩ := h.has j d' hj
      exact ⟨w, by rw [List.getElem?_set_ne (Ne.symm hij)]; exact e1, r1⟩
  · have hij := hp j a o hj
    obtain ⟨p1, p2, p3⟩ := h.pin j a o hj
    exact ⟨by rw [List.getElem?_set_ne (Ne.symm hij)]; exact p1, by rw [List.getElem?_set_ne (Ne.symm hij)]; exact p2, p3⟩
theorem EnvR.wipe {e : Env} {σ : Sl} (h : EnvR K pn L H e σ) (hp : pn = none) : ∀ vs : List Nat, EnvR K pn L H (wipeE e vs) (L2.wipe σ vs)
  | [] => h
  | v :: vs => by
    have ih := EnvR.wipe h hp vs
    unfold wipeE L2.wipe
    refine ⟨by simp [ih.len], fun j d' hj => ?_, fun j a o hj => by rw [hp] at hj; cases hj⟩
    by_cases hij : j = v
    · subst hij
      by_cases hlt : j < (wipeE e vs).length
      · rw [List.getElem?_set_self hlt] at hj; cases hj
      · rw [List.getElem?_eq_none (by simpa using hlt)] at hj; cases hj
    · rw [List.getElem?_set_ne (Ne.symm hij)] at hj
      obtain ⟨w, e1, r1⟩ := ih.has j d' hj
      exact ⟨w, by rw [List.getElem?_set_ne (Ne.symm hij)]; exact e1, r1⟩
def ExR (K : PySem.W.Frag) (CA : Str → Addr) (L : List Addr) (H : Hp) (c : Exc) (cls : Value) (dd : Option Addr) : Prop := cls = .ref (CA c.cls) ∧ match c.at_ with
  | none => dd = none
  | some d => ∃ x v, dd = some x ∧ H x = some (.xd [("at", v)]) ∧ RelD K L H d v
variable {α β : Type} {W : WX} {σ : Sl}
/-- behind a result: P of its value -/
def Aft (K : PySem.W.Frag) (CA : Str → Addr) (W : WX) (σ : Sl) (L : List Addr) (H : Hp) (r : R α) (P : α → Store → List Addr → Hp → Prop) : Prop := match r with
  | .ok a S' => ∀ L' H', Step L H L' H' → Good K CA S' L' H' → P a S' L' H'
  | .exc c S' => ∀ cls dd L' H', Step L H L' H' → Good K CA S' L' H' → ExR K CA L' H' c cls dd → W cls dd σ H'
  | .bad => False
theorem Aft.from (st : Step L H L1 H1) {r : R α} {P : α → Store → List Addr → Hp → Prop} (h : Aft K CA W σ L H r P) : Aft K CA W σ L1 H1 r P := by
  cases r with
  | ok a S' => exact fun L' H' s' g => h L' H' (st.trans s') g
  | exc c S' => exact fun cls dd L' H' s' g x => h cls dd L' H' (st.trans s') g x
  | bad => exact h
theorem Aft.bind {r : R α} {k : α → Store → R β} {P : β → Store → List Addr → Hp → Prop} (h : Aft K CA W σ L H (r.bind k) P) :
    Aft K CA W σ L H r fun a S1 L1 H1 => Step L H L1 H1 ∧ Good K CA S1 L1 H1 ∧ Aft K CA W σ L1 H1 (k a S1) P := by
  cases r with
  | ok a S1 => exact fun L1 H1 s1 g1 => ⟨s1, g1, Aft.from s1 h⟩
  | exc c S1 => exact h
  | bad => exact h
theorem Aft.bind0 {r : R α} {k : α → Store → R β} {P : β → Store → List Addr → Hp → Prop} (h : Aft K CA W σ L H (r.bind k) P) :
    Aft K CA W σ L H r fun a S1 L1 H1 => Aft K CA W σ L H (k a S1) P := by
  cases r with
  | ok a S1 => exact fun _ _ _ _ => h
  | exc c S1 => exact h
  | bad => exact h
theorem Aft.more {r : R α} {P : α → Store → List Addr → Hp → Prop} (h : Aft K CA W σ L H r P) : Aft K CA W σ L H r fun a S1 L1 H1 => Step L H L1 H1 ∧ Good K CA S1 L1 H1 ∧ P a S1 L1 H1 := by
  cases r with
  | ok a S1 => exact fun L1 H1 s1 g1 => ⟨s1, g1, h L1 H1 s1 g1⟩
  | exc c S1 => exact h
  | bad => exact h
theorem Aft.mono {r : R α} {P P' : α → Store → List Addr → Hp → Prop} (h : Aft K CA W σ L H r P) (m : ∀ a S1 L1 H1, P a S1 L1 H1 → P' a S1 L1 H1) : Aft K CA W σ L H r P' := by
  cases r with
  | ok a S1 => exact fun L1 H1 s1 g1 => m _ _ _ _ (h L1 H1 s1 g1)
  | exc c S1 => exact h
  | bad => exact h
/-- an expression's reading -/
def tE (K : PySem.W.Frag) (CA : Str → Addr) (G : Cxp) (W : WX) (x : Ex) : TE := fun σ H Q => ∃ S L e, Good K CA S L H ∧ EnvR K G.pin L H e σ ∧ Aft K CA W σ L H (ev G x e S) fun d _ L' H' => ∀ v, RelD K L' H' d v → Q v H'
def tEs (K : PySem.W.Frag) (CA : Str → Addr) (G : Cxp) (W : WX) (xs : List Ex) : TA := fun σ H Q => ∃ S L e, Good K CA S L H ∧ EnvR K G.pin L H e σ ∧ Aft K CA W σ L H (evs G xs e S) fun ds _ L' H' => ∀ vs, RelDs K L' H' ds vs → Q vs H'
def tT (K : PySem.W.Frag) (CA : Str → Addr) (G : Cxp) (W : WX) (x : Ex) : TT := fun σ H Q => ∃ S L e, Good K CA S L H ∧ EnvR K G.pin L H e σ ∧ Aft K CA W σ L H (ev G x e S) fun d _ _ H' => ∃ b, d = .bl b ∧ Q b H'
def AftS (K : PySem.W.Frag) (CA : Str → Addr) (pn : PinT) (W : WX) (L : List Addr) (H : Hp) (r : SR) (Z : Ends) : Prop := match r with
  | .nx e S' => ∀ σ' L' H', Step L H L' H' → Good K CA S' L' H' → EnvR K pn L' H' e σ' → Z.nx σ' H'
  | .ret d S' => ∀ v L' H', Step L H L' H' → Good K CA S' L' H' → RelD K L' H' d v → Z.rt v H'
  | .brk e S' => ∀ σ' L' H', Step L H L' H' → Good K CA S' L' H' → EnvR K pn L' H' e σ' → Z.bk σ' H'
  | .exc c e S' => ∀ σ' cls dd L' H', Step L H L' H' → Good K CA S' L' H' → EnvR K pn L' H' e σ' → ExR K CA L' H' c cls dd → W cls dd σ' H'
  | .bad => False
theorem AftS.from (st : Step L H L1 H1) {r : SR} {Z : Ends} (h : AftS K CA pn W L H r Z) : AftS K CA pn W L1 H1 r Z := by
  cases r with
  | nx e S' => exact fun σ' L' H' s' g x => h σ' L' H' (st.trans s') g x
  | ret d S' => exact fun σ' L' H' s' g x => h σ' L' H' (st.trans s') g x
  | brk e S' => exact fun σ' L' H' s' g x => h σ' L' H' (st.trans s') g x
  | exc c e S' => exact fun σ' cls dd L' H' s' g x y => h σ' cls dd L' H' (st.trans s') g x y
  | bad => exact h
theorem AftS.toS {e : Env} (er : EnvR K pn L H e σ) (g : Good K CA S L H) {r : R α} {k : α → Store → SR} {Z : Ends} (h : AftS K CA pn W L H (r.toS e k) Z) :
    Aft K CA W σ L H r fun a S1 L1 H1 => Step L H L1 H1 ∧ Good K CA S1 L1 H1 ∧ AftS K CA pn W L1 H1 (k a S1) Z := by
  cases r with
  | ok a S1 => exact fun L1 H1 s1 g1 => ⟨s1, g1, AftS.from s1 h⟩
  | exc c S1 => exact fun cls dd L' H' s' g' x => h σ cls dd L' H' s' g' (er.step g s') x
  | bad => exact h
def tS (K : PySem.W.Frag) (CA : Str → Addr) (G : Cxp) (W : WX) (x : St) : TS := fun Z σ H => ∃ S L e, Good K CA S L H ∧ EnvR K G.pin L H e σ ∧ AftS K CA G.pin W L H (exS G x e S) Z
def tB (K : PySem.W.Frag) (CA : Str → Addr) (G : Cxp) (W : WX) (xs : List St) : TS := fun Z σ H => ∃ S L e, Good K CA S L H ∧ EnvR K G.pin L H e σ ∧ AftS K CA G.pin W L H (exB G xs e S) Z
end
end Lt
namespace Lt
open PySem L2
structure MC where
  N : List Str
  sc : Scope
  top : Bool
  fs : Str → Nat → Bool
  xs : Str → Bool
  fl : Str → Str → Bool
  ms : Str → Str → Str → Nat → Bool
  mks : Str → Str → Nat → Bool
  xo : Str → Bool
  /-- the slot of the error that a suite holds -/
  hs : Option Nat
def MC.blk (C : MC) (sc : Scope) : MC := ⟨C.N, relS sc C.sc, false, C.fs, C.xs, C.fl, C.ms, C.mks, fun _ => false, C.hs⟩
def MC.suite (C : MC) (i : Nat) : MC := ⟨C.N, C.sc, false, fun _ _ => false, fun _ => false, fun _ _ => false, fun _ _ _ _ => false, fun _ _ _ => false, fun _ => false, some i⟩
def cold (C : MC) : Bool := C.hs.isNone
def hsIs (C : MC) (i : Nat) : Bool := match C.hs with
  | some j => decide (j = i)
  | none => false
def hsNe (C : MC) (i : Nat) : Bool := match C.hs with
  | some j => !decide (j = i)
  | none => true
def nmOk (x : Str) : Bool := !(x == ("__debug__" : Str)) && !(x == ("__classdict__" : Str))
def visB (sc : Scope) (x : Str) : Bool := match sc.names.lookup x with
  | some .local => true
  | some .cell => true
  | some .free => true
  | _ => false
def locB (sc : Scope) (x : Str) : Bool := match sc.names.lookup x with
  | some .local => true
  | _ => false
def celB (sc : Scope) (x : Str) : Bool := match sc.names.lookup x with
  | some .cell => true
  | _ => false
def gloB (sc : Scope) (x : Str) : Bool := match sc.names.lookup x with
  | some .globalImplicit => true
  | _ => false
def slotB (C : MC) (i : Nat) (x : Str) : Bool := match C.N[i]? with
  | some y => decide (y = x)
  | none => false
def opB : Op → Operator → Bool
  | .add, .Add => true
  | .sub, .Sub => true
  | .mul, .Mult => true
  | .fdiv, .FloorDiv => true
  | .mod, .Mod => true
  | .pow, .Pow => true
  | _, _ => false
def cmB : Cm → CmpOp → Bool
  | .lt, .Lt => true
  | .le, .LtE => true
  | .gt, .Gt => true
  | .ge, .GtE => true
  | .eq, .Eq => true
  | .ne, .NotEq => true
  | _, _ => false
def cmI : Cm → CmpOp → Bool
  | .isin, .In => true
  | .notin, .NotIn => true
  | a, b => cmB a b
def dinB : Bool → CmpOp → Bool
  | false, .In => true
  | true, .NotIn => true
  | _, _ => false
def biN : Bi → Str
  | .len => "len"
  | .abs => "abs"
  | .int => "int"
  | .str => "str"
  | .list => "list"
  | .tuple => "tuple"
  | .sorted => "sorted"
  | .max => "max"
  | .min => "min"
def biOk (C : MC) : Bi → Bool
  | .max => cold C
  | .min => cold C
  | _ => true
def tyN : Ty → Str
  | .int => "int"
  | .bool => "bool"
  | .str => "str"
  | .tuple => "tuple"
  | .list => "list"
def notSl : Expr → Bool
  | .Slice _ _ _ _ => false
  | _ => true
def anyE : Expr → Bool
  | .ListComp _ _ _ _ => false
  | .SetComp _ _ _ _ => false
  | .DictComp _ _ _ _ _ => false
  | _ => true
def isTupE : Expr → Bool
  | .Tuple _ _ _ => true
  | _ => false
def itT : It → Bool
  | .enm _ => true
  | .zip _ _ => true
  | _ => false
/-- a test whose truth is its value's -/
def tOk : Ex → Bool
  | .ife _ _ _ => false
  | .any => false
  | .and a b => tOk a && tOk b
  | .or a b => tOk a && tOk b
  | .not a => tOk a
  | _ => true
def notSet : Expr → Bool
  | .Set _ _ _ => false
  | _ => true
def notSt : Expr → Bool
  | .Starred _ _ => false
  | _ => true
def notCall : Expr → Bool
  | .Call _ _ _ _ => false
  | _ => true
def ownL (C : MC) (own : List Nat) : List (Str × Nat) := own.map fun i => ((C.N[i]?).getD "", i)
def stB (C : MC) (x : Str) : Bool := locB C.sc x || (celB C.sc x && C.top)
def mTs (C : MC) : List Nat → List Expr → Bool
  | [], [] => true
  | i :: is, .Name x _ :: es => slotB C i x && stB C x && mTs C is es
  | _, _ => false
def mT (C : MC) : Tg → Expr → Bool
  | .name i, .Name x _ => hsNe C i && (slotB C i x && stB C x)
  | .tup is, .Tuple es _ _ => cold C && mTs C is es
  | _, _ => false
def mInt (i : Int) (e : Expr) : Bool := match e with
  | .Constant (.int j) k p => decide (j = i)
  | _ => false
theorem mInt_inv (i : Int) {e : Expr} (hh : mInt i e = true) : ∃ j k p, e = .Constant (.int j) k p ∧ (decide (j = i)) = true := by
  unfold mInt at hh
  split at hh
  · exact ⟨_, _, _, rfl, hh⟩
  · cases hh
def mStr (s : Str) (e : Expr) : Bool := match e with
  | .Constant (.str j) k p => decide (j = s)
  | _ => false
theorem mStr_inv (s : Str) {e : Expr} (hh : mStr s e = true) : ∃ j k p, e = .Constant (.str j) k p ∧ (decide (j = s)) = true := by
  unfold mStr at hh
  split at hh
  · exact ⟨_, _, _, rfl, hh⟩
  · cases hh
def mBl (b : Bool) (e : Expr) : Bool := match e with
  | .Constant (.bool j) k p => decide (j = b)
  | _ => false
theorem mBl_inv (b : Bool) {e : Expr} (hh : mBl b e = true) : ∃ j k p, e = .Constant (.bool j) k p ∧ (decide (j = b)) = true := by
  unfold mBl at hh
  split at hh
  · exact ⟨_, _, _, rfl, hh⟩
  · cases hh
def mNon  (e : Expr) : Bool := match e with
  | .Constant .none k p => true
  | _ => false
theorem mNon_inv  {e : Expr} (hh : mNon  e = true) : ∃ k p, e = .Constant .none k p ∧ (true) = true := by
  unfold mNon at hh
  split at hh
  · exact ⟨_, _, rfl, hh⟩
  · cases hh
def mVar (C : MC) (i : Nat) (e : Expr) : Bool := match e with
  | .Name x p => slotB C i x && visB C.sc x && nmOk x
  | _ => false
theorem mVar_inv (C : MC) (i : Nat) {e : Expr} (hh : mVar C i e = true) : ∃ x p, e = .Name x p ∧ (slotB C i x && visB C.sc x && nmOk x) = true := by
  unfold mVar at hh
  split at hh
  · exact ⟨_, _, rfl, hh⟩
  · cases hh
def mGlo (C : MC) (y : Str) (e : Expr) : Bool := match e with
  | .Name x p => decide (x = y) && gloB C.sc x && nmOk x
  | _ => false
theorem mGlo_inv (C : MC) (y : Str) {e : Expr} (hh : mGlo C y e = true) : ∃ x p, e = .Name x p ∧ (decide (x = y) && gloB C.sc x && nmOk x) = true := by
  unfold mGlo at hh
  split at hh
  · exact ⟨_, _, rfl, hh⟩
  · cases hh
def mBin (op : Op) (f g : Expr → Bool) (e : Expr) : Bool := match e with
  | .BinOp l o r p => opB op o && f l && g r
  | _ => false
theorem mBin_inv (op : Op) (f g : Expr → Bool) {e : Expr} (hh : mBin op f g e = true) : ∃ l o r p, e = .BinOp l o r p ∧ (opB op o && f l && g r) = true := by
  unfold mBin at hh
  split at hh
  · exact ⟨_, _, _, _, rfl, hh⟩
  · cases hh
def mNeg (f : Expr → Bool) (e : Expr) : Bool := match e with
  | .UnaryOp .USub l p => f l
  | _ => false
theorem mNeg_inv (f : Expr → Bool) {e : Expr} (hh : mNeg f e = true) : ∃ l p, e = .UnaryOp .USub l p ∧ (f l) = true := by
  unfold mNeg at hh
  split at hh
  · exact ⟨_, _, rfl, hh⟩
  · cases hh
def mNot (f : Expr → Bool) (e : Expr) : Bool := match e with
  | .UnaryOp .Not l p => f l
  | _ => false
theorem mNot_inv (f : Expr → Bool) {e : Expr} (hh : mNot f e = true) : ∃ l p, e = .UnaryOp .Not l p ∧ (f l) = true := by
  unfold mNot at hh
  split at hh
  · exact ⟨_, _, rfl, hh⟩
  · cases hh
def mCmp (op : Cm) (f g : Expr → Bool) (e : Expr) : Bool := match e with
  | .Compare l [o] [r] p => cmI op o && notSet r && f l && g r
  | _ => false
theorem mCmp_inv (op : Cm) (f g : Expr → Bool) {e : Expr} (hh : mCmp op f g e = true) : ∃ l o r p, e = .Compare l [o] [r] p ∧ (cmI op o && notSet r && f l && g r) = true := by
  unfold mCmp at hh
  split at hh
  · exact ⟨_, _, _, _, rfl, hh⟩
  · cases hh
def mChn5 (o1 o2 o3 o4 : Cm) (f g h i j : Expr → Bool) (e : Expr) : Bool := match e with
  | .Compare l [q1, q2, q3, q4] [r1, r2, r3, r4] p => cmB o1 q1 && cmB o2 q2 && cmB o3 q3 && cmB o4 q4 && f l && g r1 && h r2 && i r3 && j r4
  | _ => false
theorem mChn5_inv (o1 o2 o3 o4 : Cm) (f g h i j : Expr → Bool) {e : Expr} (hh : mChn5 o1 o2 o3 o4 f g h i j e = true) : ∃ l q1 q2 q3 q4 r1 r2 r3 r4 p, e = .Compare l [q1, q2, q3, q4] [r1, r2, r3, r4] p ∧ (cmB o1 q1 && cmB o2 q2 && cmB o3 q3 && cmB o4 q4 && f l && g r1 && h r2 && i r3 && j r4) = true := by
  unfold mChn5 at hh
  split at hh
  · exact ⟨_, _, _, _, _, _, _, _, _, _, rfl, hh⟩
  · cases hh
def mNtB (b : Bool) (f : Expr → Bool) (e : Expr) : Bool := match e with
  | .Compare l [.IsNot] [.Constant (.bool j) k p2] p => decide (j = b) && f l
  | _ => false
theorem mNtB_inv (b : Bool) (f : Expr → Bool) {e : Expr} (hh : mNtB b f e = true) : ∃ l j k p2 p, e = .Compare l [.IsNot] [.Constant (.bool j) k p2] p ∧ (decide (j = b) && f l) = true := by
  unfold mNtB at hh
  split at hh
  · exact ⟨_, _, _, _, _, rfl, hh⟩
  · cases hh
def mDic  (e : Expr) : Bool := match e with
  | .Dict [] [] p => true
  | _ => false
theorem mDic_inv  {e : Expr} (hh : mDic  e = true) : ∃ p, e = .Dict [] [] p ∧ (true) = true := by
  unfold mDic at hh
  split at hh
  · exact ⟨_, rfl, hh⟩
  · cases hh
def mDin (n : Bool) (f g : Expr → Bool) (e : Expr) : Bool := match e with
  | .Compare l [o] [r] p => dinB n o && notSet r && f l && g r
  | _ => false
theorem mDin_inv (n : Bool) (f g : Expr → Bool) {e : Expr} (hh : mDin n f g e = true) : ∃ l o r p, e = .Compare l [o] [r] p ∧ (dinB n o && notSet r && f l && g r) = true := by
  unfold mDin at hh
  split at hh
  · exact ⟨_, _, _, _, rfl, hh⟩
  · cases hh
def mMet2 (n : Str) (f g h : Expr → Bool) (e : Expr) : Bool := match e with
  | .Call (.Attribute l m ap) [r, t] [] cp => decide (m = n) && notCall l && (ap.endLine == cp.line) && notSt r && notSt t && f l && g r && h t
  | _ => false
theorem mMet2_inv (n : Str) (f g h : Expr → Bool) {e : Expr} (hh : mMet2 n f g h e = true) : ∃ l m ap r t cp, e = .Call (.Attribute l m ap) [r, t] [] cp ∧ (decide (m = n) && notCall l && (ap.endLine == cp.line) && notSt r && notSt t && f l && g r && h t) = true := by
  unfold mMet2 at hh
  split at hh
  · exact ⟨_, _, _, _, _, _, rfl, hh⟩
  · cases hh
def mChn4 (o1 o2 o3 : Cm) (f g h i : Expr → Bool) (e : Expr) : Bool := match e with
  | .Compare l [q1, q2, q3] [r1, r2, r3] p => cmB o1 q1 && cmB o2 q2 && cmB o3 q3 && f l && g r1 && h r2 && i r3
  | _ => false
theorem mChn4_inv (o1 o2 o3 : Cm) (f g h i : Expr → Bool) {e : Expr} (hh : mChn4 o1 o2 o3 f g h i e = true) : ∃ l q1 q2 q3 r1 r2 r3 p, e = .Compare l [q1, q2, q3] [r1, r2, r3] p ∧ (cmB o1 q1 && cmB o2 q2 && cmB o3 q3 && f l && g r1 && h r2 && i r3) = true := by
  unfold mChn4 at hh
  split at hh
  · exact ⟨_, _, _, _, _, _, _, _, rfl, hh⟩
  · cases hh
def mChn (o1 o2 : Cm) (f g h : Expr → Bool) (e : Expr) : Bool := match e with
  | .Compare l [q1, q2] [r1, r2] p => cmB o1 q1 && cmB o2 q2 && f l && g r1 && h r2
  | _ => false
theorem mChn_inv (o1 o2 : Cm) (f g h : Expr → Bool) {e : Expr} (hh : mChn o1 o2 f g h e = true) : ∃ l q1 q2 r1 r2 p, e = .Compare l [q1, q2] [r1, r2] p ∧ (cmB o1 q1 && cmB o2 q2 && f l && g r1 && h r2) = true := by
  unfold mChn at hh
  split at hh
  · exact ⟨_, _, _, _, _, _, rfl, hh⟩
  · cases hh
def mIsN (f : Expr → Bool) (e : Expr) : Bool := match e with
  | .Compare l [.Is] [.Constant .none k p2] p => f l
  | _ => false
theorem mIsN_inv (f : Expr → Bool) {e : Expr} (hh : mIsN f e = true) : ∃ l k p2 p, e = .Compare l [.Is] [.Constant .none k p2] p ∧ (f l) = true := by
  unfold mIsN at hh
  split at hh
  · exact ⟨_, _, _, _, rfl, hh⟩
  · cases hh
def mNtN (f : Expr → Bool) (e : Expr) : Bool := match e with
  | .Compare l [.IsNot] [.Constant .none k p2] p => f l
  | _ => false
theorem mNtN_inv (f : Expr → Bool) {e : Expr} (hh : mNtN f e = true) : ∃ l k p2 p, e = .Compare l [.IsNot] [.Constant .none k p2] p ∧ (f l) = true := by
  unfold mNtN at hh
  split at hh
  · exact ⟨_, _, _, _, rfl, hh⟩
  · cases hh
def mIfe (f g h : Expr → Bool) (e : Expr) : Bool := match e with
  | .IfExp t l r p => f t && g l && h r
  | _ => false
theorem mIfe_inv (f g h : Expr → Bool) {e : Expr} (hh : mIfe f g h e = true) : ∃ t l r p, e = .IfExp t l r p ∧ (f t && g l && h r) = true := by
  unfold mIfe at hh
  split at hh
  · exact ⟨_, _, _, _, rfl, hh⟩
  · cases hh
def mTup (f : List Expr → Bool) (e : Expr) : Bool := match e with
  | .Tuple es k p => f es
  | _ => false
theorem mTup_inv (f : List Expr → Bool) {e : Expr} (hh : mTup f e = true) : ∃ es k p, e = .Tuple es k p ∧ (f es) = true := by
  unfold mTup at hh
  split at hh
  · exact ⟨_, _, _, rfl, hh⟩
  · cases hh
def mLst (f : List Expr → Bool) (e : Expr) : Bool := match e with
  | .List es p => f es
  | _ => false
theorem mLst_inv (f : List Expr → Bool) {e : Expr} (hh : mLst f e = true) : ∃ es p, e = .List es p ∧ (f es) = true := by
  unfold mLst at hh
  split at hh
  · exact ⟨_, _, rfl, hh⟩
  · cases hh
def mIdx (f g : Expr → Bool) (e : Expr) : Bool := match e with
  | .Subscript l s p => notSl s && f l && g s
  | _ => false
theorem mIdx_inv (f g : Expr → Bool) {e : Expr} (hh : mIdx f g e = true) : ∃ l s p, e = .Subscript l s p ∧ (notSl s && f l && g s) = true := by
  unfold mIdx at hh
  split at hh
  · exact ⟨_, _, _, rfl, hh⟩
  · cases hh
def mSlT (f g : Expr → Bool) (e : Expr) : Bool := match e with
  | .Subscript l (.Slice none (some r) none p2) p => f l && g r
  | _ => false
theorem mSlT_inv (f g : Expr → Bool) {e : Expr} (hh : mSlT f g e = true) : ∃ l r p2 p, e = .Subscript l (.Slice none (some r) none p2) p ∧ (f l && g r) = true := by
  unfold mSlT at hh
  split at hh
  · exact ⟨_, _, _, _, rfl, hh⟩
  · cases hh
def mSlF (f g : Expr → Bool) (e : Expr) : Bool := match e with
  | .Subscript l (.Slice (some r) none none p2) p => f l && g r
  | _ => false
theorem mSlF_inv (f g : Expr → Bool) {e : Expr} (hh : mSlF f g e = true) : ∃ l r p2 p, e = .Subscript l (.Slice (some r) none none p2) p ∧ (f l && g r) = true := by
  unfold mSlF at hh
  split at hh
  · exact ⟨_, _, _, _, rfl, hh⟩
  · cases hh
def mSlB (f g h : Expr → Bool) (e : Expr) : Bool := match e with
  | .Subscript l (.Slice (some r) (some t) none p2) p => f l && g r && h t
  | _ => false
theorem mSlB_inv (f g h : Expr → Bool) {e : Expr} (hh : mSlB f g h e = true) : ∃ l r t p2 p, e = .Subscript l (.Slice (some r) (some t) none p2) p ∧ (f l && g r && h t) = true := by
  unfold mSlB at hh
  split at hh
  · exact ⟨_, _, _, _, _, rfl, hh⟩
  · cases hh
def mRev (f : Expr → Bool) (e : Expr) : Bool := match e with
  | .Subscript l (.Slice none none (some (.UnaryOp .USub (.Constant (.int 1) k p1) p2)) p3) p => f l
  | _ => false
theorem mRev_inv (f : Expr → Bool) {e : Expr} (hh : mRev f e = true) : ∃ l k p1 p2 p3 p, e = .Subscript l (.Slice none none (some (.UnaryOp .USub (.Constant (.int 1) k p1) p2)) p3) p ∧ (f l) = true := by
  unfold mRev at hh
  split at hh
  · exact ⟨_, _, _, _, _, _, rfl, hh⟩
  · cases hh
def mCall (C : MC) (y : Str) (n : Nat) (f : List Expr → Bool) (e : Expr) : Bool := match e with
  | .Call (.Name x q) es [] p => decide (x = y) && gloB C.sc x && nmOk x && C.fs x n && f es
  | _ => false
theorem mCall_inv (C : MC) (y : Str) (n : Nat) (f : List Expr → Bool) {e : Expr} (hh : mCall C y n f e = true) : ∃ x q es p, e = .Call (.Name x q) es [] p ∧ (decide (x = y) && gloB C.sc x && nmOk x && C.fs x n && f es) = true := by
  unfold mCall at hh
  split at hh
  · exact ⟨_, _, _, _, rfl, hh⟩
  · cases hh
def mBi (C : MC) (y : Str) (f : List Expr → Bool) (e : Expr) : Bool := match e with
  | .Call (.Name x q) es [] p => decide (x = y) && gloB C.sc x && f es
  | _ => false
theorem mBi_inv (C : MC) (y : Str) (f : List Expr → Bool) {e : Expr} (hh : mBi C y f e = true) : ∃ x q es p, e = .Call (.Name x q) es [] p ∧ (decide (x = y) && gloB C.sc x && f es) = true := by
  unfold mBi at hh
  split at hh
  · exact ⟨_, _, _, _, rfl, hh⟩
  · cases hh
def mIsI (C : MC) (y : Str) (f : Expr → Bool) (e : Expr) : Bool := match e with
  | .Call (.Name x q) [l, .Name z q2] [] p => decide (x = ("isinstance" : Str)) && gloB C.sc x && decide (z = y) && gloB C.sc z && notSt l && f l
  | _ => false
theorem mIsI_inv (C : MC) (y : Str) (f : Expr → Bool) {e : Expr} (hh : mIsI C y f e = true) : ∃ x q l z q2 p, e = .Call (.Name x q) [l, .Name z q2] [] p ∧ (decide (x = ("isinstance" : Str)) && gloB C.sc x && decide (z = y) && gloB C.sc z && notSt l && f l) = true := by
  unfold mIsI at hh
  split at hh
  · exact ⟨_, _, _, _, _, _, rfl, hh⟩
  · cases hh
def mMet1 (n : Str) (f g : Expr → Bool) (e : Expr) : Bool := match e with
  | .Call (.Attribute l m ap) [r] [] cp => decide (m = n) && notCall l && (ap.endLine == cp.line) && notSt r && f l && g r
  | _ => false
theorem mMet1_inv (n : Str) (f g : Expr → Bool) {e : Expr} (hh : mMet1 n f g e = true) : ∃ l m ap r cp, e = .Call (.Attribute l m ap) [r] [] cp ∧ (decide (m = n) && notCall l && (ap.endLine == cp.line) && notSt r && f l && g r) = true := by
  unfold mMet1 at hh
  split at hh
  · exact ⟨_, _, _, _, _, rfl, hh⟩
  · cases hh
def mMet0 (n : Str) (f : Expr → Bool) (e : Expr) : Bool := match e with
  | .Call (.Attribute l m ap) [] [] cp => decide (m = n) && notCall l && (ap.endLine == cp.line) && f l
  | _ => false
theorem mMet0_inv (n : Str) (f : Expr → Bool) {e : Expr} (hh : mMet0 n f e = true) : ∃ l m ap cp, e = .Call (.Attribute l m ap) [] [] cp ∧ (decide (m = n) && notCall l && (ap.endLine == cp.line) && f l) = true := by
  unfold mMet0 at hh
  split at hh
  · exact ⟨_, _, _, _, rfl, hh⟩
  · cases hh
def mIsB (b : Bool) (f : Expr → Bool) (e : Expr) : Bool := match e with
  | .Compare l [.Is] [.Constant (.bool j) k p2] p => decide (j = b) && f l
  | _ => false
theorem mIsB_inv (b : Bool) (f : Expr → Bool) {e : Expr} (hh : mIsB b f e = true) : ∃ l j k p2 p, e = .Compare l [.Is] [.Constant (.bool j) k p2] p ∧ (decide (j = b) && f l) = true := by
  unfold mIsB at hh
  split at hh
  · exact ⟨_, _, _, _, _, rfl, hh⟩
  · cases hh
def mFld (C : MC) (y n : Str) (f : Expr → Bool) (e : Expr) : Bool := match e with
  | .Attribute l m p => decide (m = n) && C.fl y n && notCall l && f l
  | _ => false
theorem mFld_inv (C : MC) (y n : Str) (f : Expr → Bool) {e : Expr} (hh : mFld C y n f e = true) : ∃ l m p, e = .Attribute l m p ∧ (decide (m = n) && C.fl y n && notCall l && f l) = true := by
  unfold mFld at hh
  split at hh
  · exact ⟨_, _, _, rfl, hh⟩
  · cases hh
def mMth (C : MC) (y n key : Str) (c : Nat) (f : Expr → Bool) (g : List Expr → Bool) (e : Expr) : Bool := match e with
  | .Call (.Attribute (.Name x q) w ap) es [] cp => decide (w = n) && (ap.endLine == cp.line) && decide (es.length < 30) && C.ms y n key c && f (.Name x q) && g es
  | _ => false
theorem mMth_inv (C : MC) (y n key : Str) (c : Nat) (f : Expr → Bool) (g : List Expr → Bool) {e : Expr} (hh : mMth C y n key c f g e = true) : ∃ x q w ap es cp, e = .Call (.Attribute (.Name x q) w ap) es [] cp ∧ (decide (w = n) && (ap.endLine == cp.line) && decide (es.length < 30) && C.ms y n key c && f (.Name x q) && g es) = true := by
  unfold mMth at hh
  split at hh
  · exact ⟨_, _, _, _, _, _, rfl, hh⟩
  · cases hh
def mMk (C : MC) (y key : Str) (c : Nat) (g : List Expr → Bool) (e : Expr) : Bool := match e with
  | .Call (.Name x q) es [] p => decide (x = y) && gloB C.sc x && nmOk x && C.mks y key c && g es
  | _ => false
theorem mMk_inv (C : MC) (y key : Str) (c : Nat) (g : List Expr → Bool) {e : Expr} (hh : mMk C y key c g e = true) : ∃ x q es p, e = .Call (.Name x q) es [] p ∧ (decide (x = y) && gloB C.sc x && nmOk x && C.mks y key c && g es) = true := by
  unfold mMk at hh
  split at hh
  · exact ⟨_, _, _, _, rfl, hh⟩
  · cases hh
def mLc (C : MC) (own ts : List Nat) (nd : Bool) (it : Expr → Bool) (t el : MC → Expr → Bool) (e : Expr) : Bool := match e with
  | .ListComp x [⟨tg, i, [], 0⟩] sc p => cold C && notSet i && ts.all (fun i => own.contains i) && (!nd || isTupE tg) && blkC C.N C.sc sc (ownL C own) && it i && t (C.blk sc) tg && el (C.blk sc) x
  | _ => false
theorem mLc_inv (C : MC) (own ts : List Nat) (nd : Bool) (it : Expr → Bool) (t el : MC → Expr → Bool) {e : Expr} (hh : mLc C own ts nd it t el e = true) : ∃ x tg i sc p, e = .ListComp x [⟨tg, i, [], 0⟩] sc p ∧ (cold C && notSet i && ts.all (fun i => own.contains i) && (!nd || isTupE tg) && blkC C.N C.sc sc (ownL C own) && it i && t (C.blk sc) tg && el (C.blk sc) x) = true := by
  unfold mLc at hh
  split at hh
  · exact ⟨_, _, _, _, _, rfl, hh⟩
  · cases hh
def mLcI (C : MC) (own ts : List Nat) (nd : Bool) (it : Expr → Bool) (t c el : MC → Expr → Bool) (e : Expr) : Bool := match e with
  | .ListComp x [⟨tg, i, [f], 0⟩] sc p => cold C && notSet i && ts.all (fun i => own.contains i) && (!nd || isTupE tg) && blkC C.N C.sc sc (ownL C own) && it i && t (C.blk sc) tg && c (C.blk sc) f && el (C.blk sc) x
  | _ => false
theorem mLcI_inv (C : MC) (own ts : List Nat) (nd : Bool) (it : Expr → Bool) (t c el : MC → Expr → Bool) {e : Expr} (hh : mLcI C own ts nd it t c el e = true) : ∃ x tg i f sc p, e = .ListComp x [⟨tg, i, [f], 0⟩] sc p ∧ (cold C && notSet i && ts.all (fun i => own.contains i) && (!nd || isTupE tg) && blkC C.N C.sc sc (ownL C own) && it i && t (C.blk sc) tg && c (C.blk sc) f && el (C.blk sc) x) = true := by
  unfold mLcI at hh
  split at hh
  · exact ⟨_, _, _, _, _, _, rfl, hh⟩
  · cases hh
def mCl1 (C : MC) (y : Str) (f : Expr → Bool) (e : Expr) : Bool := match e with
  | .Call (.Name x q) [l] [] p => decide (x = y) && gloB C.sc x && notSt l && f l
  | _ => false
theorem mCl1_inv (C : MC) (y : Str) (f : Expr → Bool) {e : Expr} (hh : mCl1 C y f e = true) : ∃ x q l p, e = .Call (.Name x q) [l] [] p ∧ (decide (x = y) && gloB C.sc x && notSt l && f l) = true := by
  unfold mCl1 at hh
  split at hh
  · exact ⟨_, _, _, _, rfl, hh⟩
  · cases hh
def mXis (C : MC) (i : Nat) (y : Str) (e : Expr) : Bool := match e with
  | .Call (.Name x q) [.Name n q1, .Name z q2] [] p => decide (x = ("isinstance" : Str)) && gloB C.sc x && decide (z = y) && gloB C.sc z && nmOk z && hsIs C i && slotB C i n && visB C.sc n && nmOk n
  | _ => false
theorem mXis_inv (C : MC) (i : Nat) (y : Str) {e : Expr} (hh : mXis C i y e = true) : ∃ x q n q1 z q2 p, e = .Call (.Name x q) [.Name n q1, .Name z q2] [] p ∧ (decide (x = ("isinstance" : Str)) && gloB C.sc x && decide (z = y) && gloB C.sc z && nmOk z && hsIs C i && slotB C i n && visB C.sc n && nmOk n) = true := by
  unfold mXis at hh
  split at hh
  · exact ⟨_, _, _, _, _, _, _, rfl, hh⟩
  · cases hh
def mXat (C : MC) (i : Nat) (e : Expr) : Bool := match e with
  | .Attribute (.Name n q) m p => decide (m = ("at" : Str)) && hsIs C i && slotB C i n && visB C.sc n && nmOk n
  | _ => false
theorem mXat_inv (C : MC) (i : Nat) {e : Expr} (hh : mXat C i e = true) : ∃ n q m p, e = .Attribute (.Name n q) m p ∧ (decide (m = ("at" : Str)) && hsIs C i && slotB C i n && visB C.sc n && nmOk n) = true := by
  unfold mXat at hh
  split at hh
  · exact ⟨_, _, _, _, rfl, hh⟩
  · cases hh
def mCl2 (C : MC) (y : Str) (f g : Expr → Bool) (e : Expr) : Bool := match e with
  | .Call (.Name x q) [l, r] [] p => decide (x = y) && gloB C.sc x && notSt l && notSt r && f l && g r
  | _ => false
theorem mCl2_inv (C : MC) (y : Str) (f g : Expr → Bool) {e : Expr} (hh : mCl2 C y f g e = true) : ∃ x q l r p, e = .Call (.Name x q) [l, r] [] p ∧ (decide (x = y) && gloB C.sc x && notSt l && notSt r && f l && g r) = true := by
  unfold mCl2 at hh
  split at hh
  · exact ⟨_, _, _, _, _, rfl, hh⟩
  · cases hh
def mBool (op : BoolOp) (f g : Expr → Bool) (e : Expr) : Bool := match e with
  | .BoolOp o (l :: r :: rest) p => decide (o = op) && f l && (match rest with
    | [] => g r
    | _ :: _ => g (.BoolOp op (r :: rest) p))
  | _ => false
theorem mBool_inv (op : BoolOp) (f g : Expr → Bool) {e : Expr} (h : mBool op f g e = true) : ∃ l r rest p, e = .BoolOp op (l :: r :: rest) p ∧ f l = true ∧ ((rest = [] ∧ g r = true) ∨ (rest ≠ [] ∧ g (.BoolOp op (r :: rest) p) = true)) := by
  unfold mBool at h
  split at h
  · rename_i o l r rest p
    rw [Bool.and_eq_true, Bool.and_eq_true] at h
    obtain ⟨⟨h0, h1⟩, h2⟩ := h
    have h0 := of_decide_eq_true h0
    subst h0
    refine ⟨l, r, rest, p, rfl, h1, ?_⟩
    split at h2
    · exact .inl ⟨rfl, h2⟩
    · exact .inr ⟨by simp, h2⟩
  · cases h
def flatE : List (Option Expr) → List Expr → Option (List Expr)
  | [], [] => some []
  | some k :: ks, v :: vs => (flatE ks vs).map fun r => k :: v :: r
  | _, _ => none
def mDsp (f : List Expr → Bool) (e : Expr) : Bool := match e with
  | .Dict ks vs _ => match flatE ks vs with
    | some xs => decide (ks.length ≤ 15) && f xs
    | none => false
  | _ => false
theorem mDsp_inv (f : List Expr → Bool) {e : Expr} (hh : mDsp f e = true) : ∃ ks vs p xs, e = .Dict ks vs p ∧ flatE ks vs = some xs ∧ ks.length ≤ 15 ∧ f xs = true := by
  unfold mDsp at hh
  split at hh
  · split at hh
    · rename_i h
      exact ⟨_, _, _, _, rfl, h, of_decide_eq_true (Bool.and_eq_true_iff.mp hh).1, (Bool.and_eq_true_iff.mp hh).2⟩
    · cases hh
  · cases hh
mutual
def mE : Ex → MC → Expr → Bool
  | .int i, _ => mInt i
  | .str s, _ => mStr s
  | .bl b, _ => mBl b
  | .non, _ => mNon
  | .var i, C => mVar C i
  | .glo x, C => mGlo C x
  | .bin op a b, C => mBin op (mE a C) (mE b C)
  | .neg a, C => mNeg (mE a C)
  | .not a, C => mNot (mE a C)
  | .and a b, C => mBool .And (mE a C) (mE b C)
  | .or a b, C => mBool .Or (mE a C) (mE b C)
  | .cmp op a b, C => mCmp op (mE a C) (mE b C)
  | .chn o1 o2 a b c, C => mChn o1 o2 (mE a C) (mE b C) (mE c C)
  | .isN a, C => mIsN (mE a C)
  | .ntN a, C => mNtN (mE a C)
  | .ife c a b, C => mIfe (fun t => tOk c && mE c C t) (mE a C) (mE b C)
  | .tup es, C => mTup fun xs => decide (es.length ≤ lim) && mEs es C xs
  | .lst es, C => mLst fun xs => decide (es.length ≤ lim) && mEs es C xs
  | .idx a i, C => mIdx (mE a C) (mE i C)
  | .slT a b, C => mSlT (mE a C) (mE b C)
  | .slF a b, C => mSlF (mE a C) (mE b C)
  | .slB a b c, C => mSlB (mE a C) (mE b C) (mE c C)
  | .rev a, C => mRev (mE a C)
  | .call f es, C => mCall C f es.length (mEs es C)
  | .bi b es, C => mBi C (biN b) fun xs => biOk C b && (decide (es.length ≠ 0) && mEs es C xs)
  | .xis i y, C => mXis C i y
  | .xat i, C => mXat C i
  | .dsp es, C => mDsp fun xs => decide (es.length ≠ 0) && mEs es C xs
  | .isI a t, C => mIsI C (tyN t) (mE a C)
  | .app o a, C => mMet1 "append" (mE o C) (mE a C)
  | .ext o a, C => mMet1 "extend" (mE o C) (mE a C)
  | .clr o, C => mMet0 "clear" (mE o C)
  | .isB a b, C => mIsB b (mE a C)
  | .chn4 o1 o2 o3 a b c d, C => mChn4 o1 o2 o3 (mE a C) (mE b C) (mE c C) (mE d C)
  | .fld a y f, C => mFld C y f (mE a C)
  | .any, _ => anyE
  | .chn5 o1 o2 o3 o4 a b c d f, C => mChn5 o1 o2 o3 o4 (mE a C) (mE b C) (mE c C) (mE d C) (mE f C)
  | .ntB a b, C => mNtB b (mE a C)
  | .dic _, _ => mDic
  | .dgt o k, C => mIdx (mE o C) (mE k C)
  | .din n k o, C => mDin n (mE k C) (mE o C)
  | .get1 o k, C => mMet1 "get" (mE o C) (mE k C)
  | .get2 o k d, C => mMet2 "get" (mE o C) (mE k C) (mE d C)
  | .dpop o k, C => mMet1 "pop" (mE o C) (mE k C)
  | .ixo o a, C => mMet1 "index" (mE o C) (mE a C)
  | .ins o i a, C => mMet2 "insert" (mE o C) (mE i C) (mE a C)
  | .pop0 o, C => mMet0 "pop" (mE o C)
  | .pop1 o i, C => mMet1 "pop" (mE o C) (mE i C)
  | .mth o y f key es, C => mMth C y f key es.length (mE o C) (mEs es C)
  | .mk y key es, C => mMk C y key es.length (mEs es C)
  | .lc own t it el, C => mLc C own (tsl t) (itT it) (mI it C) (fun C => mT C t) (mE el)
  | .lcI own t it c el, C => mLcI C own (tsl t) (itT it) (mI it C) (fun C => mT C t) (fun C f => tOk c && mE c C f) (mE el)
def mEs : List Ex → MC → List Expr → Bool
  | [], _, es => es.isEmpty
  | x :: xs, C, es => match es with
    | e :: r => notSt e && mE x C e && mEs xs C r
    | [] => false
def mI : It → MC → Expr → Bool
  | .seq a, C => mE a C
  | .rng a, C => mCl1 C "range" (mE a C)
  | .rng2 a b, C => mCl2 C "range" (mE a C) (mE b C)
  | .enm a, C => mCl1 C "enumerate" (mE a C)
  | .zip a b, C => mCl2 C "zip" (mE a C) (mE b C)
  | .rvd a, C => mCl1 C "reversed" (mE a C)
end
def notLc : Expr → Bool
  | .ListComp _ _ _ _ => false
  | _ => true
/-- the stores of a written tuple are not exchanged -/
def noSwap (ts vs : List Expr) : Bool := vs.all (foldedForSure 8) && ts.all fun
  | .Name _ _ => true
  | _ => false
def noSwapE (C : MC) (v tg : Expr) : Bool := match v, tg with
  | .Tuple vs _ _, .Tuple ts _ _ => noSwap ts vs || ts.any fun
    | .Name x _ => celB C.sc x
    | _ => false
  | _, _ => true
def swapOk (C : MC) (x y : Str) (px py : Pos) (a b : Expr) : Bool := locB C.sc x && locB C.sc y && (py.line == px.line) && !(x == y) && !([a, b].all (foldedForSure 8)) && !([a, b].all (constantsAlone 8))
def swapOk3 (C : MC) (x y z : Str) (px py pz : Pos) (a b c : Expr) : Bool := locB C.sc x && locB C.sc y && locB C.sc z && (py.line == px.line) && (pz.line == px.line) && !(x == y) && !(x == z) && !(y == z) && !([a, b, c].all (foldedForSure 8)) && !([a, b, c].all (constantsAlone 8))
def qAsg (C : MC) (t : Tg) (f : Expr → Bool) (e : Stmt) : Bool := match e with
  | .Assign [tg] v p => mT C t tg && f v && noSwapE C v tg
  | _ => false
theorem qAsg_inv (C : MC) (t : Tg) (f : Expr → Bool) {e : Stmt} (hh : qAsg C t f e = true) : ∃ tg v p, e = .Assign [tg] v p ∧ (mT C t tg && f v && noSwapE C v tg) = true := by
  unfold qAsg at hh
  split at hh
  · exact ⟨_, _, _, rfl, hh⟩
  · cases hh
def qPar (C : MC) (i j : Nat) (f g : Expr → Bool) (e : Stmt) : Bool := match e with
  | .Assign [.Tuple [.Name x px, .Name y py] kt pt] (.Tuple [l, r] k2 pt2) p => cold C && slotB C i x && slotB C j y && decide (i ≠ j) && swapOk C x y px py l r && notSt l && notSt r && f l && g r
  | _ => false
theorem qPar_inv (C : MC) (i j : Nat) (f g : Expr → Bool) {e : Stmt} (hh : qPar C i j f g e = true) : ∃ x px y py kt pt l r k2 pt2 p, e = .Assign [.Tuple [.Name x px, .Name y py] kt pt] (.Tuple [l, r] k2 pt2) p ∧ (cold C && slotB C i x && slotB C j y && decide (i ≠ j) && swapOk C x y px py l r && notSt l && notSt r && f l && g r) = true := by
  unfold qPar at hh
  split at hh
  · exact ⟨_, _, _, _, _, _, _, _, _, _, _, rfl, hh⟩
  · cases hh
def qPa3 (C : MC) (i j k : Nat) (f g h : Expr → Bool) (e : Stmt) : Bool := match e with
  | .Assign [.Tuple [.Name x px, .Name y py, .Name z pz] kt pt] (.Tuple [l, r, m] k2 pt2) p => cold C && slotB C i x && slotB C j y && slotB C k z && decide (i ≠ j) && decide (i ≠ k) && decide (j ≠ k) && swapOk3 C x y z px py pz l r m && notSt l && notSt r && notSt m && f l && g r && h m
  | _ => false
theorem qPa3_inv (C : MC) (i j k : Nat) (f g h : Expr → Bool) {e : Stmt} (hh : qPa3 C i j k f g h e = true) : ∃ x px y py z pz kt pt l r m k2 pt2 p, e = .Assign [.Tuple [.Name x px, .Name y py, .Name z pz] kt pt] (.Tuple [l, r, m] k2 pt2) p ∧ (cold C && slotB C i x && slotB C j y && slotB C k z && decide (i ≠ j) && decide (i ≠ k) && decide (j ≠ k) && swapOk3 C x y z px py pz l r m && notSt l && notSt r && notSt m && f l && g r && h m) = true := by
  unfold qPa3 at hh
  split at hh
  · exact ⟨_, _, _, _, _, _, _, _, _, _, _, _, _, _, rfl, hh⟩
  · cases hh
def qSub (f g h : Expr → Bool) (e : Stmt) : Bool := match e with
  | .Assign [.Subscript l k p2] v p => notSl k && f l && g k && h v
  | _ => false
theorem qSub_inv (f g h : Expr → Bool) {e : Stmt} (hh : qSub f g h e = true) : ∃ l k p2 v p, e = .Assign [.Subscript l k p2] v p ∧ (notSl k && f l && g k && h v) = true := by
  unfold qSub at hh
  split at hh
  · exact ⟨_, _, _, _, _, rfl, hh⟩
  · cases hh
def qExp (f : Expr → Bool) (e : Stmt) : Bool := match e with
  | .Expr v p => notLc v && f v
  | _ => false
theorem qExp_inv (f : Expr → Bool) {e : Stmt} (hh : qExp f e = true) : ∃ v p, e = .Expr v p ∧ (notLc v && f v) = true := by
  unfold qExp at hh
  split at hh
  · exact ⟨_, _, rfl, hh⟩
  · cases hh
def qIte (f : Expr → Bool) (g h : List Stmt → Bool) (e : Stmt) : Bool := match e with
  | .If t l r p => f t && g l && h r
  | _ => false
theorem qIte_inv (f : Expr → Bool) (g h : List Stmt → Bool) {e : Stmt} (hh : qIte f g h e = true) : ∃ t l r p, e = .If t l r p ∧ (f t && g l && h r) = true := by
  unfold qIte at hh
  split at hh
  · exact ⟨_, _, _, _, rfl, hh⟩
  · cases hh
def qFor (C : MC) (t : Tg) (nd : Bool) (f : Expr → Bool) (g : List Stmt → Bool) (e : Stmt) : Bool := match e with
  | .For tg i l [] p => cold C && notSet i && (!nd || isTupE tg) && mT C t tg && f i && g l
  | _ => false
theorem qFor_inv (C : MC) (t : Tg) (nd : Bool) (f : Expr → Bool) (g : List Stmt → Bool) {e : Stmt} (hh : qFor C t nd f g e = true) : ∃ tg i l p, e = .For tg i l [] p ∧ (cold C && notSet i && (!nd || isTupE tg) && mT C t tg && f i && g l) = true := by
  unfold qFor at hh
  split at hh
  · exact ⟨_, _, _, _, rfl, hh⟩
  · cases hh
def qWhl (C : MC) (f : Expr → Bool) (g : List Stmt → Bool) (e : Stmt) : Bool := match e with
  | .While t l [] p => cold C && f t && g l
  | _ => false
theorem qWhl_inv (C : MC) (f : Expr → Bool) (g : List Stmt → Bool) {e : Stmt} (hh : qWhl C f g e = true) : ∃ t l p, e = .While t l [] p ∧ (cold C && f t && g l) = true := by
  unfold qWhl at hh
  split at hh
  · exact ⟨_, _, _, rfl, hh⟩
  · cases hh
def qRet (f : Expr → Bool) (e : Stmt) : Bool := match e with
  | .Return (some v) p => f v
  | _ => false
theorem qRet_inv (f : Expr → Bool) {e : Stmt} (hh : qRet f e = true) : ∃ v p, e = .Return (some v) p ∧ (f v) = true := by
  unfold qRet at hh
  split at hh
  · exact ⟨_, _, rfl, hh⟩
  · cases hh
def qRetN  (e : Stmt) : Bool := match e with
  | .Return none p => true
  | _ => false
theorem qRetN_inv  {e : Stmt} (hh : qRetN  e = true) : ∃ p, e = .Return none p ∧ (true) = true := by
  unfold qRetN at hh
  split at hh
  · exact ⟨_, rfl, hh⟩
  · cases hh
def qBrk  (e : Stmt) : Bool := match e with
  | .Break p => true
  | _ => false
theorem qBrk_inv  {e : Stmt} (hh : qBrk  e = true) : ∃ p, e = .Break p ∧ (true) = true := by
  unfold qBrk at hh
  split at hh
  · exact ⟨_, rfl, hh⟩
  · cases hh
def qPass  (e : Stmt) : Bool := match e with
  | .Pass p => true
  | _ => false
theorem qPass_inv  {e : Stmt} (hh : qPass  e = true) : ∃ p, e = .Pass p ∧ (true) = true := by
  unfold qPass at hh
  split at hh
  · exact ⟨_, rfl, hh⟩
  · cases hh
def qStf (C : MC) (y n : Str) (f g : Expr → Bool) (e : Stmt) : Bool := match e with
  | .Assign [.Attribute l m p2] v p => decide (m = n) && C.fl y n && f l && g v
  | _ => false
theorem qStf_inv (C : MC) (y n : Str) (f g : Expr → Bool) {e : Stmt} (hh : qStf C y n f g e = true) : ∃ l m p2 v p, e = .Assign [.Attribute l m p2] v p ∧ (decide (m = n) && C.fl y n && f l && g v) = true := by
  unfold qStf at hh
  split at hh
  · exact ⟨_, _, _, _, _, rfl, hh⟩
  · cases hh
def qRai (C : MC) (y : Str) (e : Stmt) : Bool := match e with
  | .Raise (some (.Call (.Name x q) [.Constant (.str m) j p2] [] p3)) none p => decide (x = y) && gloB C.sc x && nmOk x && C.xs x
  | _ => false
theorem qRai_inv (C : MC) (y : Str) {e : Stmt} (hh : qRai C y e = true) : ∃ x q m j p2 p3 p, e = .Raise (some (.Call (.Name x q) [.Constant (.str m) j p2] [] p3)) none p ∧ (decide (x = y) && gloB C.sc x && nmOk x && C.xs x) = true := by
  unfold qRai at hh
  split at hh
  · exact ⟨_, _, _, _, _, _, _, rfl, hh⟩
  · cases hh
def qRaA (C : MC) (y : Str) (f : Expr → Bool) (e : Stmt) : Bool := match e with
  | .Raise (some (.Call (.Name x q) [a] [] p3)) none p => decide (x = y) && gloB C.sc x && nmOk x && C.xo x && notSt a && f a
  | _ => false
theorem qRaA_inv (C : MC) (y : Str) (f : Expr → Bool) {e : Stmt} (hh : qRaA C y f e = true) : ∃ x q a p3 p, e = .Raise (some (.Call (.Name x q) [a] [] p3)) none p ∧ (decide (x = y) && gloB C.sc x && nmOk x && C.xo x && notSt a && f a) = true := by
  unfold qRaA at hh
  split at hh
  · exact ⟨_, _, _, _, _, rfl, hh⟩
  · cases hh
def qTrA (C : MC) (y : Str) (i : Nat) (g h : List Stmt → Bool) (e : Stmt) : Bool := match e with
  | .Try b [.ExceptHandler (some (.Name x np)) (some n) (b0 :: su) p2] [] [] p => C.top && decide (x = y) && gloB C.sc x && nmOk x && (C.xs x || C.xo x) && slotB C i n && locB C.sc n && g b && h (b0 :: su)
  | _ => false
theorem qTrA_inv (C : MC) (y : Str) (i : Nat) (g h : List Stmt → Bool) {e : Stmt} (hh : qTrA C y i g h e = true) : ∃ b x np n b0 su p2 p, e = .Try b [.ExceptHandler (some (.Name x np)) (some n) (b0 :: su) p2] [] [] p ∧ (C.top && decide (x = y) && gloB C.sc x && nmOk x && (C.xs x || C.xo x) && slotB C i n && locB C.sc n && g b && h (b0 :: su)) = true := by
  unfold qTrA at hh
  split at hh
  · exact ⟨_, _, _, _, _, _, _, _, rfl, hh⟩
  · cases hh
def qTr2 (C : MC) (y : Str) (i : Nat) (y2 : Str) (i2 : Nat) (g h h2 : List Stmt → Bool) (e : Stmt) : Bool := match e with
  | .Try b [.ExceptHandler (some (.Name x np)) (some n) (b0 :: su) p2, .ExceptHandler (some (.Name x2 np2)) (some n2) (b02 :: su2) p3] [] [] p => C.top && decide (x = y) && gloB C.sc x && nmOk x && (C.xs x || C.xo x) && slotB C i n && locB C.sc n && decide (x2 = y2) && gloB C.sc x2 && nmOk x2 && (C.xs x2 || C.xo x2) && slotB C i2 n2 && locB C.sc n2 && g b && h (b0 :: su) && h2 (b02 :: su2)
  | _ => false
theorem qTr2_inv (C : MC) (y : Str) (i : Nat) (y2 : Str) (i2 : Nat) (g h h2 : List Stmt → Bool) {e : Stmt} (hh : qTr2 C y i y2 i2 g h h2 e = true) : ∃ b x np n b0 su p2 x2 np2 n2 b02 su2 p3 p, e = .Try b [.ExceptHandler (some (.Name x np)) (some n) (b0 :: su) p2, .ExceptHandler (some (.Name x2 np2)) (some n2) (b02 :: su2) p3] [] [] p ∧ (C.top && decide (x = y) && gloB C.sc x && nmOk x && (C.xs x || C.xo x) && slotB C i n && locB C.sc n && decide (x2 = y2) && gloB C.sc x2 && nmOk x2 && (C.xs x2 || C.xo x2) && slotB C i2 n2 && locB C.sc n2 && g b && h (b0 :: su) && h2 (b02 :: su2)) = true := by
  unfold qTr2 at hh
  split at hh
  · exact ⟨_, _, _, _, _, _, _, _, _, _, _, _, _, _, rfl, hh⟩
  · cases hh
def qTry (C : MC) (y : Str) (g : List Stmt → Bool) (f : Expr → Bool) (e : Stmt) : Bool := match e with
  | .Try b [.ExceptHandler (some (.Name x np)) none [.Return (some v) rp] p2] [] [] p => C.top && decide (x = y) && gloB C.sc x && nmOk x && C.xs x && g b && f v
  | _ => false
theorem qTry_inv (C : MC) (y : Str) (g : List Stmt → Bool) (f : Expr → Bool) {e : Stmt} (hh : qTry C y g f e = true) : ∃ b x np v rp p2 p, e = .Try b [.ExceptHandler (some (.Name x np)) none [.Return (some v) rp] p2] [] [] p ∧ (C.top && decide (x = y) && gloB C.sc x && nmOk x && C.xs x && g b && f v) = true := by
  unfold qTry at hh
  split at hh
  · exact ⟨_, _, _, _, _, _, _, rfl, hh⟩
  · cases hh
mutual
/-- a constant, or a display of such -/
def kE : Ex → Expr → Bool
  | .int i => mInt i
  | .str s => mStr s
  | .bl b => mBl b
  | .non => mNon
  | .tup es => mTup fun xs => decide (es.length ≤ lim) && kEs es xs
  | .lst es => mLst fun xs => decide (es.length ≤ lim) && kEs es xs
  | _ => fun _ => false
def kEs : List Ex → List Expr → Bool
  | [], es => es.isEmpty
  | x :: xs, es => match es with
    | e :: r => notSt e && kE x e && kEs xs r
    | [] => false
end
mutual
def mS : St → MC → Stmt → Bool
  | .asg t x, C => qAsg C t (mE x C)
  | .par i j a b, C => qPar C i j (mE a C) (mE b C)
  | .sub o i x, C => qSub (mE o C) (mE i C) (mE x C)
  | .exp x, C => qExp (mE x C)
  | .ite c a b, C => qIte (fun t => tOk c && mE c C t) (mB a C) (mB b C)
  | .forS t it b, C => qFor C t (itT it) (mI it C) (mB b C)
  | .whl c b, C => qWhl C (fun t => tOk c && mE c C t) (mB b C)
  | .ret x, C => qRet (mE x C)
  | .retN, _ => qRetN
  | .brk, _ => qBrk
  | .pass, _ => qPass
  | .stf o y f x, C => qStf C y f (mE o C) (mE x C)
  | .any, _ => fun _ => true
  | .dst o k x, C => qSub (mE o C) (mE k C) (mE x C)
  | .rai y, C => qRai C y
  | .tryC b y a, C => qTry C y (mB b C) (kE a)
  | .raiA y a, C => qRaA C y (mE a C)
  | .tryA b y i su, C => qTrA C y i (mB b C) (mB su (C.suite i))
  | .par3 i j l a b c, C => qPa3 C i j l (mE a C) (mE b C) (mE c C)
  | .try2 b y i su y2 i2 su2, C => qTr2 C y i y2 i2 (mB b C) (mB su (C.suite i)) (mB su2 (C.suite i2))
def mB : List St → MC → List Stmt → Bool
  | [], _, ss => ss.isEmpty
  | x :: xs, C, ss => match ss with
    | s :: r => mS x C s && mB xs C r
    | [] => false
end
end Lt
set_option maxHeartbeats 1000000
namespace Lt
open PySem PySem.Spec PyProof.Rows L2
def bltN : List Str := ["abs", "len", "isinstance", "range", "int", "bool", "str", "tuple", "list", "sorted", "max", "min", "enumerate", "zip", "reversed"]
/-- a def that may be called with n written arguments -/
def CallOk (X : Cx) (CA : Str → Addr) (G : Cxt) (f : Str) (n : Nat) : Prop := ∃ (a : Addr) (fd : FuncData) (ps : List Str) (ds : List Value) (dvs : List V) (k : Nat) (sp : Sp),
  FnOk X.prog X.w X.K X.mg X.base (L2.CX X.prog X.w) k a fd ps sp ∧ Room k X.A ∧ X.mg f = some (.ref a) ∧ PySem.W.keepIn X.K (.ref a) = true ∧ Binds X.K fd ps ds ∧ Vals dvs ds ∧
  ∀ (vs : List V) (xs : List D) (S : Store) (L : List Addr) (H : Hp) (σ : Sl) (Q : VK) (E : XK), Good X.K CA S L H → RelDs X.K L H xs vs → xs.length = n →
    Aft X.K CA (fun c d _ H' => E c d H') σ L H (G.cl f xs S) (fun d _ L' H' => ∀ v, RelD X.K L' H' d v → Q v H') → sp (vs ++ dvs) H Q E
/-- a method that may be called with n written arguments -/
def MthOk (X : Cx) (CA : Str → Addr) (G : Cxt) (C m key : Str) (n : Nat) : Prop := ∃ (a : Addr) (fd : FuncData) (ps : List Str) (ds : List Value) (dvs : List V) (k : Nat) (sp : Sp),
  Cls X.K (CA C) ∧ Meth X.K (CA C) m a ∧ FnOk X.prog X.w X.K X.mg X.base (L2.CX X.prog X.w) k a fd ps sp ∧ Room k X.A ∧ Binds X.K fd ps ds ∧ Vals dvs ds ∧
  ∀ (vs : List V) (xs : List D) (S : Store) (L : List Addr) (H : Hp) (σ : Sl) (Q : VK) (E : XK), Good X.K CA S L H → RelDs X.K L H xs vs → xs.length = n + 1 →
    Aft X.K CA (fun c d _ H' => E c d H') σ L H (G.cl key xs S) (fun d _ L' H' => ∀ v, RelD X.K L' H' d v → Q v H') → sp (vs ++ dvs) H Q E
def MakOk (X : Cx) (CA : Str → Addr) (G : Cxt) (C key : Str) (n : Nat) : Prop := ∃ (a : Addr) (fd : FuncData) (ps : List Str) (k : Nat) (sp : Sp),
  Mk X.K (CA C) a ∧ X.mg C = some (.ref (CA C)) ∧ FnOk X.prog X.w X.K X.mg X.base (L2.CX X.prog X.w) k a fd ps sp ∧ Room (k + 1) X.A ∧ Binds X.K fd ps [] ∧
  ∀ (vs : List V) (xs : List D) (S : Store) (L : List Addr) (H : Hp) (σ : Sl) (Q : VK) (E : XK), Good X.K CA S L H → RelDs X.K L H xs vs → xs.length = n + 1 →
    Aft X.K CA (fun c d _ H' => E c d H') σ L H (G.cl key xs S) (fun d _ L' H' => ∀ v, RelD X.K L' H' d v → Q v H') → sp vs H Q E
/-- what raises an error with a field: an own __init__ that is walked -/
def XoOk (X : Cx) (CA : Str → Addr) (x : Str) : Prop := ∃ (fI : Addr) (k : Nat) (fd : FuncData) (ps : List Str) (sp : Sp),
  OexC X.K (CA x) ∧ PySem.W.findIn X.K (.ref (CA x)) "__init__" = some (some (.ref fI)) ∧ PySem.W.typeIn X.K (.ref fI) = some (.type "function") ∧
  FnOk X.prog X.w X.K X.mg X.base (L2.CX X.prog X.w) k fI fd ps sp ∧ Room (k + 1) X.A ∧ Binds X.K fd ps [] ∧ X.mg x = some (.ref (CA x)) ∧
  ∀ (a : Addr) (v : V) (H : Hp) (Q : VK) (E : XK), H a = some (exo a (CA x) none) → (∀ dx H', H dx = none → dx ≠ a → H' = upd (upd H dx (exd dx [("at", v)])) a (exo a (CA x) (some dx)) → Q .non H') → sp [.ref a, v] H Q E
/-- the class that isinstance asks for -/
def ClsV (X : Cx) (CA : Str → Addr) (y : Str) (cv : Value) : Prop := (X.mg y = some (.ref (CA y)) ∧ cv = .ref (CA y)) ∨ (X.mg y = none ∧ y = ("ValueError" : Str) ∧ cv = .type "ValueError")
structure Ok (X : Cx) (CA : Str → Addr) (G : Cxp) (W : WX) (C : MC) : Prop where
  cal : C.hs = none → X.calm = true
  nm : X.N = C.N
  nd : C.N.Nodup
  sc : X.env.scope = C.sc
  kind : C.sc.kind = .function
  tk : Takes X W
  un : X.A.units + 100 < cLine
  pas : C.hs = none → PassesOwn (model X.prog X.w) X.A X.env X.xe
  free : ∀ x ∈ bltN, X.mg x = none
  fn : C.top = true → ∀ x, X.fn x = true
  glo : ∀ x d, G.glo x = some d → ∃ v u, X.mg x = some u ∧ RelV v u ∧ ∀ L H, RelD X.K L H d v
  call : ∀ f n, C.fs f n = true → CallOk X CA G f n
  fl : ∀ y f, C.fl y f = true → Cls X.K (CA y) ∧ NoAttr X.K (CA y) f
  ms : ∀ y m key n, C.ms y m key n = true → MthOk X CA G y m key n
  mks : ∀ y key n, C.mks y key n = true → MakOk X CA G y key n
  xc : ∀ x, C.xs x = true → X.mg x = some (.ref (CA x)) ∧ PySem.W.excIn X.K (CA x) He.veBase "ValueError.__new__" = true ∧ PySem.W.keepIn X.K (.ref (CA x)) = true ∧ Raises X (.ref (CA x))
  sb : ∀ x y b, G.sub x y = some b → PySem.W.exmOne X.K (.ref (CA x)) (.ref (CA y)) = some b
  fr : C.top = true → X.env.frame = some X.env.locals
  stk : C.top = true → X.stack = X.env :: X.outer
  xo : ∀ x, C.xo x = true → XoOk X CA x
  xi : ∀ x y b, G.isc x y = some b → ExcC X.K (CA x) ∧ ∃ cv, ClsV X CA y cv ∧ PySem.W.kitOne X.K (.ref (CA x)) cv = some b
  xf : ∀ x y b, G.isc x y = some b → XfC X.K (CA x) ∧ PySem.W.findIn X.K (.ref (CA x)) "at" = some none
  tc : C.top = true → C.hs = none
  xsc : ∀ x, C.xs x = true → C.hs = none
  xoc : ∀ x, C.xo x = true → C.hs = none
  hot : C.hs = G.pin.map (·.1)
  hotx : ∀ i a o, G.pin = some (i, a, o) → ∃ (X0 : Cx) (oe : Obj) (pn : List (Addr × Obj)) (c : Exc), X = X0.suite a ((a, oe) :: pn) ∧ Zc (.ref (CA c.cls)) (o.map (·.1)) oe ∧ (∃ vs, oe.data = .fields vs) ∧ G.exc = some c ∧ c.at_ = o.map (·.2)
theorem Ok.calm {X : Cx} {CA : Str → Addr} {G : Cxp} {W : WX} {C : MC} (ok : Ok X CA G W C) (h : cold C = true) : X.calm = true := ok.cal (by unfold cold at h; exact Option.isNone_iff_eq_none.mp h)
theorem Ok.pass {X : Cx} {CA : Str → Addr} {G : Cxp} {W : WX} {C : MC} (ok : Ok X CA G W C) (h : cold C = true) : PassesOwn (model X.prog X.w) X.A X.env X.xe := ok.pas (by unfold cold at h; exact Option.isNone_iff_eq_none.mp h)
theorem Ok.nopin {X : Cx} {CA : Str → Addr} {G : Cxp} {W : WX} {C : MC} (ok : Ok X CA G W C) (h : cold C = true) : G.pin = none := by
  have := ok.hot
  unfold cold at h
  rw [Option.isNone_iff_eq_none.mp h] at this
  exact Option.map_eq_none_iff.mp this.symm
theorem Ok.hsne {X : Cx} {CA : Str → Addr} {G : Cxp} {W : WX} {C : MC} (ok : Ok X CA G W C) {i : Nat} (h : hsNe C i = true) : ∀ j a o, G.pin = some (j, a, o) → j ≠ i := by
  intro j a o e
  have := ok.hot
  rw [e] at this
  simp only [Option.map_some] at this
  unfold hsNe at h
  rw [this] at h
  simpa using h
theorem Ok.cold_ne {X : Cx} {CA : Str → Addr} {G : Cxp} {W : WX} {C : MC} (ok : Ok X CA G W C) (h : cold C = true) (i : Nat) : ∀ j a o, G.pin = some (j, a, o) → j ≠ i := by
  intro j a o e
  rw [ok.nopin h] at e; cases e
section
variable {X : Cx} {CA : Str → Addr} {G : Cxp} {W : WX} {C : MC} {S S' : Store} {L L1 M2 L' : List Addr} {H H1 H2 H' : Hp} {σ : Sl} {e : Expr}
theorem PE.by_ {t t0 : TE} (h : PE X e t0) (m : ∀ σ H Q, t σ H Q → t0 σ H Q) : PE X e t := ⟨fun pins s σ H Q I q => h.run pins s σ H Q I (m σ H Q q)⟩
theorem PT.by_ {t t0 : TT} (h : PT X e t0) (m : ∀ σ H Q, t σ H Q → t0 σ H Q) : PT X e t := ⟨fun pins s σ H Q I q => h.run pins s σ H Q I (m σ H Q q)⟩
theorem PA.by_ {es : List Expr} {t t0 : TA} (h : PA X es t0) (m : ∀ σ H Q, t σ H Q → t0 σ H Q) : PA X es t := ⟨fun pos pins s σ H Q I q => h.run pos pins s σ H Q I (m σ H Q q)⟩
theorem PI.by_ {tg : Expr} {t t0 : TI} (h : PI X tg e t0) (m : ∀ σ H Q, t σ H Q → t0 σ H Q) : PI X tg e t := ⟨fun pins s σ H Q I q => h.run pins s σ H Q I (m σ H Q q)⟩
theorem PG.by_ {t t0 : TG} (h : PG X e t0) (m : ∀ v σ H Q, t v σ H Q → t0 v σ H Q) : PG X e t := ⟨fun pins s σ H v u Q I r q => h.run pins s σ H v u Q I r (m v σ H Q q)⟩
theorem PS.by_ {st : Stmt} {t t0 : TS} (h : PS X st t0) (m : ∀ Z σ H, t Z σ H → t0 Z σ H) : PS X st t := ⟨fun pins s σ H D I q => h.run pins s σ H D I (m D σ H q)⟩
theorem PSs.by_ {st : List Stmt} {t t0 : TS} (h : PSs X st t0) (m : ∀ Z σ H, t Z σ H → t0 Z σ H) : PSs X st t := ⟨fun pins s σ H D I q => h.run pins s σ H D I (m D σ H q)⟩
theorem ba {a b : Bool} (h : (a && b) = true) : a = true ∧ b = true := Bool.and_eq_true_iff.mp h
/-- one expression, then what its value brings -/
theorem tE.seq {a : Ex} {env : Env} (g : Good X.K CA S L H) (er : EnvR X.K G.pin L H env σ) {β : Type} {k : D → Store → R β} {P : β → Store → List Addr → Hp → Prop} {Q : VK}
    (h : Aft X.K CA W σ L H ((ev G a env S).bind k) P)
    (m : ∀ d S1 L1 H1 v, Step L H L1 H1 → Good X.K CA S1 L1 H1 → EnvR X.K G.pin L1 H1 env σ → RelD X.K L1 H1 d v → Aft X.K CA W σ L1 H1 (k d S1) P → Q v H1) : tE X.K CA G W a σ H Q :=
  ⟨S, L, env, g, er, h.bind.mono fun d S1 L1 H1 ⟨st, g1, h1⟩ v r => m d S1 L1 H1 v st g1 (er.step g st) r h1⟩
theorem tEs.seq {a : List Ex} {env : Env} (g : Good X.K CA S L H) (er : EnvR X.K G.pin L H env σ) {β : Type} {k : List D → Store → R β} {P : β → Store → List Addr → Hp → Prop} {Q : List V → Hp → Prop}
    (h : Aft X.K CA W σ L H ((evs G a env S).bind k) P)
    (m : ∀ d S1 L1 H1 v, Step L H L1 H1 → Good X.K CA S1 L1 H1 → EnvR X.K G.pin L1 H1 env σ → RelDs X.K L1 H1 d v → Aft X.K CA W σ L1 H1 (k d S1) P → Q v H1) : tEs X.K CA G W a σ H Q :=
  ⟨S, L, env, g, er, h.bind.mono fun d S1 L1 H1 ⟨st, g1, h1⟩ v r => m d S1 L1 H1 v st g1 (er.step g st) r h1⟩
theorem Aft.now (g : Good X.K CA S L H) {d : D} {Q : VK} (h : Aft X.K CA W σ L H (.ok d S) fun d _ L' H' => ∀ v, RelD X.K L' H' d v → Q v H') {v : V} (r : RelD X.K L H d v) : Q v H := h L H Step.refl g v r
/-- a new list -/
theorem Aft.laid (g : Good X.K CA S L H) {c : Cell} {o : HO} {Q : VK} (h : Aft X.K CA W σ L H (alloc c S) fun d _ L' H' => ∀ v, RelD X.K L' H' d v → Q v H') {p : Addr} (hp : H p = none)
    (hc : CellR X.K CA (L ++ [p]) (upd H p o) c p) : Q (.ref p) (upd H p o) := by
  obtain ⟨st, g1⟩ := g.alloc hp hc
  refine h _ _ st g1 (.ref p) ?_
  simp only [RelD]
  exact ⟨p, by rw [← g.len, List.getElem?_append_right (Nat.le_refl _)]; simp, rfl⟩
theorem Aft.lst (g : Good X.K CA S L H) {xs : List D} {vs : List V} {Q : VK} (h : Aft X.K CA W σ L H (alloc (.lst xs) S) fun d _ L' H' => ∀ v, RelD X.K L' H' d v → Q v H') (r : RelDs X.K L H xs vs) {p : Addr} (hp : H p = none) :
    Q (.ref p) (upd H p (.lst vs)) := by
  refine Aft.laid g h hp ⟨vs, upd_same, RelDs.mon ⟨fun n a e => ?_, fun a o e _ => ?_⟩ _ _ r⟩
  · rw [List.getElem?_append_left (List.getElem?_eq_some_iff.mp e).1]; exact e
  · rw [upd_ne (ne_of_none e hp)]; exact e
theorem Aft.set (g : Good X.K CA S L H) {n : Nat} {ys : List D} {vs ws : List V} {a : Addr} {d : D} {Q : VK} (h : Aft X.K CA W σ L H (.ok d (S.set n (.lst ys))) fun d _ L' H' => ∀ v, RelD X.K L' H' d v → Q v H')
    (hn : L[n]? = some a) (e : H a = some (.lst vs)) (r : RelDs X.K L H ys ws) {v : V} (rd : ∀ H', RelD X.K L H' d v) : Q v (upd H a (.lst ws)) := by
  have m : Mon L H L (upd H a (.lst ws)) := ⟨fun _ _ h => h, fun b o eb pb => by
    rw [upd_ne (by intro z; subst z; rw [e] at eb; cases eb; exact pb)]; exact eb⟩
  obtain ⟨st, g1⟩ := g.write (c := .lst ys) (o := .lst ws) hn ⟨ws, upd_same, RelDs.mon m _ _ r⟩
  exact h _ _ st g1 v (rd _)
theorem getL_rel (g : Good X.K CA S L H) {n : Nat} {xs : List D} (h : getL S n = some xs) {a : Addr} (hn : L[n]? = some a) : ∃ vs, H a = some (.lst vs) ∧ RelDs X.K L H xs vs := by
  unfold getL at h
  split at h
  · rename_i ys e
    cases h
    exact g.cell n _ a e hn
  · cases h
theorem lstOf_rel (g : Good X.K CA S L H) {d : D} {xs : List D} (h : lstOf S d = some xs) {v : V} (r : RelD X.K L H d v) : ∃ a vs, v = .ref a ∧ SqL X.K H a vs ∧ RelDs X.K L H xs vs := by
  unfold lstOf at h
  split at h
  · simp only [RelD] at r
    obtain ⟨a, hn, rfl⟩ := r
    obtain ⟨vs, e, q⟩ := getL_rel g h hn
    exact ⟨a, vs, rfl, SqL.of e, q⟩
  · cases h
    simp only [RelD] at r
    obtain ⟨a, vs, rfl, e, q⟩ := r
    exact ⟨a, vs, rfl, e.sq, q⟩
  · cases h
theorem seqOf_rel (g : Good X.K CA S L H) {d : D} {xs : List D} (h : seqOf S d = some xs) {v : V} (r : RelD X.K L H d v) : ∃ a vs, v = .ref a ∧ (SqL X.K H a vs ∨ SqT X.K H a vs) ∧ RelDs X.K L H xs vs := by
  unfold seqOf at h
  split at h
  · cases h
    simp only [RelD] at r
    obtain ⟨a, vs, rfl, e, q⟩ := r
    exact ⟨a, vs, rfl, .inr (SqT.of e), q⟩
  · cases h
    simp only [RelD] at r
    obtain ⟨a, vs, rfl, e, q⟩ := r
    exact ⟨a, vs, rfl, .inl e.sq, q⟩
  · cases h
    simp only [RelD] at r
    obtain ⟨a, vs, rfl, e, q⟩ := r
    exact ⟨a, vs, rfl, .inr e.sq, q⟩
  · simp only [RelD] at r
    obtain ⟨a, hn, rfl⟩ := r
    obtain ⟨vs, e, q⟩ := getL_rel g h hn
    exact ⟨a, vs, rfl, .inl (SqL.of e), q⟩
  · cases h
theorem small {n : Nat} (h : n ≤ lim) : n < sizeLine := Nat.lt_of_le_of_lt h (by rw [sizeLine_eq]; decide)
theorem op_fdivA : OpR X (binaryOp .FloorDiv) (rI (fun _ j => j ≠ 0 ∧ j.natAbs.log2 < 9000) fun i j => .int (i.fdiv j)) := opI fun _ _ _ _ _ _ _ hc q => floordiv_int hc.1 q (.inl (PyProof.noPylong_of_log2 hc.2))
theorem mul_ok {i j : Int} (h : Sm i j) : CMulW i j := h
/-- the reading of a two-place operation by the evaluator's -/
def rBin (K : PySem.W.Frag) (CA : Str → Addr) (W : WX) (σ : Sl) (f : D → D → Store → R D) : R2 := fun vx vy H Q => ∃ S L x y, Good K CA S L H ∧ RelD K L H x vx ∧ RelD K L H y vy ∧ Aft K CA W σ L H (f x y S) fun d _ L' H' => ∀ v, RelD K L' H' d v → Q v H'
theorem OpR.by_ {f : Value → Value → Sem Value} {r r0 : R2} (h : OpR X f r0) (m : ∀ x y H Q, r x y H Q → r0 x y H Q) : OpR X f r := fun pins s σ H x y v u Q I rx ry q => h pins s σ H x y v u Q I rx ry (m _ _ _ _ q)
theorem bin_ok {op : Op} {o : Operator} (h : opB op o = true) (σ : Sl) : OpR X (binaryOp o) (rBin X.K CA W σ (binop op)) := by
  cases op <;> cases o <;> try (exact absurd h Bool.false_ne_true)
  · -- add
    refine OpR.by_ (OpR.or op_add (OpR.or op_add_str op_cat)) ?_
    rintro vx vy H Q ⟨S, L, x, y, g, rx, ry, q⟩
    unfold binop at q
    split at q <;> try (first | exact q.elim | contradiction)
    · simp only [RelD] at rx ry; subst rx ry
      exact .inl ⟨_, _, rfl, rfl, Aft.now g q (by simp [RelD])⟩
    · simp only [RelD] at rx ry; subst rx ry
      split at q
      · rename_i hz
        exact .inr (.inl ⟨_, _, rfl, rfl, Nat.le_of_lt (small hz), Aft.now g q (by simp [RelD])⟩)
      · exact q.elim
    · simp only [RelD] at rx ry
      obtain ⟨a, ha, rfl⟩ := rx
      obtain ⟨b, hb, rfl⟩ := ry
      split at q
      · rename_i xs ys hx hy
        split at q
        · rename_i hz
          obtain ⟨vs, e1, r1⟩ := getL_rel g hx ha
          obtain ⟨ws, e2, r2⟩ := getL_rel g hy hb
          refine .inr (.inr ⟨a, b, vs, ws, rfl, rfl, e1, e2, ?_, fun p hp => Aft.lst g q (r1.append r2) hp⟩)
          rw [r1.length, r2.length]; exact Nat.le_of_lt (small hz)
        · exact q.elim
      · exact q.elim
  · -- sub
    refine OpR.by_ op_sub ?_
    rintro vx vy H Q ⟨S, L, x, y, g, rx, ry, q⟩
    unfold binop at q
    split at q <;> try (first | exact q.elim | contradiction)
    simp only [RelD] at rx ry; subst rx ry
    exact ⟨_, _, rfl, rfl, Aft.now g q (by simp [RelD])⟩
  · -- mul
    refine OpR.by_ (OpR.or op_mulW op_rep) ?_
    rintro vx vy H Q ⟨S, L, x, y, g, rx, ry, q⟩
    unfold binop at q
    split at q <;> try (first | exact q.elim | contradiction)
    · simp only [RelD] at rx ry; subst rx ry
      split at q
      · rename_i hz
        exact .inl ⟨_, _, rfl, rfl, mul_ok hz, Aft.now g q (by simp [RelD])⟩
      · exact q.elim
    · simp only [RelD] at rx ry
      obtain ⟨a, ha, rfl⟩ := rx
      subst ry
      split at q
      · rename_i xs hx
        split at q
        · rename_i hz
          obtain ⟨vs, e1, r1⟩ := getL_rel g hx ha
          refine .inr ⟨a, _, vs, rfl, rfl, e1, by omega, by omega, ?_, fun p hp => Aft.lst g q (r1.rep _) hp⟩
          rw [r1.length]; exact Nat.le_of_lt (small hz.2.2)
        · exact q.elim
      · exact q.elim
  · -- fdiv
    refine OpR.by_ op_fdivA ?_
    rintro vx vy H Q ⟨S, L, x, y, g, rx, ry, q⟩
    unfold binop at q
    split at q <;> try (first | exact q.elim | contradiction)
    simp only [RelD] at rx ry; subst rx ry
    split at q
    · rename_i hz
      exact ⟨_, _, rfl, rfl, hz, Aft.now g q (by simp [RelD])⟩
    · exact q.elim
  · -- mod
    refine OpR.by_ op_modN ?_
    rintro vx vy H Q ⟨S, L, x, y, g, rx, ry, q⟩
    unfold binop at q
    split at q <;> try (first | exact q.elim | contradiction)
    simp only [RelD] at rx ry; subst rx ry
    split at q
    · rename_i hz
      exact ⟨_, _, rfl, rfl, hz, Aft.now g q (by simp [RelD])⟩
    · exact q.elim
  · -- pow
    refine OpR.by_ op_pow ?_
    rintro vx vy H Q ⟨S, L, x, y, g, rx, ry, q⟩
    unfold binop at q
    split at q <;> try (first | exact q.elim | contradiction)
    simp only [RelD] at rx ry; subst rx ry
    split at q
    · rename_i hz
      exact ⟨_, _, rfl, rfl, hz, Aft.now g q (by simp [RelD])⟩
    · exact q.elim
end
end Lt
set_option maxHeartbeats 1000000
namespace Lt
open PySem PySem.Spec PyProof.Rows L2
section
variable {X : Cx} {CA : Str → Addr} {G : Cxp} {W : WX} {C : MC} {S S' : Store} {L L1 M2 L' : List Addr} {H H1 H2 H' : Hp} {σ : Sl} {e : Expr}
mutual
theorem toP_rel (g : Good X.K CA S L H) : ∀ (n : Nat) (d : D) (p : PyData) (v : V), toP S n d = some p → RelD X.K L H d v → Dp X.K H v p ∧ p.canLay0 = true ∧ p.depth ≤ n
  | 0, d, p, v, h, r => by simp [toP] at h
  | n + 1, .non, p, v, h, r => by
    simp only [toP, Option.some.injEq] at h; subst h
    simp only [RelD] at r; subst r
    exact ⟨.non, rfl, by simp [PyData.depth]⟩
  | n + 1, .bl b, p, v, h, r => by
    simp only [toP, Option.some.injEq] at h; subst h
    simp only [RelD] at r; subst r
    exact ⟨.bl b, rfl, by simp [PyData.depth]⟩
  | n + 1, .int b, p, v, h, r => by
    simp only [toP, Option.some.injEq] at h; subst h
    simp only [RelD] at r; subst r
    exact ⟨.int b, rfl, by simp [PyData.depth]⟩
  | n + 1, .str b, p, v, h, r => by
    simp only [toP] at h
    split at h
    · rename_i hc
      cases h
      simp only [RelD] at r; subst r
      exact ⟨.str b, hc, by simp [PyData.depth]⟩
    · cases h
  | n + 1, .tup xs, p, v, h, r => by
    simp only [toP, Option.map_eq_some_iff] at h
    obtain ⟨ps, h1, rfl⟩ := h
    simp only [RelD] at r
    obtain ⟨a, vs, rfl, q, r⟩ := r
    obtain ⟨x, y, z⟩ := toPs_rel g n xs ps vs h1 r
    exact ⟨.tup (SqT.of q) x, by simpa [PyData.canLay0] using y, by simpa [PyData.depth] using z⟩
  | n + 1, .frl xs, p, v, h, r => by
    simp only [toP, Option.map_eq_some_iff] at h
    obtain ⟨ps, h1, rfl⟩ := h
    simp only [RelD] at r
    obtain ⟨a, vs, rfl, q, r⟩ := r
    obtain ⟨x, y, z⟩ := toPs_rel g n xs ps vs h1 r
    exact ⟨.lst q.sq x, by simpa [PyData.canLay0] using y, by simpa [PyData.depth] using z⟩
  | n + 1, .frt xs, p, v, h, r => by
    simp only [toP, Option.map_eq_some_iff] at h
    obtain ⟨ps, h1, rfl⟩ := h
    simp only [RelD] at r
    obtain ⟨a, vs, rfl, q, r⟩ := r
    obtain ⟨x, y, z⟩ := toPs_rel g n xs ps vs h1 r
    exact ⟨.tup q.sq x, by simpa [PyData.canLay0] using y, by simpa [PyData.depth] using z⟩
  | n + 1, .ref k, p, v, h, r => by
    simp only [toP] at h
    cases e : getL S k with
    | none => rw [e] at h; cases h
    | some xs =>
      rw [e] at h
      simp only [Option.map_eq_some_iff] at h
      obtain ⟨ps, h1, rfl⟩ := h
      simp only [RelD] at r
      obtain ⟨a, hk, rfl⟩ := r
      obtain ⟨vs, q, r⟩ := getL_rel g e hk
      obtain ⟨x, y, z⟩ := toPs_rel g n xs ps vs h1 r
      exact ⟨.lst (SqL.of q) x, by simpa [PyData.canLay0] using y, by simpa [PyData.depth] using z⟩
theorem toPs_rel (g : Good X.K CA S L H) : ∀ (n : Nat) (ds : List D) (ps : List PyData) (vs : List V), mapO (toP S n) ds = some ps → RelDs X.K L H ds vs → DpAll X.K H vs ps ∧ PyData.canLayAll0 ps = true ∧ PyData.depthAll ps ≤ n
  | n, [], ps, vs, h, r => by
    simp only [mapO, Option.some.injEq] at h; subst h
    simp only [RelDs] at r; subst r
    exact ⟨.nil, by simp [PyData.canLayAll0], by simp [PyData.depthAll]⟩
  | n, d :: ds, ps, vs, h, r => by
    simp only [mapO] at h
    split at h
    · rename_i p ps' h1 h2
      cases h
      simp only [RelDs] at r
      obtain ⟨v, vr, rfl, r1, r2⟩ := r
      obtain ⟨a1, a2, a3⟩ := toP_rel g n d p v h1 r1
      obtain ⟨b1, b2, b3⟩ := toPs_rel g n ds ps' vr h2 r2
      refine ⟨.cons a1 b1, by simp [PyData.canLayAll0, a2, b2], ?_⟩
      simp only [PyData.depthAll]
      omega
    · cases h
end
theorem toP_shaped (g : Good X.K CA S L H) {d : D} {p : PyData} {v : V} (h : toP S 12 d = some p) (r : RelD X.K L H d v) : Dp X.K H v p ∧ SeqAt.shaped p = true := by
  obtain ⟨a, b, c⟩ := toP_rel g 12 d p v h r
  refine ⟨a, ?_⟩
  unfold SeqAt.shaped
  rw [b, decide_eq_true (by omega)]; rfl
theorem Aft.bl (g : Good X.K CA S L H) {b : Bool} {Q : VK} (h : Aft X.K CA W σ L H (.ok (.bl b) S) fun d _ L' H' => ∀ v, RelD X.K L' H' d v → Q v H') : Q (.bl b) H := Aft.now g h (by simp [RelD])
theorem Aft.int (g : Good X.K CA S L H) {b : Int} {Q : VK} (h : Aft X.K CA W σ L H (.ok (.int b) S) fun d _ L' H' => ∀ v, RelD X.K L' H' d v → Q v H') : Q (.int b) H := Aft.now g h (by simp [RelD])
theorem flat_rel {d : D} {v : V} (r : RelD X.K L H d v) : flatV v = flatD d := by
  cases d with
  | non => simp only [RelD] at r; subst r; rfl
  | tup xs => simp only [RelD] at r; obtain ⟨p, vs, rfl, _⟩ := r; rfl
  | frl xs => simp only [RelD] at r; obtain ⟨p, vs, rfl, _⟩ := r; rfl
  | frt xs => simp only [RelD] at r; obtain ⟨p, vs, rfl, _⟩ := r; rfl
  | ref n => simp only [RelD] at r; obtain ⟨p, _, rfl⟩ := r; rfl
  | bl b => simp only [RelD] at r; subst r; rfl
  | int b => simp only [RelD] at r; subst r; rfl
  | str b => simp only [RelD] at r; subst r; rfl
theorem eqF_rel {d e : D} {v w : V} (r : RelD X.K L H d v) (r' : RelD X.K L H e w) (h : flatD d = true) (h' : flatD e = true) : eqV v w = eqF d e := by
  cases d <;> (try cases h) <;> cases e <;> (try cases h') <;> simp only [RelD] at r r' <;> subst r r' <;> rfl
theorem flats_rel : ∀ {ds : List D} {vs : List V}, RelDs X.K L H ds vs → vs.all flatV = ds.all flatD
  | [], vs, r => by simp only [RelDs] at r; subst r; rfl
  | d :: ds, vs, r => by
    simp only [RelDs] at r
    obtain ⟨v, vr, rfl, r1, r2⟩ := r
    simp only [List.all_cons, flat_rel r1, flats_rel r2]
theorem inF_rel {x : D} {v : V} (rx : RelD X.K L H x v) (hx : flatD x = true) : ∀ {ds : List D} {vs : List V}, RelDs X.K L H ds vs → ds.all flatD = true → inV v vs = ds.any fun z => eqF z x
  | [], vs, r, _ => by simp only [RelDs] at r; subst r; rfl
  | d :: ds, vs, r, h => by
    simp only [RelDs] at r
    obtain ⟨w, vr, rfl, r1, r2⟩ := r
    simp only [List.all_cons, Bool.and_eq_true] at h
    have ih := inF_rel rx hx r2 h.2
    unfold inV at ih ⊢
    simp only [List.any_cons, eqF_rel r1 rx h.1 hx, ih]
theorem inO_rel (g : Good X.K CA S L H) {x y : D} {vx vy : V} (rx : RelD X.K L H x vx) (ry : RelD X.K L H y vy) {b : Bool} (h : inO S x y = some b) :
    (∃ p xs, vy = .ref p ∧ (SqL X.K H p xs ∨ SqT X.K H p xs) ∧ flatV vx = true ∧ xs.all flatV = true ∧ inV vx xs = b) ∨
    (∃ d ds, Dp X.K H vx d ∧ Dp X.K H vy (.list ds) ∧ SeqAt.shaped d = true ∧ SeqAt.shaped (.list ds) = true ∧ (ds.any fun z => PyData.eqv z d) = b) := by
  unfold inO at h
  split at h
  · simp only [RelD] at ry
    obtain ⟨p, vs, rfl, e, rs⟩ := ry
    split at h
    · rename_i hf
      cases h
      exact .inl ⟨p, vs, rfl, .inr (SqT.of e), by rw [flat_rel rx]; exact hf.1, by rw [flats_rel rs]; exact hf.2, inF_rel rx hf.1 rs hf.2⟩
    · cases h
  · simp only [RelD] at ry
    obtain ⟨p, vs, rfl, e, rs⟩ := ry
    split at h
    · rename_i hf
      cases h
      exact .inl ⟨p, vs, rfl, .inr e.sq, by rw [flat_rel rx]; exact hf.1, by rw [flats_rel rs]; exact hf.2, inF_rel rx hf.1 rs hf.2⟩
    · cases h
  · split at h
    · rename_i a bs h1 h2
      cases h
      obtain ⟨a1, a2⟩ := toP_shaped g h1 rx
      obtain ⟨b1, b2⟩ := toP_shaped g h2 ry
      exact .inr ⟨a, bs, a1, b1, a2, b2, rfl⟩
    · cases h
  · cases h
theorem cmp_ok (ok : Ok X CA G W C) {op : Cm} {o : CmpOp} (h : cmI op o = true) (σ : Sl) : OpR X (compareOp o) (rBin X.K CA W σ (cmpop op)) := by
  have hu : X.A.units + 64 < cLine := by have := ok.un; omega
  have hu2 : X.A.units + 65 < cLine := by have := ok.un; omega
  cases op <;> cases o <;> try (exact absurd h Bool.false_ne_true)
  · refine OpR.by_ op_lt ?_
    rintro vx vy H Q ⟨S, L, x, y, g, rx, ry, q⟩
    simp only [cmpop] at q
    split at q <;> try (first | exact q.elim | contradiction)
    simp only [RelD] at rx ry; subst rx ry
    exact ⟨_, _, rfl, rfl, Aft.bl g q⟩
  · refine OpR.by_ op_le ?_
    rintro vx vy H Q ⟨S, L, x, y, g, rx, ry, q⟩
    simp only [cmpop] at q
    split at q <;> try (first | exact q.elim | contradiction)
    simp only [RelD] at rx ry; subst rx ry
    exact ⟨_, _, rfl, rfl, Aft.bl g q⟩
  · refine OpR.by_ op_gt ?_
    rintro vx vy H Q ⟨S, L, x, y, g, rx, ry, q⟩
    simp only [cmpop] at q
    split at q <;> try (first | exact q.elim | contradiction)
    simp only [RelD] at rx ry; subst rx ry
    exact ⟨_, _, rfl, rfl, Aft.bl g q⟩
  · refine OpR.by_ op_ge ?_
    rintro vx vy H Q ⟨S, L, x, y, g, rx, ry, q⟩
    simp only [cmpop] at q
    split at q <;> try (first | exact q.elim | contradiction)
    simp only [RelD] at rx ry; subst rx ry
    exact ⟨_, _, rfl, rfl, Aft.bl g q⟩
  · refine OpR.by_ (op_eqD hu) ?_
    rintro vx vy H Q ⟨S, L, x, y, g, rx, ry, q⟩
    simp only [cmpop, eqD] at q
    cases e1 : toP S 12 x with
    | none => simp only [e1] at q; exact q.elim
    | some p1 =>
      cases e2 : toP S 12 y with
      | none => simp only [e1, e2] at q; exact q.elim
      | some p2 =>
        simp only [e1, e2] at q
        obtain ⟨a1, a2⟩ := toP_shaped g e1 rx
        obtain ⟨b1, b2⟩ := toP_shaped g e2 ry
        exact ⟨_, _, a1, b1, a2, b2, Aft.bl g q⟩
  · refine OpR.by_ (op_neD hu) ?_
    rintro vx vy H Q ⟨S, L, x, y, g, rx, ry, q⟩
    simp only [cmpop, eqD] at q
    cases e1 : toP S 12 x with
    | none => simp only [e1] at q; exact q.elim
    | some p1 =>
      cases e2 : toP S 12 y with
      | none => simp only [e1, e2] at q; exact q.elim
      | some p2 =>
        simp only [e1, e2] at q
        obtain ⟨a1, a2⟩ := toP_shaped g e1 rx
        obtain ⟨b1, b2⟩ := toP_shaped g e2 ry
        exact ⟨_, _, a1, b1, a2, b2, Aft.bl g q⟩
  · refine OpR.by_ (OpR.or op_in_seq (op_inD hu2)) ?_
    rintro vx vy H Q ⟨S, L, x, y, g, rx, ry, q⟩
    simp only [cmpop] at q
    split at q
    · rename_i b hb
      rcases inO_rel g rx ry hb with ⟨p, xs, e1, e2, e3, e4, e5⟩ | ⟨d, ds, e1, e2, e3, e4, e5⟩
      · refine .inl ⟨p, xs, e1, e2, e3, e4, ?_⟩
        simp only [Bool.false_eq_true, if_false, e5]
        exact Aft.bl g q
      · refine .inr ⟨d, ds, e1, e2, e3, e4, ?_⟩
        rw [e5]
        exact Aft.bl g q
    · exact q.elim
  · refine OpR.by_ (OpR.or op_notIn_seq (op_notInD hu2)) ?_
    rintro vx vy H Q ⟨S, L, x, y, g, rx, ry, q⟩
    simp only [cmpop] at q
    split at q
    · rename_i b hb
      rcases inO_rel g rx ry hb with ⟨p, xs, e1, e2, e3, e4, e5⟩ | ⟨d, ds, e1, e2, e3, e4, e5⟩
      · refine .inl ⟨p, xs, e1, e2, e3, e4, ?_⟩
        simp only [if_true, e5]
        exact Aft.bl g q
      · refine .inr ⟨d, ds, e1, e2, e3, e4, ?_⟩
        rw [e5]
        exact Aft.bl g q
    · exact q.elim
theorem RelDs.atI {ds : List D} {vs : List V} {i : Int} {d : D} (r : RelDs X.K L H ds vs) (h : L2.atI ds i = some d) : ∃ v, L2.atI vs i = some v ∧ RelD X.K L H d v := by
  unfold L2.atI at h ⊢
  rw [r.length]
  cases e : ixN ds.length i with
  | none => rw [e] at h; cases h
  | some j =>
    rw [e] at h
    exact r.get h
theorem ix_ok (σ : Sl) : IxR X (rBin X.K CA W σ item) := by
  have base : IxR X (fun x y H Q => rIxL X.K x y H Q ∨ rIxT X.K x y H Q) := ix_list.or ix_tup
  intro value slice pins s σ' H x y v u Q I rx ry h hs
  refine base value slice pins s σ' H x y v u Q I rx ry ?_ hs
  obtain ⟨S, L, dx, dy, g, r1, r2, q⟩ := h
  unfold item at q
  split at q
  · simp only [RelD] at r2; subst r2
    split at q
    · rename_i xs hx
      split at q
      · rename_i d hd
        obtain ⟨a, vs, rfl, sq, r⟩ := seqOf_rel g hx r1
        obtain ⟨w, hw, rw⟩ := r.atI hd
        rcases sq with sq | sq
        · exact .inl ⟨a, vs, _, w, rfl, rfl, sq, hw, Aft.now g q rw⟩
        · exact .inr ⟨a, vs, _, w, rfl, rfl, sq, hw, Aft.now g q rw⟩
      · exact q.elim
    · exact q.elim
  · exact q.elim
theorem cutD_rel {ds : List D} {vs : List V} (r : RelDs X.K L H ds vs) (lo hi : Option Int) : RelDs X.K L H (cutD ds lo hi) (cutV vs lo hi) := by
  unfold cutD cutV
  rw [r.length]
  exact (r.drop _).take _
theorem cutD_full {ds : List D} {lo hi : Option Int} (h1 : HT.sIx ds.length 0 lo = 0) (h2 : HT.sIx ds.length ds.length hi = ds.length) : cutD ds lo hi = ds := by
  unfold cutD
  rw [h1, h2]; simp
theorem sl_ok {lo hi : Option D} (σ : Sl) : SlR X (fun vx l h H Q => ∃ S L x, Good X.K CA S L H ∧ RelD X.K L H x vx ∧ intO lo = some l ∧ intO hi = some h ∧ Aft X.K CA W σ L H (slice x lo hi S) fun d _ L' H' => ∀ v, RelD X.K L' H' d v → Q v H') := by
  intro pins s σ' H x v vl vu l h sl Q I rx hs pl pu q
  refine (sl_list.or sl_tupA) pins s σ' H x v vl vu l h sl Q I rx hs pl pu ?_
  obtain ⟨S, L, dx, g, r, e1, e2, q⟩ := q
  unfold slice at q
  split at q
  · rename_i xs
    rw [e1, e2] at q
    simp only at q
    simp only [RelD] at r
    obtain ⟨p, vs, rfl, e, r⟩ := r
    refine .inr ⟨p, vs, rfl, SqT.of e, fun ⟨z1, z2⟩ => ?_, fun _ p' hp => ?_⟩
    · rw [r.length] at z1 z2
      rw [cutD_full z1 z2] at q
      refine q _ _ Step.refl g (.ref p) ?_
      simp only [RelD]
      exact ⟨p, vs, rfl, e, r⟩
    · obtain ⟨st2, g2⟩ := g.side (o := .tup (cutV vs l h)) hp
      refine q _ _ st2 g2 (.ref p') ?_
      simp only [RelD]
      exact ⟨p', _, rfl, upd_same, (cutD_rel r l h).step g st2⟩
  · rw [e1, e2] at q
    split at q
    · rename_i xs l' h' hx e1' e2'
      cases e1'; cases e2'
      obtain ⟨a, vs, rfl, sq, r⟩ := lstOf_rel g hx r
      exact .inl ⟨a, vs, rfl, sq, fun p hp => Aft.lst g q (cutD_rel r l h) hp⟩
    · exact q.elim
def rBi (K : PySem.W.Frag) (CA : Str → Addr) (W : WX) (σ : Sl) (b : Bi) : List V → Hp → VK → Prop := fun vs H Q => ∃ S L xs, Good K CA S L H ∧ RelDs K L H xs vs ∧ Aft K CA W σ L H (biop b xs S) fun d _ L' H' => ∀ v, RelD K L' H' d v → Q v H'
theorem CallR.by_ {f : Value} {r r0 : List V → Hp → VK → Prop} (h : CallR X f r0) (m : ∀ x H Q, r x H Q → r0 x H Q) : CallR X f r := fun pins s σ H x u Q I rx q => h pins s σ H x u Q I rx (m _ _ _ q)
theorem one_rel {d : D} {vs : List V} (r : RelDs X.K L H [d] vs) : ∃ v, vs = [v] ∧ RelD X.K L H d v := by
  simp only [RelDs] at r
  obtain ⟨v, _, rfl, h, rfl⟩ := r
  exact ⟨v, rfl, h⟩
theorem two_rel {d d' : D} {vs : List V} (r : RelDs X.K L H [d, d'] vs) : ∃ v v', vs = [v, v'] ∧ RelD X.K L H d v ∧ RelD X.K L H d' v' := by
  simp only [RelDs] at r
  obtain ⟨v, _, rfl, h, v', _, rfl, h', rfl⟩ := r
  exact ⟨v, v', rfl, h, h'⟩
theorem intsOf_rel : ∀ {xs : List D} {is : List Int} {vs : List V}, intsOf xs = some is → RelDs X.K L H xs vs → vs = is.map V.int
  | [], is, vs, h, r => by
    simp only [intsOf, Option.some.injEq] at h; subst h
    simp only [RelDs] at r; subst r; rfl
  | x :: xs, is, vs, h, r => by
    cases x <;> simp only [intsOf] at h <;> try (cases h; done)
    split at h
    · rename_i is' h'
      cases h
      simp only [RelDs, RelD] at r
      obtain ⟨v, vr, rfl, rfl, r⟩ := r
      rw [intsOf_rel h' r]; rfl
    · cases h
def biV : Bi → Value
  | .len => .builtin "len"
  | .abs => .builtin "abs"
  | .int => .type "int"
  | .str => .type "str"
  | .list => .type "list"
  | .tuple => .type "tuple"
  | .sorted => .builtin "sorted"
  | .max => .builtin "max"
  | .min => .builtin "min"
theorem lenO_rel (g : Good X.K CA S L H) {d : D} {v : V} {n : Nat} (h : lenO S d = some n) (r : RelD X.K L H d v) : (∃ ys, seqOf S d = some ys ∧ ys.length = n) ∨ ∃ a kvs, v = .ref a ∧ H a = some (.dK kvs) ∧ kvs.length = n := by
  unfold lenO at h
  split at h
  · rename_i k
    split at h
    · rename_i kvs e
      cases h
      simp only [RelD] at r
      obtain ⟨a, hn, rfl⟩ := r
      obtain ⟨vs, e1, e2, e3⟩ := g.cell k _ a e hn
      exact .inr ⟨a, vs, rfl, e1, by simpa using congrArg List.length e2⟩
    · rename_i xs e
      cases h
      exact .inl ⟨xs, by simp [seqOf, getL, e], rfl⟩
    · cases h
  · simp only [Option.map_eq_some_iff] at h
    exact .inl h
theorem minL_ok : ∀ (l : List Int) (a m : Int), m ∈ a :: l → (∀ y ∈ a :: l, m ≤ y) → minL a l = m
  | [], a, m, h, _ => by simp at h; rw [h]; rfl
  | b :: r, a, m, h, hm => by
    unfold minL
    apply minL_ok r
    · simp only [List.mem_cons] at h ⊢
      have h1 := hm a (by simp)
      have h2 := hm b (by simp)
      rcases h with h | h | h
      · left; split <;> omega
      · left; split <;> omega
      · exact .inr h
    · intro y hy
      rcases List.mem_cons.mp hy with e | e
      · subst e
        have h1 := hm a (by simp)
        have h2 := hm b (by simp)
        split <;> assumption
      · exact hm y (by simp [e])
theorem maxL_ok : ∀ (l : List Int) (a m : Int), m ∈ a :: l → (∀ y ∈ a :: l, y ≤ m) → maxL a l = m
  | [], a, m, h, _ => by simp at h; rw [h]; rfl
  | b :: r, a, m, h, hm => by
    unfold maxL
    apply maxL_ok r
    · simp only [List.mem_cons] at h ⊢
      have h1 := hm a (by simp)
      have h2 := hm b (by simp)
      rcases h with h | h | h
      · left; split <;> omega
      · left; split <;> omega
      · exact .inr h
    · intro y hy
      rcases List.mem_cons.mp hy with e | e
      · subst e
        have h1 := hm a (by simp)
        have h2 := hm b (by simp)
        split <;> assumption
      · exact hm y (by simp [e])
theorem bi_ok (ok : Ok X CA G W C) (b : Bi) (hc : biOk C b = true) (σ : Sl) : CallR X (biV b) (rBi X.K CA W σ b) := by
  cases b
  · -- len
    refine CallR.by_ (CallR.or call_len call_lenD) ?_
    rintro vs H Q ⟨S, L, xs, g, r, q⟩
    unfold biop at q
    split at q <;> rename_i hb <;> try (first | exact q.elim | (cases hb; done))
    · obtain ⟨v, rfl, r1⟩ := one_rel r
      split at q
      · split at q
        · rename_i hz
          simp only [RelD] at r1; subst r1
          exact .inl ⟨_, _, rfl, ⟨Nat.le_of_lt (small hz), rfl⟩, Aft.int g q⟩
        · exact q.elim
      · split at q
        · rename_i hl
          rcases lenO_rel g hl r1 with ⟨ys, hy, e⟩ | ⟨a, kvs, e1, e2, e3⟩
          · obtain ⟨a, ws, rfl, sq, r⟩ := seqOf_rel g hy r1
            refine .inl ⟨_, ys.length, rfl, ?_, by rw [e]; exact Aft.int g q⟩
            rcases sq with sq | sq
            · exact .inl ⟨ws, sq, r.length.symm⟩
            · exact .inr ⟨ws, sq, r.length.symm⟩
          · subst e1
            refine .inr ⟨a, kvs, rfl, e2, ?_⟩
            rw [e3]
            exact Aft.int g q
        · exact q.elim
  · -- abs
    refine CallR.by_ call_abs ?_
    rintro vs H Q ⟨S, L, xs, g, r, q⟩
    unfold biop at q
    split at q <;> rename_i hb <;> try (first | exact q.elim | (cases hb; done))
    obtain ⟨v, rfl, r1⟩ := one_rel r
    simp only [RelD] at r1; subst r1
    exact ⟨_, rfl, Aft.int g q⟩
  · -- int
    refine CallR.by_ call_int1 ?_
    rintro vs H Q ⟨S, L, xs, g, r, q⟩
    unfold biop at q
    split at q <;> rename_i hb <;> try (first | exact q.elim | (cases hb; done))
    · obtain ⟨v, rfl, r1⟩ := one_rel r
      simp only [RelD] at r1; subst r1
      exact .inl ⟨_, rfl, Aft.int g q⟩
    · obtain ⟨v, rfl, r1⟩ := one_rel r
      simp only [RelD] at r1; subst r1
      exact .inr ⟨_, rfl, Aft.int g q⟩
  · -- str
    refine CallR.by_ call_str_int ?_
    rintro vs H Q ⟨S, L, xs, g, r, q⟩
    unfold biop at q
    split at q <;> rename_i hb <;> (first | exact q.elim | (cases hb; done))
  · -- list
    refine CallR.by_ call_list_of ?_
    rintro vs H Q ⟨S, L, xs, g, r, q⟩
    unfold biop at q
    split at q <;> rename_i hb <;> try (first | exact q.elim | (cases hb; done))
    obtain ⟨v, rfl, r1⟩ := one_rel r
    split at q
    · rename_i ys hy
      obtain ⟨a, ws, rfl, sq, r⟩ := seqOf_rel g hy r1
      exact ⟨a, ws, rfl, sq, fun p hp => Aft.lst g q r hp⟩
    · exact q.elim
  · -- tuple
    refine CallR.by_ call_tuple_of ?_
    rintro vs H Q ⟨S, L, xs, g, r, q⟩
    unfold biop at q
    split at q <;> rename_i hb <;> try (first | exact q.elim | (cases hb; done))
    obtain ⟨v, rfl, r1⟩ := one_rel r
    split at q
    · simp only [RelD] at r1
      obtain ⟨a, ws, rfl, sq, r⟩ := r1
      refine ⟨a, ws, rfl, .inr ⟨SqT.of sq, Aft.now g q ?_⟩⟩
      simp only [RelD]
      exact ⟨a, ws, rfl, sq, r⟩
    · split at q
      · rename_i ys hy
        obtain ⟨a, ws, rfl, sq, r⟩ := lstOf_rel g hy r1
        refine ⟨a, ws, rfl, .inl ⟨sq, fun p hp => ?_⟩⟩
        obtain ⟨st, g1⟩ := g.side (o := .tup ws) hp
        refine q _ _ st g1 (.ref p) ?_
        simp only [RelD]
        exact ⟨p, ws, rfl, upd_same, RelDs.step g st r⟩
      · exact q.elim
  · -- sorted
    refine CallR.by_ cr_sorted ?_
    rintro vs H Q ⟨S, L, xs, g, r, q⟩
    unfold biop at q
    split at q <;> rename_i hb <;> try (first | exact q.elim | (cases hb; done))
    obtain ⟨v, rfl, r1⟩ := one_rel r
    split at q
    · rename_i ys hy
      split at q
      · rename_i is hi
        split at q
        · rename_i h64
          obtain ⟨a, ws, rfl, sq, r⟩ := lstOf_rel g hy r1
          have ew := intsOf_rel hi r
          subst ew
          refine ⟨a, is, rfl, sq, h64, fun ns' p hp hs hn => ?_⟩
          have e : ns' = is.mergeSort (fun a b => decide (a ≤ b)) := by
            refine List.Perm.eq_of_pairwise (le := fun a b : Int => a ≤ b) (fun a b _ _ h1 h2 => Int.le_antisymm h1 h2) hs ?_ (hp.trans (List.mergeSort_perm is _).symm)
            have := List.pairwise_mergeSort (le := fun a b : Int => decide (a ≤ b)) (fun a b c h1 h2 => by simp at h1 h2 ⊢; omega) (fun a b => by simp; omega) is
            exact this.imp fun h => by simpa using h
          subst e
          exact Aft.lst g q RelDs.ints hn
        · exact q.elim
      · exact q.elim
    · exact q.elim
  · -- max
    refine CallR.by_ (CallR.or (call_max2 (ok.calm hc)) (cr_max (ok.calm hc))) ?_
    rintro vs H Q ⟨S, L, xs, g, r, q⟩
    unfold biop at q
    split at q <;> rename_i hb <;> try (first | exact q.elim | (cases hb; done))
    · obtain ⟨v, v', rfl, r1, r2⟩ := two_rel r
      simp only [RelD] at r1 r2; subst r1 r2
      exact .inl ⟨_, _, rfl, Aft.int g q⟩
    · obtain ⟨v, rfl, r1⟩ := one_rel r
      split at q
      · rename_i ys hy
        split at q
        · rename_i a is hi
          obtain ⟨b, ws, rfl, sq, r⟩ := lstOf_rel g hy r1
          have ew := intsOf_rel hi r
          subst ew
          refine .inr ⟨b, a :: is, rfl, sq, by simp, fun m hm hmin => ?_⟩
          rw [← maxL_ok is a m hm hmin]
          exact Aft.int g q
        · exact q.elim
      · exact q.elim
  · -- min
    refine CallR.by_ (CallR.or (call_min2 (ok.calm hc)) (cr_min (ok.calm hc))) ?_
    rintro vs H Q ⟨S, L, xs, g, r, q⟩
    unfold biop at q
    split at q <;> rename_i hb <;> try (first | exact q.elim | (cases hb; done))
    · obtain ⟨v, v', rfl, r1, r2⟩ := two_rel r
      simp only [RelD] at r1 r2; subst r1 r2
      exact .inl ⟨_, _, rfl, Aft.int g q⟩
    · obtain ⟨v, rfl, r1⟩ := one_rel r
      split at q
      · rename_i ys hy
        split at q
        · rename_i a is hi
          obtain ⟨b, ws, rfl, sq, r⟩ := lstOf_rel g hy r1
          have ew := intsOf_rel hi r
          subst ew
          refine .inr ⟨b, a :: is, rfl, sq, by simp, fun m hm hmin => ?_⟩
          rw [← minL_ok is a m hm hmin]
          exact Aft.int g q
        · exact q.elim
      · exact q.elim
end
end Lt
set_option maxHeartbeats 1000000
namespace Lt
open PySem PySem.Spec PyProof.Rows L2
section
variable {X : Cx} {CA : Str → Addr} {G : Cxp} {W : WX} {C : MC} {S S' : Store} {L L1 M2 L' : List Addr} {H H1 H2 H' : Hp} {σ : Sl} {e : Expr}
theorem vis_of {sc : Scope} {x : Str} (h : visB sc x = true) : Vis sc x := by
  unfold visB at h
  split at h
  · exact .inl (by assumption)
  · exact .inr (.inl (by assumption))
  · exact .inr (.inr (by assumption))
  · cases h
theorem loc_of {sc : Scope} {x : Str} (h : locB sc x = true) : sc.names.lookup x = some .local := by
  unfold locB at h
  split at h
  · assumption
  · cases h
theorem cel_of {sc : Scope} {x : Str} (h : celB sc x = true) : sc.names.lookup x = some .cell := by
  unfold celB at h
  split at h
  · assumption
  · cases h
theorem gl_of (ok : Ok X CA G W C) {x : Str} (h : gloB C.sc x = true) : Gl X x := by
  unfold gloB at h
  show X.env.scope.names.lookup x = _
  rw [ok.sc]
  split at h
  · assumption
  · cases h
theorem slot_of {i : Nat} {x : Str} (h : slotB C i x = true) : C.N[i]? = some x := by
  unfold slotB at h
  split at h
  · rename_i y e
    rw [e, of_decide_eq_true h]
  · cases h
theorem nm_of {x : Str} (h : nmOk x = true) : (x == ("__debug__" : Str)) = false ∧ (x == ("__classdict__" : Str)) = false := by
  unfold nmOk at h
  obtain ⟨a, b⟩ := ba h
  simpa using And.intro a b
theorem star_of (h : notSt e = true) (es : List Expr) (env : PySem.Env) : starEach (e :: es) env = (false, eval e env) :: starEach es env := by
  cases e <;> first | rfl | (exact absurd h Bool.false_ne_true)
theorem mEs_cons {x : Ex} {xs : List Ex} {es : List Expr} (h : mEs (x :: xs) C es = true) : ∃ e r, es = e :: r ∧ notSt e = true ∧ mE x C e = true ∧ mEs xs C r = true := by
  cases es with
  | nil => simp only [mEs] at h; cases h
  | cons e r =>
    simp only [mEs, Bool.and_eq_true] at h
    exact ⟨e, r, rfl, h.1.1, h.1.2, h.2⟩
theorem mEs_nil {es : List Expr} (h : mEs [] C es = true) : es = [] := by
  cases es with
  | nil => rfl
  | cons e r => simp only [mEs] at h; cases h
theorem stars_ok : ∀ {xs : List Ex} {es : List Expr}, mEs xs C es = true → ∀ (pos : Pos) (env : PySem.Env), (backTo pos (starEach es env)).any (·.1) = false
  | [], es, h, _, _ => by rw [mEs_nil h]; rfl
  | x :: xs, es, h, pos, env => by
    obtain ⟨e, r, rfl, h1, _, h2⟩ := mEs_cons h
    rw [star_of h1]
    have ih := stars_ok h2 pos env
    simpa [backTo] using ih
theorem s_var (ok : Ok X CA G W C) {i : Nat} {x : Str} {p : Pos} (h1 : slotB C i x = true) (h2 : visB C.sc x = true) (h3 : nmOk x = true) : PE X (.Name x p) (tE X.K CA G W (.var i)) := by
  obtain ⟨d1, d2⟩ := nm_of h3
  refine PE.by_ (pe_var (i := i) (by rw [ok.nm]; exact slot_of h1) (by rw [ok.sc]; exact vis_of h2) d1 d2) ?_
  rintro σ H Q ⟨S, L, env, g, er, q⟩
  simp only [ev] at q
  split at q
  · rename_i d hd
    obtain ⟨v, e1, r⟩ := er.has i d hd
    exact ⟨v, e1, Aft.now g q r⟩
  · exact q.elim
theorem s_glo (ok : Ok X CA G W C) {x : Str} {p : Pos} (h1 : gloB C.sc x = true) (h3 : nmOk x = true) : PE X (.Name x p) (tE X.K CA G W (.glo x)) := by
  obtain ⟨d1, d2⟩ := nm_of h3
  cases e : G.glo x with
  | none =>
    refine ⟨fun pins s σ H Q I q => ?_⟩
    obtain ⟨S, L, env, g, er, q⟩ := q
    simp only [ev, e] at q
    exact q.elim
  | some d =>
    obtain ⟨v, u, hm, rv, r⟩ := ok.glo x d e
    refine PE.by_ (pe_glob (gl_of ok h1) hm rv d1) ?_
    rintro σ H Q ⟨S, L, env, g, er, q⟩
    simp only [ev, e] at q
    exact Aft.now g q (r L H)
theorem s_bin {op : Op} {o : Operator} {a b : Ex} {l r : Expr} {p : Pos} (h : opB op o = true) (ha : PE X l (tE X.K CA G W a)) (hb : PE X r (tE X.K CA G W b)) : PE X (.BinOp l o r p) (tE X.K CA G W (.bin op a b)) := by
  refine ⟨fun pins s σ H Q I q => (pe_op (bin_ok (CA := CA) (W := W) h σ) ha hb).run pins s σ H Q I ?_⟩
  obtain ⟨S, L, env, g, er, q⟩ := q
  simp only [ev] at q
  exact tE.seq g er q fun d1 S1 L1 H1 v1 st1 g1 er1 r1 q1 => tE.seq g1 er1 q1 fun d2 S2 L2 H2 v2 st2 g2 er2 r2 q2 => ⟨S2, L2, d1, d2, g2, r1.step g1 st2, r2, q2⟩
theorem cmI_of {op : Cm} {o : CmpOp} (h : cmB op o = true) : cmI op o = true := by
  cases op <;> cases o <;> first | rfl | (cases h; done)
theorem nomark2 {op : CmpOp} (b : Expr) (h : notSet b = true) : behindInMarks op b = false := by
  cases b <;> first | rfl | (cases h; done)
theorem s_cmp (ok : Ok X CA G W C) {op : Cm} {o : CmpOp} {a b : Ex} {l r : Expr} {p : Pos} (h : cmI op o = true) (hs : notSet r = true) (ha : PE X l (tE X.K CA G W a)) (hb : PE X r (tE X.K CA G W b)) :
    PE X (.Compare l [o] [r] p) (tE X.K CA G W (.cmp op a b)) ∧ PT X (.Compare l [o] [r] p) (tT X.K CA G W (.cmp op a b)) := by
  have hm : behindInMarks o r = false := nomark2 r hs
  refine ⟨⟨fun pins s σ H Q I q => (pe_cmpR (cmp_ok (W := W) ok h σ) ha hb hm).run pins s σ H Q I ?_⟩, ⟨fun pins s σ H Q I q => (pt_cmpR (cmp_ok (W := W) ok h σ) ha hb hm).run pins s σ H Q I ?_⟩⟩
  · obtain ⟨S, L, env, g, er, q⟩ := q
    simp only [ev] at q
    exact tE.seq g er q fun d1 S1 L1 H1 v1 st1 g1 er1 r1 q1 => tE.seq g1 er1 q1 fun d2 S2 L2 H2 v2 st2 g2 er2 r2 q2 => ⟨S2, L2, d1, d2, g2, r1.step g1 st2, r2, q2⟩
  · obtain ⟨S, L, env, g, er, q⟩ := q
    simp only [ev] at q
    refine tE.seq g er q fun d1 S1 L1 H1 v1 st1 g1 er1 r1 q1 => tE.seq g1 er1 q1 fun d2 S2 L2 H2 v2 st2 g2 er2 r2 q2 => ⟨S2, L2, d1, d2, g2, r1.step g1 st2, r2, q2.mono fun d S3 L3 H3 z v r => ?_⟩
    obtain ⟨b, rfl, z⟩ := z
    simp only [RelD] at r
    exact ⟨b, r, z⟩
/-- an expression whose value is a bool, as a test -/
theorem s_val {x : Ex} (h : PE X e (tE X.K CA G W x)) (he : ∀ whole, isTrue e X.env whole = (do let v ← whole; standAt e.pos; PySem.holding [v] (truthy v))) : PT X e (tT X.K CA G W x) := by
  refine PT.by_ (pt_val h he) ?_
  rintro σ H Q ⟨S, L, env, g, er, q⟩
  refine ⟨S, L, env, g, er, q.mono fun d S3 L3 H3 z v r => ?_⟩
  obtain ⟨b, rfl, z⟩ := z
  simp only [RelD] at r
  exact ⟨b, r, z⟩
theorem s_neg {a : Ex} {l : Expr} {p : Pos} (ha : PE X l (tE X.K CA G W a)) : PE X (.UnaryOp .USub l p) (tE X.K CA G W (.neg a)) := by
  refine PE.by_ (pe_un un_neg ha) ?_
  rintro σ H Q ⟨S, L, env, g, er, q⟩
  simp only [ev] at q
  refine tE.seq g er q fun d S1 L1 H1 v st g1 er1 r q1 => ?_
  split at q1
  · simp only [RelD] at r; subst r
    exact ⟨_, rfl, Aft.int g1 q1⟩
  · exact q1.elim
theorem s_not {a : Ex} {l : Expr} {p : Pos} (ha : PE X l (tE X.K CA G W a)) : PE X (.UnaryOp .Not l p) (tE X.K CA G W (.not a)) := by
  refine PE.by_ (pe_not ha) ?_
  rintro σ H Q ⟨S, L, env, g, er, q⟩
  simp only [ev] at q
  refine tE.seq g er q fun d S1 L1 H1 v st g1 er1 r q1 => ?_
  split at q1
  · simp only [RelD] at r; subst r
    exact ⟨_, rfl, Aft.bl g1 q1⟩
  · exact q1.elim
theorem t_not {a : Ex} {l : Expr} {p : Pos} (ha : PT X l (tT X.K CA G W a)) : PT X (.UnaryOp .Not l p) (tT X.K CA G W (.not a)) := by
  refine PT.by_ (pt_not ha) ?_
  rintro σ H Q ⟨S, L, env, g, er, q⟩
  simp only [ev] at q
  refine ⟨S, L, env, g, er, q.bind.mono fun d S1 L1 H1 ⟨st, g1, q1⟩ => ?_⟩
  split at q1
  · obtain ⟨b, e, z⟩ := q1 L1 H1 Step.refl g1
    cases e
    exact ⟨_, rfl, z⟩
  · exact q1.elim
theorem s_and {a b : Ex} {l r : Expr} {rest : List Expr} {p : Pos} (ha : PE X l (tE X.K CA G W a)) (hb : PE X (.BoolOp .And (r :: rest) p) (tE X.K CA G W b)) : PE X (.BoolOp .And (l :: r :: rest) p) (tE X.K CA G W (.and a b)) := by
  refine PE.by_ (pe_and ha hb) ?_
  rintro σ H Q ⟨S, L, env, g, er, q⟩
  simp only [ev] at q
  refine tE.seq g er q fun d S1 L1 H1 v st g1 er1 r q1 => ?_
  split at q1
  · simp only [RelD] at r; subst r
    exact ⟨true, rfl, iteT (⟨S1, L1, env, g1, er1, q1⟩)⟩
  · simp only [RelD] at r; subst r
    exact ⟨false, rfl, iteF (Aft.bl g1 q1)⟩
  · exact q1.elim
theorem s_or {a b : Ex} {l r : Expr} {rest : List Expr} {p : Pos} (ha : PE X l (tE X.K CA G W a)) (hb : PE X (.BoolOp .Or (r :: rest) p) (tE X.K CA G W b)) : PE X (.BoolOp .Or (l :: r :: rest) p) (tE X.K CA G W (.or a b)) := by
  refine PE.by_ (pe_or ha hb) ?_
  rintro σ H Q ⟨S, L, env, g, er, q⟩
  simp only [ev] at q
  refine tE.seq g er q fun d S1 L1 H1 v st g1 er1 r q1 => ?_
  split at q1
  · simp only [RelD] at r; subst r
    exact ⟨true, rfl, iteT (Aft.bl g1 q1)⟩
  · simp only [RelD] at r; subst r
    exact ⟨false, rfl, iteF (⟨S1, L1, env, g1, er1, q1⟩)⟩
  · exact q1.elim
theorem t_and {a b : Ex} {l r : Expr} {rest : List Expr} {p : Pos} (ha : PT X l (tT X.K CA G W a)) (hb : PW X (.BoolOp .And (r :: rest) p) (tT X.K CA G W b)) : PW X (.BoolOp .And (l :: r :: rest) p) (tT X.K CA G W (.and a b)) := by
  refine ⟨fun wh pins s σ H Q I q => (pw_and ha hb).run wh pins s σ H Q I ?_⟩
  obtain ⟨S, L, env, g, er, q⟩ := q
  simp only [ev] at q
  refine ⟨S, L, env, g, er, q.bind.mono fun d S1 L1 H1 ⟨st, g1, q1⟩ => ?_⟩
  split at q1
  · exact ⟨true, rfl, iteT (⟨S1, L1, env, g1, er.step g st, q1⟩)⟩
  · obtain ⟨b, e, z⟩ := q1 L1 H1 Step.refl g1
    cases e
    exact ⟨false, rfl, iteF (z)⟩
  · exact q1.elim
theorem t_or {a b : Ex} {l r : Expr} {rest : List Expr} {p : Pos} (ha : PT X l (tT X.K CA G W a)) (hb : PW X (.BoolOp .Or (r :: rest) p) (tT X.K CA G W b)) : PW X (.BoolOp .Or (l :: r :: rest) p) (tT X.K CA G W (.or a b)) := by
  refine ⟨fun wh pins s σ H Q I q => (pw_or ha hb).run wh pins s σ H Q I ?_⟩
  obtain ⟨S, L, env, g, er, q⟩ := q
  simp only [ev] at q
  refine ⟨S, L, env, g, er, q.bind.mono fun d S1 L1 H1 ⟨st, g1, q1⟩ => ?_⟩
  split at q1
  · obtain ⟨b, e, z⟩ := q1 L1 H1 Step.refl g1
    cases e
    exact ⟨true, rfl, iteT (z)⟩
  · exact ⟨false, rfl, iteF (⟨S1, L1, env, g1, er.step g st, q1⟩)⟩
  · exact q1.elim
theorem isN_rel {d : D} {v : V} (r : RelD X.K L H d v) : decide (v = V.non) = isN d := by
  cases d with
  | non => simp only [RelD] at r; subst r; rfl
  | tup xs => simp only [RelD] at r; obtain ⟨p, vs, rfl, _⟩ := r; rfl
  | frl xs => simp only [RelD] at r; obtain ⟨p, vs, rfl, _⟩ := r; rfl
  | frt xs => simp only [RelD] at r; obtain ⟨p, vs, rfl, _⟩ := r; rfl
  | ref n => simp only [RelD] at r; obtain ⟨p, _, rfl⟩ := r; rfl
  | bl b => simp only [RelD] at r; subst r; rfl
  | int b => simp only [RelD] at r; subst r; rfl
  | str b => simp only [RelD] at r; subst r; rfl
theorem s_isN {a : Ex} {l : Expr} {k : Nat} {p p2 : Pos} (ha : PE X l (tE X.K CA G W a)) :
    PE X (.Compare l [.Is] [.Constant .none k p2] p) (tE X.K CA G W (.isN a)) ∧ PT X (.Compare l [.Is] [.Constant .none k p2] p) (tT X.K CA G W (.isN a)) := by
  refine ⟨PE.by_ (pe_cmpR op_isN ha pe_non rfl) ?_, PT.by_ (pt_cmpR op_isN ha pe_non rfl) ?_⟩
  · rintro σ H Q ⟨S, L, env, g, er, q⟩
    simp only [ev] at q
    refine tE.seq g er q fun d S1 L1 H1 v st g1 er1 r q1 => ⟨rfl, ?_⟩
    rw [isN_rel r]; exact Aft.bl g1 q1
  · rintro σ H Q ⟨S, L, env, g, er, q⟩
    simp only [ev] at q
    refine tE.seq g er q fun d S1 L1 H1 v st g1 er1 r q1 => ⟨rfl, ?_⟩
    rw [isN_rel r]
    obtain ⟨b, e, z⟩ := q1 L1 H1 Step.refl g1
    cases e
    exact ⟨_, rfl, z⟩
theorem s_ntN {a : Ex} {l : Expr} {k : Nat} {p p2 : Pos} (ha : PE X l (tE X.K CA G W a)) :
    PE X (.Compare l [.IsNot] [.Constant .none k p2] p) (tE X.K CA G W (.ntN a)) ∧ PT X (.Compare l [.IsNot] [.Constant .none k p2] p) (tT X.K CA G W (.ntN a)) := by
  refine ⟨PE.by_ (pe_cmpR op_notN ha pe_non rfl) ?_, PT.by_ (pt_cmpR op_notN ha pe_non rfl) ?_⟩
  · rintro σ H Q ⟨S, L, env, g, er, q⟩
    simp only [ev] at q
    refine tE.seq g er q fun d S1 L1 H1 v st g1 er1 r q1 => ⟨rfl, ?_⟩
    rw [isN_rel r]; exact Aft.bl g1 q1
  · rintro σ H Q ⟨S, L, env, g, er, q⟩
    simp only [ev] at q
    refine tE.seq g er q fun d S1 L1 H1 v st g1 er1 r q1 => ⟨rfl, ?_⟩
    rw [isN_rel r]
    obtain ⟨b, e, z⟩ := q1 L1 H1 Step.refl g1
    cases e
    exact ⟨_, rfl, z⟩
theorem s_ife {c a b : Ex} {t l r : Expr} {p : Pos} (hc : PT X t (tT X.K CA G W c)) (ha : PE X l (tE X.K CA G W a)) (hb : PE X r (tE X.K CA G W b)) : PE X (.IfExp t l r p) (tE X.K CA G W (.ife c a b)) := by
  refine PE.by_ (pe_ifExp hc ha hb) ?_
  rintro σ H Q ⟨S, L, env, g, er, q⟩
  simp only [ev] at q
  refine ⟨S, L, env, g, er, q.bind.mono fun d S1 L1 H1 ⟨st, g1, q1⟩ => ?_⟩
  split at q1
  · exact ⟨true, rfl, iteT (⟨S1, L1, env, g1, er.step g st, q1⟩)⟩
  · exact ⟨false, rfl, iteF (⟨S1, L1, env, g1, er.step g st, q1⟩)⟩
  · exact q1.elim
theorem s_chn (ok : Ok X CA G W C) {o1 o2 : Cm} {p1 p2 : CmpOp} {a b c : Ex} {l m r : Expr} {p : Pos} (h1 : cmB o1 p1 = true) (h2 : cmB o2 p2 = true) (ha : PE X l (tE X.K CA G W a)) (hb : PE X m (tE X.K CA G W b)) (hc : PE X r (tE X.K CA G W c)) :
    PE X (.Compare l [p1, p2] [m, r] p) (tE X.K CA G W (.chn o1 o2 a b c)) ∧ PT X (.Compare l [p1, p2] [m, r] p) (tT X.K CA G W (.chn o1 o2 a b c)) := by
  have hm : lastMarks [p1, p2] [m, r] = false := nomark r (by intro z; subst z; cases o2 <;> cases h2) (by intro z; subst z; cases o2 <;> cases h2)
  have core : ∀ (σ : Sl) (H : Hp) (P : D → Store → List Addr → Hp → Prop) (Q : VK), (∃ S L env, Good X.K CA S L H ∧ EnvR X.K G.pin L H env σ ∧ Aft X.K CA W σ L H (ev G (.chn o1 o2 a b c) env S) P) → (∀ d S' L' H' v, P d S' L' H' → RelD X.K L' H' d v → Q v H') →
      tChain (rBin X.K CA W σ (cmpop o1)) (rBin X.K CA W σ (cmpop o2)) (tE X.K CA G W a) (tE X.K CA G W b) (tE X.K CA G W c) σ H Q := by
    rintro σ H P Q ⟨S, L, env, g, er, q⟩ hP
    simp only [ev] at q
    refine tE.seq g er q fun d1 S1 L1 H1 v1 st1 g1 er1 r1 q1 => tE.seq g1 er1 q1 fun d2 S2 L2 H2 v2 st2 g2 er2 r2 q2 => ⟨S2, L2, d1, d2, g2, r1.step g1 st2, r2, q2.bind.mono fun k S3 L3 H3 ⟨st3, g3, q3⟩ v r => ?_⟩
    split at q3
    · simp only [RelD] at r; subst r
      refine ⟨true, rfl, ?_⟩
      rw [if_pos rfl]
      exact tE.seq g3 (er2.step g2 st3) q3 fun d4 S4 L4 H4 v4 st4 g4 er4 r4 q4 => ⟨S4, L4, d2, d4, g4, (r2.step g2 st3).step g3 st4, r4, q4.mono fun d S5 L5 H5 z v r => hP _ _ _ _ _ z r⟩
    · simp only [RelD] at r; subst r
      refine ⟨false, rfl, ?_⟩
      rw [if_neg Bool.false_ne_true]
      exact hP _ _ _ _ _ (q3 L3 H3 Step.refl g3) (by simp [RelD])
    · exact q3.elim
  refine ⟨⟨fun pins s σ H Q I q => (pe_chain (cmp_ok (W := W) ok (cmI_of h1) σ) (cmp_ok (W := W) ok (cmI_of h2) σ) ha hb hc hm).run pins s σ H Q I ?_⟩, ⟨fun pins s σ H Q I q => (pt_chain (cmp_ok (W := W) ok (cmI_of h1) σ) (cmp_ok (W := W) ok (cmI_of h2) σ) ha hb hc hm).run pins s σ H Q I ?_⟩⟩
  · exact core σ H _ Q q fun d S' L' H' v z r => z v r
  · refine core σ H _ _ q fun d S' L' H' v z r => ?_
    obtain ⟨b, rfl, z⟩ := z
    simp only [RelD] at r
    exact ⟨b, r, z⟩
theorem s_nil : PA X [] (tEs X.K CA G W []) := by
  refine PA.by_ pa_nil ?_
  rintro σ H Q ⟨S, L, env, g, er, q⟩
  simp only [evs] at q
  exact q L H Step.refl g [] RelDs.nil
theorem s_cons {a : Ex} {xs : List Ex} {es : List Expr} (ha : PE X e (tE X.K CA G W a)) (hs : PA X es (tEs X.K CA G W xs)) (st : starEach (e :: es) X.env = (false, eval e X.env) :: starEach es X.env) : PA X (e :: es) (tEs X.K CA G W (a :: xs)) := by
  refine PA.by_ (pa_cons ha hs st) ?_
  rintro σ H Q ⟨S, L, env, g, er, q⟩
  simp only [evs] at q
  exact tE.seq g er q fun d S1 L1 H1 v st g1 er1 r q1 => tEs.seq g1 er1 q1 fun ds S2 L2 H2 vs st2 g2 er2 rs q2 => q2 L2 H2 Step.refl g2 _ (RelDs.cons (r.step g1 st2) rs)
theorem evs_length : ∀ (xs : List Ex) {env : Env} {S S' : Store} {ds : List D}, evs G xs env S = .ok ds S' → ds.length = xs.length
  | [], env, S, S', ds, h => by simp only [evs, R.ok.injEq] at h; rw [← h.1]; rfl
  | x :: xs, env, S, S', ds, h => by
    simp only [evs] at h
    cases h1 : ev G x env S with
    | bad => rw [h1] at h; cases h
    | exc c S1 => rw [h1] at h; cases h
    | ok d S1 =>
      rw [h1] at h
      simp only [R.bind] at h
      cases h2 : evs G xs env S1 with
      | bad => rw [h2] at h; cases h
      | exc c S2 => rw [h2] at h; cases h
      | ok ds2 S2 =>
        rw [h2] at h
        simp only [R.ok.injEq] at h
        rw [← h.1, List.length_cons, evs_length xs h2, List.length_cons]
theorem Aft.len {xs : List Ex} {env : Env} {P : List D → Store → List Addr → Hp → Prop} (h : Aft X.K CA W σ L H (evs G xs env S) P) : Aft X.K CA W σ L H (evs G xs env S) fun ds S' L' H' => ds.length = xs.length ∧ P ds S' L' H' := by
  cases e : evs G xs env S with
  | bad => rw [e] at h; exact h
  | exc c S1 => rw [e] at h; exact h
  | ok ds S1 =>
    rw [e] at h
    exact fun L' H' st g => ⟨evs_length xs e, h L' H' st g⟩
theorem s_tup {xs : List Ex} {es : List Expr} {k : Nat} {p : Pos} (h : PA X es (tEs X.K CA G W xs)) (hl : xs.length ≤ lim) : PE X (.Tuple es k p) (tE X.K CA G W (.tup xs)) := by
  refine PE.by_ (pe_tup h) ?_
  rintro σ H Q ⟨S, L, env, g, er, q⟩
  simp only [ev] at q
  refine ⟨S, L, env, g, er, q.bind.len.mono fun ds S1 L1 H1 ⟨hlen, st, g1, q1⟩ vs r => ⟨by rw [r.length, hlen]; exact Nat.le_of_lt (small hl), fun p hp => ?_⟩⟩
  obtain ⟨st2, g2⟩ := g1.side (o := .tup vs) hp
  refine q1 _ _ st2 g2 (.ref p) ?_
  simp only [RelD]
  exact ⟨p, vs, rfl, upd_same, r.step g1 st2⟩
theorem s_lst {xs : List Ex} {es : List Expr} {p : Pos} (h : PA X es (tEs X.K CA G W xs)) (hl : xs.length ≤ lim) : PE X (.List es p) (tE X.K CA G W (.lst xs)) := by
  refine PE.by_ (pe_lst h) ?_
  rintro σ H Q ⟨S, L, env, g, er, q⟩
  simp only [ev] at q
  exact ⟨S, L, env, g, er, q.bind.len.mono fun ds S1 L1 H1 ⟨hlen, st, g1, q1⟩ vs r => ⟨by rw [r.length, hlen]; exact Nat.le_of_lt (small hl), fun p hp => Aft.lst g1 q1 r hp⟩⟩
theorem s_idx {a i : Ex} {l s : Expr} {p : Pos} (hs : notSl s = true) (ha : PE X l (tE X.K CA G W a)) (hb : PE X s (tE X.K CA G W i)) : PE X (.Subscript l s p) (tE X.K CA G W (.idx a i)) := by
  have hp : PlainIx s := by
    intro o i
    cases s <;> first | rfl | (exact absurd hs Bool.false_ne_true)
  refine ⟨fun pins s σ H Q I q => (pe_ix (ix_ok (CA := CA) (W := W) σ) ha hb hp).run pins s σ H Q I ?_⟩
  obtain ⟨S, L, env, g, er, q⟩ := q
  simp only [ev] at q
  exact tE.seq g er q fun d1 S1 L1 H1 v1 st1 g1 er1 r1 q1 => tE.seq g1 er1 q1 fun d2 S2 L2 H2 v2 st2 g2 er2 r2 q2 => ⟨S2, L2, d1, d2, g2, r1.step g1 st2, r2, q2⟩
theorem intO_some {d : D} {l : Option Int} (h : intO (some d) = some l) : ∃ i, d = .int i ∧ l = some i := by
  cases d <;> simp [intO] at h
  exact ⟨_, rfl, h.symm⟩
theorem slice_ints {x : D} {lo hi : Option D} {P : D → Store → List Addr → Hp → Prop} (q : Aft X.K CA W σ L H (slice x lo hi S) P) : ∃ l h, intO lo = some l ∧ intO hi = some h := by
  unfold slice at q
  split at q
  · split at q
    · rename_i l h e1 e2; exact ⟨l, h, e1, e2⟩
    · exact q.elim
  · split at q
    · rename_i xs l h _ e1 e2; exact ⟨l, h, e1, e2⟩
    · exact q.elim
theorem s_slT {a b : Ex} {l r : Expr} {p p2 : Pos} (ha : PE X l (tE X.K CA G W a)) (hb : PE X r (tE X.K CA G W b)) : PE X (.Subscript l (.Slice none (some r) none p2) p) (tE X.K CA G W (.slT a b)) := by
  refine ⟨fun pins s σ H Q I q => ?_⟩
  obtain ⟨S, L, env, g, er, q⟩ := q
  simp only [ev] at q
  have key : tE X.K CA G W a σ H fun x H1 => tNoPart σ H1 fun lo H2 => tPart (tE X.K CA G W b) σ H2 fun hi H3 => ∃ S L dx d2, Good X.K CA S L H3 ∧ RelD X.K L H3 dx x ∧ intO none = some lo ∧ intO (some d2) = some hi ∧ Aft X.K CA W σ L H3 (slice dx none (some d2) S) fun d _ L' H' => ∀ v, RelD X.K L' H' d v → Q v H' := by
    refine tE.seq g er q fun d1 S1 L1 H1 v1 st1 g1 er1 r1 q1 => tE.seq g1 er1 q1 fun d2 S2 L2 H2 v2 st2 g2 er2 r2 q2 => ?_
    obtain ⟨lo, hi, e1, e2⟩ := slice_ints q2
    obtain ⟨i, rfl, rfl⟩ := intO_some e2
    simp only [RelD] at r2
    cases e1
    exact ⟨i, r2, S2, L2, d1, .int i, g2, r1.step g1 st2, rfl, rfl, q2⟩
  have big : SlR X (fun vx lo hi H Q => ∃ S L dx d2, Good X.K CA S L H ∧ RelD X.K L H dx vx ∧ intO none = some lo ∧ intO (some d2) = some hi ∧ Aft X.K CA W σ L H (slice dx none (some d2) S) fun d _ L' H' => ∀ v, RelD X.K L' H' d v → Q v H') := by
    intro pins s σ' H x v vl vu lo hi sl Q I rx hs pl pu q
    obtain ⟨S, L, dx, d2, q⟩ := q
    exact sl_ok (CA := CA) (W := W) (lo := none) (hi := some d2) σ pins s σ' H x v vl vu lo hi sl Q I rx hs pl pu ⟨S, L, dx, q⟩
  exact (pe_slice big ha po_none (po_some hb)).run pins s σ H Q I key
theorem s_slF {a b : Ex} {l r : Expr} {p p2 : Pos} (ha : PE X l (tE X.K CA G W a)) (hb : PE X r (tE X.K CA G W b)) : PE X (.Subscript l (.Slice (some r) none none p2) p) (tE X.K CA G W (.slF a b)) := by
  refine ⟨fun pins s σ H Q I q => ?_⟩
  obtain ⟨S, L, env, g, er, q⟩ := q
  simp only [ev] at q
  have key : tE X.K CA G W a σ H fun x H1 => tPart (tE X.K CA G W b) σ H1 fun lo H2 => tNoPart σ H2 fun hi H3 => ∃ S L dx d2, Good X.K CA S L H3 ∧ RelD X.K L H3 dx x ∧ intO (some d2) = some lo ∧ intO none = some hi ∧ Aft X.K CA W σ L H3 (slice dx (some d2) none S) fun d _ L' H' => ∀ v, RelD X.K L' H' d v → Q v H' := by
    refine tE.seq g er q fun d1 S1 L1 H1 v1 st1 g1 er1 r1 q1 => tE.seq g1 er1 q1 fun d2 S2 L2 H2 v2 st2 g2 er2 r2 q2 => ?_
    obtain ⟨lo, hi, e1, e2⟩ := slice_ints q2
    obtain ⟨i, rfl, rfl⟩ := intO_some e1
    simp only [RelD] at r2
    cases e2
    exact ⟨i, r2, S2, L2, d1, .int i, g2, r1.step g1 st2, rfl, rfl, q2⟩
  have big : SlR X (fun vx lo hi H Q => ∃ S L dx d2, Good X.K CA S L H ∧ RelD X.K L H dx vx ∧ intO (some d2) = some lo ∧ intO none = some hi ∧ Aft X.K CA W σ L H (slice dx (some d2) none S) fun d _ L' H' => ∀ v, RelD X.K L' H' d v → Q v H') := by
    intro pins s σ' H x v vl vu lo hi sl Q I rx hs pl pu q
    obtain ⟨S, L, dx, d2, q⟩ := q
    exact sl_ok (CA := CA) (W := W) (lo := some d2) (hi := none) σ pins s σ' H x v vl vu lo hi sl Q I rx hs pl pu ⟨S, L, dx, q⟩
  exact (pe_slice big ha (po_some hb) po_none).run pins s σ H Q I key
theorem s_slB {a b c : Ex} {l r t : Expr} {p p2 : Pos} (ha : PE X l (tE X.K CA G W a)) (hb : PE X r (tE X.K CA G W b)) (hc : PE X t (tE X.K CA G W c)) : PE X (.Subscript l (.Slice (some r) (some t) none p2) p) (tE X.K CA G W (.slB a b c)) := by
  refine ⟨fun pins s σ H Q I q => ?_⟩
  obtain ⟨S, L, env, g, er, q⟩ := q
  simp only [ev] at q
  have key : tE X.K CA G W a σ H fun x H1 => tPart (tE X.K CA G W b) σ H1 fun lo H2 => tPart (tE X.K CA G W c) σ H2 fun hi H3 => ∃ S L dx d2 d3, Good X.K CA S L H3 ∧ RelD X.K L H3 dx x ∧ intO (some d2) = some lo ∧ intO (some d3) = some hi ∧ Aft X.K CA W σ L H3 (slice dx (some d2) (some d3) S) fun d _ L' H' => ∀ v, RelD X.K L' H' d v → Q v H' := by
    refine tE.seq g er q fun d1 S1 L1 H1 v1 st1 g1 er1 r1 q1 => tE.seq g1 er1 q1 fun d2 S2 L2 H2 v2 st2 g2 er2 r2 q2 => ?_
    split at q2
    · rename_i hi2
      cases d2 <;> try (exact absurd hi2 Bool.false_ne_true)
      rename_i i
      simp only [RelD] at r2
      refine ⟨i, r2, tE.seq g2 er2 q2 fun d3 S3 L3 H3 v3 st3 g3 er3 r3 q3 => ?_⟩
      obtain ⟨lo, hi, e1, e2⟩ := slice_ints q3
      obtain ⟨j, rfl, rfl⟩ := intO_some e2
      simp only [RelD] at r3
      exact ⟨j, r3, S3, L3, d1, .int i, .int j, g3, (r1.step g1 st2).step g2 st3, rfl, rfl, q3⟩
    · exact q2.elim
  have big : SlR X (fun vx lo hi H Q => ∃ S L dx d2 d3, Good X.K CA S L H ∧ RelD X.K L H dx vx ∧ intO (some d2) = some lo ∧ intO (some d3) = some hi ∧ Aft X.K CA W σ L H (slice dx (some d2) (some d3) S) fun d _ L' H' => ∀ v, RelD X.K L' H' d v → Q v H') := by
    intro pins s σ' H x v vl vu lo hi sl Q I rx hs pl pu q
    obtain ⟨S, L, dx, d2, d3, q⟩ := q
    exact sl_ok (CA := CA) (W := W) (lo := some d2) (hi := some d3) σ pins s σ' H x v vl vu lo hi sl Q I rx hs pl pu ⟨S, L, dx, q⟩
  exact (pe_slice big ha (po_some hb) (po_some hc)).run pins s σ H Q I key
theorem s_rev {a : Ex} {l : Expr} {k : Nat} {p p1 p2 p3 : Pos} (ha : PE X l (tE X.K CA G W a)) : PE X (.Subscript l (.Slice none none (some (.UnaryOp .USub (.Constant (.int 1) k p1) p2)) p3) p) (tE X.K CA G W (.rev a)) := by
  refine PE.by_ (pe_revL ha) ?_
  rintro σ H Q ⟨S, L, env, g, er, q⟩
  simp only [ev] at q
  refine tE.seq g er q fun d S1 L1 H1 v st g1 er1 r q1 => ?_
  split at q1
  · rename_i xs hx
    obtain ⟨b, vs, rfl, sq, r⟩ := lstOf_rel g1 hx r
    exact ⟨b, vs, rfl, sq, fun p hp => Aft.lst g1 q1 r.reverse hp⟩
  · exact q1.elim
end
end Lt
set_option maxHeartbeats 1000000
namespace Lt
open PySem PySem.Spec PyProof.Rows L2
section
variable {X : Cx} {CA : Str → Addr} {G : Cxp} {W : WX} {C : MC} {S S' : Store} {L L1 M2 L' : List Addr} {H H1 H2 H' : Hp} {σ : Sl} {e : Expr}
theorem s_call (ok : Ok X CA G W C) {f : Str} {xs : List Ex} {es : List Expr} {q p : Pos} (h1 : gloB C.sc f = true) (h2 : nmOk f = true) (h3 : C.fs f xs.length = true) (h : PA X es (tEs X.K CA G W xs)) (hm : mEs xs C es = true) :
    PE X (.Call (.Name f q) es [] p) (tE X.K CA G W (.call f xs)) := by
  obtain ⟨a, fd, ps, ds, dvs, k, sp, F, hr, hmg, hk, hb, hd, hsp⟩ := ok.call f xs.length h3
  have gl := gl_of ok h1
  have dbg := (nm_of h2).1
  have key : ∀ (σ : Sl) (H : Hp) (Q : VK), tE X.K CA G W (.call f xs) σ H Q → tEs X.K CA G W xs σ H fun vs H1 => sp (vs ++ dvs) H1 Q (WE W σ) := by
    rintro σ H Q ⟨S, L, env, g, er, q⟩
    simp only [ev] at q
    exact ⟨S, L, env, g, er, q.bind.len.mono fun d S1 L1 H1 ⟨hl, st, g1, q1⟩ vs r => hsp vs d S1 L1 H1 σ Q _ g1 r hl q1⟩
  cases es with
  | nil =>
    have e0 : xs = [] := by
      cases xs with
      | nil => rfl
      | cons x xs => obtain ⟨e, r, z, _⟩ := mEs_cons hm; cases z
    subst e0
    refine ⟨fun pins s σ H Q I q => ?_⟩
    have k2 := key σ H Q q
    have k3 : sp ([] ++ dvs) H Q (WE W σ) := by
      obtain ⟨S, L, env, g, er, q⟩ := k2
      simp only [evs] at q
      exact q L H Step.refl g [] RelDs.nil
    refine wpAny_Call_Name_kw (ld_glob I gl hmg ?_ dbg)
    exact PySem.W.callWith_K0 I.kIn hk (run_fnSD (us := []) (E := WE W) F hr hb hd (passAt ok.tk σ) I .nil k3)
  | cons e es =>
    cases xs with
    | nil => have z := mEs_nil hm; cases z
    | cons x xs =>
      obtain ⟨e', r', z, s1, _, s2⟩ := mEs_cons hm
      cases z
      refine ⟨fun pins s σ H Q I q => (pe_callSD (E := WE W) F hr gl hmg hk hb hd (passAt ok.tk) h dbg (star_of s1 es X.env) (stars_ok s2 p X.env)).run pins s σ H Q I (key σ H Q q)⟩
theorem bi_none (ok : Ok X CA G W C) (b : Bi) : X.mg (biN b) = none := by
  cases b <;> exact ok.free _ (by decide +kernel)
theorem s_bi (ok : Ok X CA G W C) {b : Bi} {xs : List Ex} {es : List Expr} {q p : Pos} (hbi : biOk C b = true) (h1 : gloB C.sc (biN b) = true) (h : PA X es (tEs X.K CA G W xs)) (hm : mEs xs C es = true) (hn : xs ≠ []) :
    PE X (.Call (.Name (biN b) q) es [] p) (tE X.K CA G W (.bi b xs)) := by
  have gl := gl_of ok h1
  have mg := bi_none ok b
  have key : ∀ (σ : Sl) (H : Hp) (Q : VK), tE X.K CA G W (.bi b xs) σ H Q → tCB (rBi X.K CA W σ b) (tEs X.K CA G W xs) σ H Q := by
    rintro σ H Q ⟨S, L, env, g, er, q⟩
    simp only [ev] at q
    exact tEs.seq g er q fun d S1 L1 H1 v st g1 er1 r q1 => ⟨S1, L1, d, g1, r, q1⟩
  cases xs with
  | nil => exact absurd rfl hn
  | cons x xs =>
    obtain ⟨e, es', z, s1, _, s2⟩ := mEs_cons hm
    subst z
    refine ⟨fun pins s σ H Q I q => ?_⟩
    have c := bi_ok (W := W) ok b hbi σ
    have r := key σ H Q q
    cases b
    · exact (pe_callB c gl mg (by decide +kernel) h (by decide +kernel) (by decide +kernel) (star_of s1 es' X.env) (stars_ok s2 p X.env)).run pins s σ H Q I r
    · exact (pe_callB c gl mg (by decide +kernel) h (by decide +kernel) (by decide +kernel) (star_of s1 es' X.env) (stars_ok s2 p X.env)).run pins s σ H Q I r
    · exact (pe_callTy c gl mg (by decide +kernel) h (by decide +kernel) (by decide +kernel) (star_of s1 es' X.env) (stars_ok s2 p X.env)).run pins s σ H Q I r
    · exact (pe_callTy c gl mg (by decide +kernel) h (by decide +kernel) (by decide +kernel) (star_of s1 es' X.env) (stars_ok s2 p X.env)).run pins s σ H Q I r
    · exact (pe_callTy c gl mg (by decide +kernel) h (by decide +kernel) (by decide +kernel) (star_of s1 es' X.env) (stars_ok s2 p X.env)).run pins s σ H Q I r
    · exact (pe_callTy c gl mg (by decide +kernel) h (by decide +kernel) (by decide +kernel) (star_of s1 es' X.env) (stars_ok s2 p X.env)).run pins s σ H Q I r
    · exact (pe_callB c gl mg (by decide +kernel) h (by decide +kernel) (by decide +kernel) (star_of s1 es' X.env) (stars_ok s2 p X.env)).run pins s σ H Q I r
    · exact (pe_callB c gl mg (by decide +kernel) h (by decide +kernel) (by decide +kernel) (star_of s1 es' X.env) (stars_ok s2 p X.env)).run pins s σ H Q I r
    · exact (pe_callB c gl mg (by decide +kernel) h (by decide +kernel) (by decide +kernel) (star_of s1 es' X.env) (stars_ok s2 p X.env)).run pins s σ H Q I r
def tyS : Ty → String
  | .int => "int"
  | .bool => "bool"
  | .str => "str"
  | .tuple => "tuple"
  | .list => "list"
theorem ty_none (ok : Ok X CA G W C) (t : Ty) : X.mg (tyN t) = none := by
  cases t <;> exact ok.free _ (by decide +kernel)
theorem ty_boot (t : Ty) : bootBuiltins (tyN t) = some (.type (tyS t)) := by
  cases t <;> decide +kernel
theorem pe_ty (ok : Ok X CA G W C) (t : Ty) {p : Pos} (h : gloB C.sc (tyN t) = true) : PE X (.Name (tyN t) p) (tC (.ty (tyS t))) :=
  pe_bltn (gl_of ok h) (ty_none ok t) (ty_boot t) rfl (by cases t <;> decide +kernel) (by cases t <;> decide +kernel)
/-- the type that a value has, by name -/
def tyOf (S : Store) : D → Option String
  | .non => some "NoneType"
  | .bl _ => some "bool"
  | .int _ => some "int"
  | .str _ => some "str"
  | .tup _ => some "tuple"
  | .frl _ => some "list"
  | .frt _ => some "tuple"
  | .ref r => match getL S r with
    | some _ => some "list"
    | none => none
theorem tyOf_rel (g : Good X.K CA S L H) {d : D} {v : V} {n : String} (h : tyOf S d = some n) (r : RelD X.K L H d v) : TyX X.K H v (.type n) := by
  cases d with
  | non => simp only [RelD] at r; subst r; simp only [tyOf, Option.some.injEq] at h; subst h; exact .base .non
  | bl b => simp only [RelD] at r; subst r; simp only [tyOf, Option.some.injEq] at h; subst h; exact .base (.bl b)
  | int b => simp only [RelD] at r; subst r; simp only [tyOf, Option.some.injEq] at h; subst h; exact .base (.int b)
  | str b => simp only [RelD] at r; subst r; simp only [tyOf, Option.some.injEq] at h; subst h; exact .base (.str b)
  | tup xs =>
    simp only [RelD] at r; simp only [tyOf, Option.some.injEq] at h; subst h
    obtain ⟨p, vs, rfl, sq, _⟩ := r
    exact .base (.tup sq)
  | frl xs =>
    simp only [RelD] at r; simp only [tyOf, Option.some.injEq] at h; subst h
    obtain ⟨p, vs, rfl, sq, _⟩ := r
    rcases sq with ⟨o, sq⟩ | ⟨o, its, n, k1, k2, _⟩
    · exact .base (.frz sq)
    · exact .kList k1 k2
  | frt xs =>
    simp only [RelD] at r; simp only [tyOf, Option.some.injEq] at h; subst h
    obtain ⟨p, vs, rfl, ⟨o, its, n, k1, k2, _⟩, _⟩ := r
    exact .kTuple k1 k2
  | ref n =>
    simp only [RelD] at r; simp only [tyOf] at h
    obtain ⟨a, hn, rfl⟩ := r
    cases e : getL S n with
    | none => rw [e] at h; cases h
    | some xs =>
      rw [e] at h
      simp only [Option.some.injEq] at h; subst h
      obtain ⟨vs, q, _⟩ := getL_rel g e hn
      exact .base (.lst q)
theorem isTy_kit (S : Store) (t : Ty) (d : D) {b : Bool} (h : isTy S t d = some b) : ∃ n, tyOf S d = some n ∧ kitB n (tyS t) = some b := by
  cases d with
  | ref r =>
    simp only [isTy] at h
    cases e : getL S r with
    | none => rw [e] at h; cases h
    | some xs =>
      rw [e] at h
      simp only [Option.some.injEq] at h
      subst h
      refine ⟨"list", by simp [tyOf, e], ?_⟩
      cases t <;> decide +kernel
  | non => simp only [isTy, Option.some.injEq] at h; subst h; exact ⟨_, rfl, by cases t <;> decide +kernel⟩
  | bl x => simp only [isTy, Option.some.injEq] at h; subst h; exact ⟨_, rfl, by cases t <;> decide +kernel⟩
  | int x => simp only [isTy, Option.some.injEq] at h; subst h; exact ⟨_, rfl, by cases t <;> decide +kernel⟩
  | str x => simp only [isTy, Option.some.injEq] at h; subst h; exact ⟨_, rfl, by cases t <;> decide +kernel⟩
  | tup x => simp only [isTy, Option.some.injEq] at h; subst h; exact ⟨_, rfl, by cases t <;> decide +kernel⟩
  | frl x => simp only [isTy, Option.some.injEq] at h; subst h; exact ⟨_, rfl, by cases t <;> decide +kernel⟩
  | frt x => simp only [isTy, Option.some.injEq] at h; subst h; exact ⟨_, rfl, by cases t <;> decide +kernel⟩
theorem s_isI (ok : Ok X CA G W C) {t : Ty} {a : Ex} {l : Expr} {q q2 p : Pos} (h1 : gloB C.sc "isinstance" = true) (h2 : gloB C.sc (tyN t) = true) (hs : notSt l = true) (ha : PE X l (tE X.K CA G W a)) :
    PE X (.Call (.Name "isinstance" q) [l, .Name (tyN t) q2] [] p) (tE X.K CA G W (.isI a t)) := by
  refine PE.by_ (pe_callB call_isi (gl_of ok h1) (ok.free _ (by decide +kernel)) (by decide +kernel) (pa_cons ha (pa_cons (pe_ty ok t h2) pa_nil (star_of rfl [] X.env)) (star_of hs _ X.env)) (by decide +kernel) (by decide +kernel) (star_of hs _ X.env) (by rw [star_of rfl [] X.env]; rfl)) ?_
  rintro σ H Q ⟨S, L, env, g, er, q⟩
  simp only [ev] at q
  refine tE.seq g er q fun d S1 L1 H1 v st g1 er1 r q1 => ?_
  split at q1
  · rename_i b hb
    obtain ⟨n, e1, e2⟩ := isTy_kit _ _ _ hb
    exact ⟨v, .ty (tyS t), _, _, b, rfl, .ty _, tyOf_rel g1 e1 r, kit_ty e2, Aft.bl g1 q1⟩
  · exact q1.elim
theorem base_of {o : Expr} (h : notCall o = true) (n : Str) (env : PySem.Env) : attributeBase o n env (eval o env) = eval o env := by
  cases o <;> first | rfl | (exact absurd h Bool.false_ne_true)
theorem few_of (h : notSt e = true) (cp : Pos) (env : PySem.Env) : ((backTo cp (starEach [e] env)).all (fun x => !x.1) && (backToKw cp (keywordEach [] env)).all (fun x => x.1.isSome)
      && decide (([e] : List Expr).length + ([] : List Keyword).length + (if ([] : List Keyword).isEmpty then 0 else 1) < 30)) = true := by
  rw [star_of h [] env]; rfl
theorem isLst_rel (g : Good X.K CA S L H) {d : D} {v : V} (h : isLst d S = true) (r : RelD X.K L H d v) : tyV X.K "list" v H ∧ ∃ n xs a vs, d = .ref n ∧ getL S n = some xs ∧ L[n]? = some a ∧ v = .ref a ∧ H a = some (.lst vs) ∧ RelDs X.K L H xs vs := by
  unfold isLst at h
  split at h
  · rename_i n
    obtain ⟨xs, hx⟩ := Option.isSome_iff_exists.mp h
    simp only [RelD] at r
    obtain ⟨a, hn, rfl⟩ := r
    obtain ⟨vs, q, r⟩ := getL_rel g hx hn
    exact ⟨.inl ⟨rfl, vs, SqL.of q⟩, n, xs, a, vs, rfl, hx, hn, rfl, q, r⟩
  · cases h
theorem s_app {o a : Ex} {l r : Expr} {ap cp : Pos} (hc : notCall l = true) (hl : (ap.endLine == cp.line) = true) (hs : notSt r = true) (ho : PE X l (tE X.K CA G W o)) (ha : PE X r (tE X.K CA G W a)) :
    PE X (.Call (.Attribute l "append" ap) [r] [] cp) (tE X.K CA G W (.app o a)) := by
  refine PE.by_ (pe_bm PySem.F.plainAttrs_list PySem.F.slot_list_append PySem.F.type_list_append mt_append ho (pa_cons ha pa_nil (star_of hs [] X.env)) (base_of hc _ _) (few_of hs cp X.env) hl (star_of hs [] X.env) rfl) ?_
  rintro σ H Q ⟨S, L, env, g, er, q⟩
  simp only [ev] at q
  refine tE.seq g er q fun d S1 L1 H1 v st g1 er1 r1 q1 => ?_
  split at q1
  · rename_i hi
    refine ⟨(isLst_rel g1 hi r1).1, tE.seq g1 er1 q1 fun d2 S2 L2 H2 v2 st2 g2 er2 r2 q2 => ?_⟩
    unfold append at q2
    split at q2
    · split at q2
      · rename_i n xs hx
        split at q2
        · rename_i hz
          simp only [RelD] at r1
          obtain ⟨b, hn, rfl⟩ := r1
          obtain ⟨vs, e1, rs⟩ := getL_rel g2 hx (st2.get hn)
          refine ⟨b, vs, v2, rfl, rfl, e1, by rw [rs.length]; exact small (Nat.le_of_lt hz), Aft.set g2 q2 (st2.get hn) e1 (rs.append (RelDs.cons r2 RelDs.nil)) fun H' => by simp [RelD]⟩
        · exact q2.elim
      · exact q2.elim
    · exact q2.elim
  · exact q1.elim
theorem s_ext {o a : Ex} {l r : Expr} {ap cp : Pos} (hc : notCall l = true) (hl : (ap.endLine == cp.line) = true) (hs : notSt r = true) (ho : PE X l (tE X.K CA G W o)) (ha : PE X r (tE X.K CA G W a)) :
    PE X (.Call (.Attribute l "extend" ap) [r] [] cp) (tE X.K CA G W (.ext o a)) := by
  refine PE.by_ (pe_bm PySem.F.plainAttrs_list PySem.F.slot_list_extend PySem.F.type_list_extend mt_extend ho (pa_cons ha pa_nil (star_of hs [] X.env)) (base_of hc _ _) (few_of hs cp X.env) hl (star_of hs [] X.env) rfl) ?_
  rintro σ H Q ⟨S, L, env, g, er, q⟩
  simp only [ev] at q
  refine tE.seq g er q fun d S1 L1 H1 v st g1 er1 r1 q1 => ?_
  split at q1
  · rename_i hi
    refine ⟨(isLst_rel g1 hi r1).1, tE.seq g1 er1 q1 fun d2 S2 L2 H2 v2 st2 g2 er2 r2 q2 => ?_⟩
    unfold extend at q2
    split at q2
    · split at q2
      · rename_i n m xs ys hx hy
        split at q2
        · rename_i hz
          simp only [RelD] at r1 r2
          obtain ⟨b, hn, rfl⟩ := r1
          obtain ⟨c, hm, rfl⟩ := r2
          obtain ⟨vs, e1, rs⟩ := getL_rel g2 hx (st2.get hn)
          obtain ⟨ws, e2, rt⟩ := getL_rel g2 hy hm
          refine ⟨b, c, vs, ws, rfl, rfl, e1, e2, by rw [rs.length, rt.length]; exact Nat.le_of_lt (small hz), Aft.set g2 q2 (st2.get hn) e1 (rs.append rt) fun H' => by simp [RelD]⟩
        · exact q2.elim
      · exact q2.elim
    · exact q2.elim
  · exact q1.elim
theorem s_clr {o : Ex} {l : Expr} {ap cp : Pos} (hc : notCall l = true) (hl : (ap.endLine == cp.line) = true) (ho : PE X l (tE X.K CA G W o)) :
    PE X (.Call (.Attribute l "clear" ap) [] [] cp) (tE X.K CA G W (.clr o)) := by
  refine PE.by_ (pe_bm0 PySem.F.plainAttrs_list PySem.F.slot_list_clear PySem.F.type_list_clear mt_clear ho (base_of hc _ _) hl) ?_
  rintro σ H Q ⟨S, L, env, g, er, q⟩
  simp only [ev] at q
  refine tE.seq g er q fun d S1 L1 H1 v st g1 er1 r1 q1 => ?_
  unfold clear at q1
  split at q1
  · split at q1
    · rename_i n xs hx
      obtain ⟨ty, _⟩ := isLst_rel g1 (by simp [isLst, hx]) r1
      simp only [RelD] at r1
      obtain ⟨b, hn, rfl⟩ := r1
      obtain ⟨vs, e1, rs⟩ := getL_rel g1 hx hn
      exact ⟨ty, b, vs, rfl, rfl, e1, Aft.set g1 q1 hn e1 RelDs.nil fun H' => by simp [RelD]⟩
    · exact q1.elim
  · exact q1.elim
/-- all slots but these are as they were -/
def SameOut (is : List Nat) (σ σ' : Sl) : Prop := σ'.length = σ.length ∧ ∀ j, j ∉ is → σ'[j]? = σ[j]?
theorem SameOut.one (σ : Sl) (i : Nat) (v : Option V) : SameOut [i] σ (σ.set i v) := ⟨by simp, fun j h => by
  rw [List.mem_singleton] at h
  exact List.getElem?_set_ne (Ne.symm h)⟩
def tG (K : PySem.W.Frag) (CA : Str → Addr) (pn : PinT) (t : Tg) : TG := fun v σ H Q => ∃ S L e d e1, Good K CA S L H ∧ EnvR K pn L H e σ ∧ RelD K L H d v ∧ bindT t d e S = some e1 ∧ ∀ σ', EnvR K pn L H e1 σ' → SameOut (tsl t) σ σ' → Q σ' H
theorem st_of (ok : Ok X CA G W C) {x : Str} (h : stB C x = true) : Loc X.env.scope x ∧ (X.fn x = true ∨ X.env.scope.names.lookup x = some .local) := by
  unfold stB at h
  rw [Bool.or_eq_true] at h
  rw [ok.sc]
  rcases h with h | h
  · exact ⟨.inl (loc_of h), .inr (loc_of h)⟩
  · obtain ⟨h1, h2⟩ := ba h
    exact ⟨.inr (cel_of h1), .inl (ok.fn h2 x)⟩
theorem g_name (ok : Ok X CA G W C) {i : Nat} {x : Str} {p : Pos} (h0 : hsNe C i = true) (h1 : slotB C i x = true) (h2 : stB C x = true) : PG X (.Name x p) (tG X.K CA G.pin (.name i)) := by
  obtain ⟨l, f⟩ := st_of ok h2
  refine PG.by_ (pg_name (i := i) (by rw [ok.nm]; exact ok.nd) (by rw [ok.nm]; exact slot_of h1) l f) ?_
  rintro v σ H Q ⟨S, L, e, d, e1, g, er, r, hb, q⟩
  simp only [bindT] at hb
  split at hb
  · cases hb
    exact q _ (er.set r (ok.hsne h0)) (SameOut.one _ _ _)
  · cases hb
def tGs (K : PySem.W.Frag) (CA : Str → Addr) (pn : PinT) (is : List Nat) : TGs := fun vs σ H Q => ∃ S L e ds e1, Good K CA S L H ∧ EnvR K pn L H e σ ∧ RelDs K L H ds vs ∧ setAll is ds e = some e1 ∧ ∀ σ', EnvR K pn L H e1 σ' → SameOut is σ σ' → Q σ' H
theorem hsNe_of (h : cold C = true) (i : Nat) : hsNe C i = true := by
  unfold cold at h
  unfold hsNe
  rw [Option.isNone_iff_eq_none.mp h]
theorem g_names (ok : Ok X CA G W C) (hc : cold C = true) : ∀ {is : List Nat} {es : List Expr}, mTs C is es = true → PGs X es (tGs X.K CA G.pin is) ∧ (assignEach es X.env).length = is.length ∧ (assignEach es X.env).findIdx? (·.1) = none
  | [], [], _ => by
    refine ⟨⟨fun pins s σ H vs us Q I r q => pgs_nil.run pins s σ H vs us Q I r ?_⟩, rfl, rfl⟩
    obtain ⟨S, L, e, ds, e1, g, er, rs, hb, q⟩ := q
    cases ds with
    | nil =>
      simp only [setAll, Option.some.injEq] at hb; subst hb
      simp only [RelDs] at rs
      exact ⟨rs, q _ er ⟨rfl, fun _ _ => rfl⟩⟩
    | cons d ds => simp only [setAll] at hb; cases hb
  | [], _ :: _, h => by simp [mTs] at h
  | i :: is, [], h => by simp [mTs] at h
  | i :: is, e :: es, h => by
    cases e <;> try (simp [mTs] at h; done)
    rename_i x p
    simp only [mTs, Bool.and_eq_true] at h
    obtain ⟨⟨h1, h2⟩, h3⟩ := h
    obtain ⟨ih, l1, l2⟩ := g_names ok hc h3
    refine ⟨⟨fun pins s σ H vs us Q I r q => (pgs_cons (g_name ok (hsNe_of hc i) h1 h2) ih).run pins s σ H vs us Q I r ?_⟩, ?_, ?_⟩
    · obtain ⟨S, L, e, ds, e1, g, er, rs, hb, q⟩ := q
      cases ds with
      | nil => simp only [setAll] at hb; cases hb
      | cons d ds =>
        simp only [RelDs] at rs
        obtain ⟨v, vr, rfl, r1, rs⟩ := rs
        simp only [setAll] at hb
        split at hb
        · rename_i hi
          refine ⟨v, vr, rfl, S, L, e, d, _, g, er, r1, by simp only [bindT]; rw [if_pos hi], fun σ' er' so => ⟨S, L, _, ds, e1, g, er', rs, hb, fun σ2 er2 so2 => q σ2 er2 ⟨so2.1.trans so.1, fun j hj => (so2.2 j fun h => hj (List.mem_cons_of_mem _ h)).trans (so.2 j fun h => hj (by rw [show j = i from List.mem_singleton.mp h]; exact List.mem_cons_self))⟩⟩⟩
        · cases hb
    · show ((false, assign (.Name x p) X.env) :: assignEach es X.env).length = _
      simp [l1]
    · show ((false, assign (.Name x p) X.env) :: assignEach es X.env).findIdx? (·.1) = none
      simp [List.findIdx?_cons, l2]
theorem g_ok (ok : Ok X CA G W C) {t : Tg} (h : mT C t e = true) : PG X e (tG X.K CA G.pin t) := by
  cases t with
  | name i =>
    cases e <;> try (simp [mT] at h; done)
    simp only [mT, Bool.and_eq_true] at h
    exact g_name ok h.1 h.2.1 h.2.2
  | tup is =>
    cases e <;> try (simp [mT] at h; done)
    rename_i es k p
    simp only [mT, Bool.and_eq_true] at h
    obtain ⟨hc, h⟩ := h
    obtain ⟨hg, l1, l2⟩ := g_names ok hc h
    refine ⟨fun pins s σ H v u Q I r q => ?_⟩
    obtain ⟨S, L, e, d, e1, g, er, rd, hb, q⟩ := q
    simp only [bindT] at hb
    split at hb
    · rename_i xs hx
      split at hb
      · rename_i hl
        obtain ⟨a, vs, rfl, sq, rs⟩ := seqOf_rel g hx rd
        have fin : tGs X.K CA G.pin is vs σ H Q := ⟨S, L, e, xs, e1, g, er, rs, hb, q⟩
        rcases sq with sq | sq
        · exact (pg_lst (n := is.length) (ok.calm hc) hg l1 l2).run pins s σ H _ u Q I r ⟨a, vs, rfl, sq, by rw [rs.length]; exact hl, fin⟩
        · exact (pg_tup (n := is.length) (ok.calm hc) hg l1 l2).run pins s σ H _ u Q I r ⟨a, vs, rfl, sq, by rw [rs.length]; exact hl, fin⟩
      · cases hb
    · cases hb
end
end Lt
set_option maxHeartbeats 1000000
namespace Lt
open PySem PySem.Spec PyProof.Rows L2
section
variable {X : Cx} {CA : Str → Addr} {G : Cxp} {W : WX} {C : MC} {S S' : Store} {L L1 M2 L' : List Addr} {H H1 H2 H' : Hp} {σ : Sl} {e : Expr}
theorem getI_rel (g : Good X.K CA S L H) {n : Nat} {y : Str} {fs : List (Str × D)} (h : getI S n = some (y, fs)) {a : Addr} (hn : L[n]? = some a) : ∃ dx gs, H a = some (.ins (CA y) dx gs) ∧ H dx = some (.own a) ∧ gs.map (·.1) = fs.map (·.1) ∧ RelDs X.K L H (fs.map (·.2)) (gs.map (·.2)) := by
  unfold getI at h
  split at h
  · rename_i y' fs' e
    cases h
    exact g.cell n _ a e hn
  · cases h
theorem flds_look : ∀ {fs : List (Str × D)} {gs : List (Str × V)} {f : Str} {d : D}, gs.map (·.1) = fs.map (·.1) → RelDs X.K L H (fs.map (·.2)) (gs.map (·.2)) → fs.lookup f = some d → ∃ v, gs.lookup f = some v ∧ RelD X.K L H d v
  | [], gs, f, d, _, _, e => by simp at e
  | (k, x) :: fs, gs, f, d, hk, r, e => by
    cases gs with
    | nil => simp at hk
    | cons q gs =>
      obtain ⟨k2, v⟩ := q
      simp only [List.map_cons, List.cons.injEq] at hk
      obtain ⟨rfl, hk⟩ := hk
      simp only [List.map_cons, RelDs] at r
      obtain ⟨v', r', z, r1, r2⟩ := r
      cases z
      rw [List.lookup_cons] at e ⊢
      cases hb : f == k2 with
      | true =>
        rw [hb] at e
        cases e
        exact ⟨v, rfl, r1⟩
      | false =>
        rw [hb] at e
        exact flds_look hk r2 e
theorem flds_none : ∀ {fs : List (Str × D)} {gs : List (Str × V)} {f : Str}, gs.map (·.1) = fs.map (·.1) → fs.lookup f = none → gs.lookup f = none
  | [], gs, f, hk, _ => by
    cases gs with
    | nil => rfl
    | cons _ _ => simp at hk
  | (k, x) :: fs, gs, f, hk, e => by
    cases gs with
    | nil => simp at hk
    | cons q gs =>
      obtain ⟨k2, v⟩ := q
      simp only [List.map_cons, List.cons.injEq] at hk
      obtain ⟨rfl, hk⟩ := hk
      rw [List.lookup_cons] at e ⊢
      cases hb : f == k2 with
      | true => rw [hb] at e; cases e
      | false =>
        rw [hb] at e
        exact flds_none hk e
theorem flds_put : ∀ {fs : List (Str × D)} {gs : List (Str × V)} (f : Str) {d : D} {v : V}, gs.map (·.1) = fs.map (·.1) → RelDs X.K L H (fs.map (·.2)) (gs.map (·.2)) → RelD X.K L H d v → (putF f v gs).map (·.1) = (putD f d fs).map (·.1) ∧ RelDs X.K L H ((putD f d fs).map (·.2)) ((putF f v gs).map (·.2))
  | [], gs, f, d, v, hk, _, rd => by
    cases gs with
    | nil => exact ⟨rfl, RelDs.cons rd RelDs.nil⟩
    | cons _ _ => simp at hk
  | (k, x) :: fs, gs, f, d, v, hk, r, rd => by
    cases gs with
    | nil => simp at hk
    | cons q gs =>
      obtain ⟨k2, w⟩ := q
      simp only [List.map_cons, List.cons.injEq] at hk
      obtain ⟨rfl, hk⟩ := hk
      simp only [List.map_cons, RelDs] at r
      obtain ⟨v', r', z, r1, r2⟩ := r
      cases z
      show (if k2 = f then (k2, v) :: gs else (k2, w) :: putF f v gs).map (·.1) = (if k2 = f then (k2, d) :: fs else (k2, x) :: putD f d fs).map (·.1) ∧ RelDs X.K L H ((if k2 = f then (k2, d) :: fs else (k2, x) :: putD f d fs).map (·.2)) ((if k2 = f then (k2, v) :: gs else (k2, w) :: putF f v gs).map (·.2))
      by_cases hf : k2 = f
      · rw [if_pos hf, if_pos hf]
        exact ⟨by simp [hk], RelDs.cons rd r2⟩
      · rw [if_neg hf, if_neg hf]
        obtain ⟨i1, i2⟩ := flds_put f hk r2 rd
        exact ⟨by simp [i1], RelDs.cons r1 i2⟩
theorem s_isB {a : Ex} {b : Bool} {l : Expr} {k : Nat} {p p2 : Pos} (ha : PE X l (tE X.K CA G W a)) :
    PE X (.Compare l [.Is] [.Constant (.bool b) k p2] p) (tE X.K CA G W (.isB a b)) ∧ PT X (.Compare l [.Is] [.Constant (.bool b) k p2] p) (tT X.K CA G W (.isB a b)) := by
  refine ⟨PE.by_ (pe_cmpR op_isBl ha pe_bl rfl) ?_, PT.by_ (pt_cmpR op_isBl ha pe_bl rfl) ?_⟩
  · rintro σ H Q ⟨S, L, env, g, er, q⟩
    simp only [ev] at q
    refine tE.seq g er q fun d S1 L1 H1 v st g1 er1 r1 q1 => ?_
    unfold isBR at q1
    split at q1
    · simp only [RelD] at r1
      subst r1
      exact ⟨_, _, rfl, rfl, Aft.now g1 q1 (by simp [RelD])⟩
    · exact q1.elim
  · rintro σ H Q ⟨S, L, env, g, er, q⟩
    simp only [ev] at q
    refine tE.seq g er q fun d S1 L1 H1 v st g1 er1 r1 q1 => ?_
    unfold isBR at q1
    split at q1
    · simp only [RelD] at r1
      subst r1
      obtain ⟨c, e, z⟩ := q1 L1 H1 Step.refl g1
      cases e
      exact ⟨_, _, rfl, rfl, _, rfl, z⟩
    · exact q1.elim
theorem s_fld (ok : Ok X CA G W C) {a : Ex} {y f : Str} {l : Expr} {p : Pos} (h1 : C.fl y f = true) (hc : notCall l = true) (ha : PE X l (tE X.K CA G W a)) : PE X (.Attribute l f p) (tE X.K CA G W (.fld a y f)) := by
  obtain ⟨cl, na⟩ := ok.fl y f h1
  refine PE.by_ (pe_fld ha (base_of hc _ _)) ?_
  rintro σ H Q ⟨S, L, env, g, er, q⟩
  simp only [ev] at q
  refine tE.seq g er q fun d S1 L1 H1 v st g1 er1 r1 q1 => ?_
  unfold fldR at q1
  split at q1
  · split at q1
    · rename_i n _ y' fs hi
      split at q1
      · rename_i hy
        subst hy
        split at q1
        · rename_i d2 hl
          simp only [RelD] at r1
          obtain ⟨b, hn, rfl⟩ := r1
          obtain ⟨dx, gs, e1, e2, e3, r2⟩ := getI_rel g1 hi hn
          obtain ⟨v2, l2, r3⟩ := flds_look e3 r2 hl
          exact ⟨b, _, dx, gs, v2, rfl, e1, cl, na, l2, Aft.now g1 q1 r3⟩
        · exact q1.elim
      · exact q1.elim
    · exact q1.elim
  · exact q1.elim
theorem meth_eq {o : Expr} {name : Str} {apos pos : Pos} {es : List Expr} {env : PySem.Env} (hb : attributeBase o name env (eval o env) = eval o env) (few : methodCallForm (es.length + ([] : List Keyword).length) (backTo pos (starEach es env)) (backToKw pos (keywordEach [] env)) = true) (hl : (apos.endLine == pos.line) = true) :
    eval (.Call (.Attribute o name apos) es [] pos) env = (do
      let ov ← eval o env
      standAt apos.atName
      let (f, first) ← holding [ov] (getMethod ov name (do return (← importBound o env).getD true))
      callWith pos f first (backTo pos (starEach es env)) (backToKw pos (keywordEach [] env))) := by
  have e1 : eval (.Call (.Attribute o name apos) es [] pos) env = (do
      let ov ← attributeBase o name env (eval o env)
      standAt apos.atName
      methodCall o name apos pos env ov (es.length + ([] : List Keyword).length) (backTo pos (starEach es env)) (backToKw pos (keywordEach [] env))) := by
    rw [eval]
  rw [e1, hb]
  unfold methodCall calleeOf methodCallPos
  rw [few]
  simp [hl]
theorem few_ok {xs : List Ex} {es : List Expr} (hm : mEs xs C es = true) (hl : es.length < 30) (pos : Pos) (env : PySem.Env) : methodCallForm (es.length + ([] : List Keyword).length) (backTo pos (starEach es env)) (backToKw pos (keywordEach [] env)) = true := by
  have h1 := stars_ok hm pos env
  have h2 : (backTo pos (starEach es env)).all (fun x => !x.1) = true := by
    rw [List.all_eq_not_any_not]
    simp only [Bool.not_not]
    rw [h1]; rfl
  have h3 : backToKw pos (keywordEach [] env) = [] := rfl
  unfold methodCallForm
  rw [h2, h3]
  simpa using hl
/-- the callee's way behind a method's own arguments -/
theorem s_mth (ok : Ok X CA G W C) {o : Ex} {y m key x : Str} {xs : List Ex} {es : List Expr} {q0 ap cp : Pos} (hline : (ap.endLine == cp.line) = true) (hlen : es.length < 30) (h1 : C.ms y m key xs.length = true) (ho : PE X (.Name x q0) (tE X.K CA G W o)) (h : PA X es (tEs X.K CA G W xs)) (hm : mEs xs C es = true) :
    PE X (.Call (.Attribute (.Name x q0) m ap) es [] cp) (tE X.K CA G W (.mth o y m key xs)) := by
  obtain ⟨f, fd, ps, ds, dvs, k, sp, cl, me, F, hr, hb, hd, hsp⟩ := ok.ms y m key xs.length h1
  have hpass := fun σ => passAt (W := W) ok.tk σ
  refine ⟨fun pins s σ H Q I q => ?_⟩
  obtain ⟨S, L, env, g, er, q⟩ := q
  simp only [ev] at q
  -- the receiver, then what stands behind it
  have key1 : tE X.K CA G W o σ H fun v H1 => ∃ a dx gs S1 L1, v = .ref a ∧ H1 a = some (.ins (CA y) dx gs) ∧ gs.lookup m = none ∧ Good X.K CA S1 L1 H1 ∧
      tEs X.K CA G W xs σ H1 fun vs H2 => sp ((v :: vs) ++ dvs) H2 Q (WE W σ) := by
    refine tE.seq g er q fun d S1 L1 H1 v st g1 er1 r1 q1 => ?_
    split at q1
    · rename_i hi
      unfold insOk at hi
      split at hi
      · split at hi
        · rename_i n _ y' fs hg
          obtain ⟨h2, h3⟩ := ba hi
          have h2 := of_decide_eq_true h2
          subst h2
          have r0 := r1
          simp only [RelD] at r1
          obtain ⟨b, hn, rfl⟩ := r1
          obtain ⟨dx, gs, e1, e2, e3, r2⟩ := getI_rel g1 hg hn
          refine ⟨b, dx, gs, S1, L1, rfl, e1, flds_none e3 (by simpa using h3), g1, ?_⟩
          exact ⟨S1, L1, env, g1, er1, q1.bind.len.mono fun ds S2 L2 H2 ⟨hl, st2, g2, q2⟩ vs r2 => hsp (.ref b :: vs) _ S2 L2 H2 σ Q _ g2 (RelDs.cons (r0.step g1 st2) r2) (by simp [hl]) q2⟩
        · cases hi
      · cases hi
    · exact q1.elim
  refine PySem.W.methodCall_KW (thn (ho.run pins s σ H _ I key1) fun u s1 ⟨x1, H1, I1, rx, a, dx, gs, S1, L1, ex, ea, l, g1, q1⟩ => ?_) (meth_eq (base_of (o := .Name x q0) rfl _ _) (few_ok hm hlen cp X.env) hline)
  subst ex
  obtain rfl : u = Value.ref a := rx
  refine getmeth_ok I1 ea cl me l ?_
  cases es with
  | nil =>
    have e0 : xs = [] := by
      cases xs with
      | nil => rfl
      | cons x xs => obtain ⟨e, r, z, _⟩ := mEs_cons hm; cases z
    subst e0
    have q2 : sp ([.ref a] ++ dvs) H1 Q (WE W σ) := by
      obtain ⟨S2, L2, env2, g2, er2, q2⟩ := q1
      simp only [evs] at q2
      exact q2 L2 H1 Step.refl g2 [] RelDs.nil
    exact PySem.W.callWith_K0 (first := [.ref a]) I1.kIn me.kp (run_fnSD (us := [.ref a]) (vs := [.ref a]) (E := WE W) F hr hb hd (hpass σ) I1 (.cons rfl .nil) q2)
  | cons e es =>
    cases xs with
    | nil => have z := mEs_nil hm; cases z
    | cons x xs =>
      obtain ⟨e', r', z, s1', _, s2'⟩ := mEs_cons hm
      cases z
      refine PySem.W.callWith_K (first := [.ref a]) (h₀ := X.base) I1.ok.mod.kin me.kp (thn (h.run cp pins s1 σ H1 _ I1 q1) fun us s2 ⟨vs, H2, I2, r, q2⟩ => ⟨I2.kIn, ?_⟩) (star_of s1' es X.env) (stars_ok s2' cp X.env)
      exact run_fnSD (us := .ref a :: us) (vs := .ref a :: vs) (E := WE W) F hr hb hd (hpass σ) I2 (.cons rfl r) q2
theorem run_mk {pins : List (Addr × Obj)} {s : Shared} {Q : VK} {us : List Value} {vs : List V} {Cl f : Addr} {fd : FuncData} {ps : List Str} {sp : Sp} {k : Nat} {E : L2.St → XK} (M : Mk X.K Cl f) (F : FnOk X.prog X.w X.K X.mg X.base (L2.CX X.prog X.w) k f fd ps sp) (hr : Room (k + 1) X.A) (hb : Binds X.K fd ps [])
    (hx : PassesAt (L2.CX X.prog X.w) X σ (E σ)) (I : Inv X pins σ H s) (r : Vals vs us)
    (h : ∀ x dx, H x = none → H dx = none → dx ≠ x → sp (.ref x :: vs) (upd (upd H dx (.own x)) x (.ins Cl dx [])) (fun v H2 => v = .non ∧ Q (.ref x) H2) (E σ)) :
    wpAny (model X.prog X.w) X.A (call (.ref Cl) us) (EP X pins σ Q) X.xe s := by
  have hq := h (s.heap.objs.size + 1) s.heap.objs.size (I.hok.fresh (Nat.le_succ _)) (I.hok.fresh (Nat.le_refl _)) (Nat.ne_of_lt (Nat.lt_succ_self _))
  have I2 := Inv.made (C := Cl) I
  have r2 : Vals (V.ref (s.heap.objs.size + 1) :: vs) (Value.ref (s.heap.objs.size + 1) :: us) := .cons rfl r
  have hl : ((Value.ref (s.heap.objs.size + 1) :: us) ++ ([] : List Value)).length = ps.length := by
    have e := r2.length
    rw [F.len _ _ _ _ hq] at e
    rw [List.append_nil]
    exact e.symm
  have hbind := hb _ (Value.ref (s.heap.objs.size + 1) :: us) I2.kIn hl
  rw [List.append_nil] at hbind
  refine wpAny_call (make_map (f := f) I.kIn M.makes M.init (beq_iff_eq.mp M.fn) (codeAny_mono (F.run _ X.stack _ _ ⟨Value.ref (s.heap.objs.size + 1) :: us, []⟩ (Value.ref (s.heap.objs.size + 1) :: us) _ _ (E σ) (hr.make Cl us [])
    (I2.env0.make Cl us []) hbind r2 hq) fun r s' hq' => ?_))
  cases r with
  | error e => exact hx pins _ _ e s' I2 hq'
  | ok fl =>
    cases fl with
    | ret u =>
      obtain ⟨v, H', I3, rv, ev, q3⟩ := I2.after hq'
      subst ev
      exact ⟨rv, ⟨V.ref (s.heap.objs.size + 1), H', I3, rfl, q3⟩⟩
    | next => exact False.elim hq'
    | brk => exact False.elim hq'
    | cont => exact False.elim hq'
theorem s_mk (ok : Ok X CA G W C) {y key : Str} {xs : List Ex} {es : List Expr} {q0 p : Pos} (h0 : gloB C.sc y = true) (h2 : nmOk y = true) (h1 : C.mks y key xs.length = true) (h : PA X es (tEs X.K CA G W xs)) (hm : mEs xs C es = true) :
    PE X (.Call (.Name y q0) es [] p) (tE X.K CA G W (.mk y key xs)) := by
  obtain ⟨f, fd, ps, k, sp, M, hmg, F, hr, hb, hsp⟩ := ok.mks y key xs.length h1
  have hpass := fun σ => passAt (W := W) ok.tk σ
  have gl := gl_of ok h0
  have dbg := (nm_of h2).1
  have key1 : ∀ (σ : Sl) (H : Hp) (Q : VK), tE X.K CA G W (.mk y key xs) σ H Q → tEs X.K CA G W xs σ H fun vs H1 => ∀ x dx, H1 x = none → H1 dx = none → dx ≠ x → sp (.ref x :: vs) (upd (upd H1 dx (.own x)) x (.ins (CA y) dx [])) (fun v H2 => v = .non ∧ Q (.ref x) H2) (WE W σ) := by
    rintro σ H Q ⟨S, L, env, g, er, q⟩
    simp only [ev] at q
    refine ⟨S, L, env, g, er, q.bind.len.mono fun ds S1 L1 H1 ⟨hl, st, g1, q1⟩ vs r x dx hx hdx hne => ?_⟩
    obtain ⟨sta, ga⟩ := g1.side (o := .own x) hdx
    have hx2 : upd H1 dx (.own x) x = none := by rw [upd_ne (Ne.symm hne)]; exact hx
    obtain ⟨stb, gb⟩ := ga.alloc (o := .ins (CA y) dx []) (c := .ins y []) hx2 ⟨dx, [], upd_same, by rw [upd_ne hne]; exact upd_same, rfl, RelDs.nil⟩
    have stc := sta.trans stb
    refine hsp (.ref x :: vs) (.ref S1.length :: ds) _ _ _ σ _ _ gb (RelDs.cons ?_ (r.step g1 stc)) (by simp [hl]) ?_
    · simp only [RelD]
      exact ⟨x, by rw [← g1.len, List.getElem?_append_right (Nat.le_refl _)]; simp, rfl⟩
    · refine (Aft.bind (Aft.from stc q1)).mono fun d S2 L2 H2 ⟨st2, g2, q2⟩ v rv => ?_
      unfold madeR at q2
      split at q2
      · simp only [RelD] at rv
        refine ⟨rv, Aft.now g2 q2 ?_⟩
        simp only [RelD]
        exact ⟨x, st2.get (by rw [← g1.len, List.getElem?_append_right (Nat.le_refl _)]; simp), rfl⟩
      · exact q2.elim
  cases es with
  | nil =>
    have e0 : xs = [] := by
      cases xs with
      | nil => rfl
      | cons x xs => obtain ⟨e, r, z, _⟩ := mEs_cons hm; cases z
    subst e0
    refine ⟨fun pins s σ H Q I q => ?_⟩
    have k2 := key1 σ H Q q
    obtain ⟨S2, L2, env2, g2, er2, q2⟩ := k2
    simp only [evs] at q2
    have k3 := q2 L2 H Step.refl g2 [] RelDs.nil
    refine wpAny_Call_Name_kw (ld_glob I gl hmg ?_ dbg)
    exact PySem.W.callWith_K0 I.kIn M.kp (run_mk (us := []) (E := WE W) M F hr hb (hpass σ) I .nil k3)
  | cons e es =>
    cases xs with
    | nil => have z := mEs_nil hm; cases z
    | cons x xs =>
      obtain ⟨e', r', z, s1', _, s2'⟩ := mEs_cons hm
      cases z
      refine ⟨fun pins s σ H Q I q => ?_⟩
      have k2 := key1 σ H Q q
      refine wpAny_Call_Name_kw (ld_glob I gl hmg ?_ dbg)
      refine PySem.W.callWith_K (h₀ := X.base) I.ok.mod.kin M.kp (thn (h.run p pins s σ H _ I k2) fun us s1 ⟨vs, H1, I1, r, q⟩ => ⟨I1.kIn, ?_⟩) (star_of s1' es X.env) (stars_ok s2' p X.env)
      exact run_mk (E := WE W) M F hr hb (hpass σ) I1 r q
end
end Lt
set_option maxHeartbeats 1000000
namespace Lt
open PySem PySem.Spec PyProof.Rows L2
section
variable {X : Cx} {CA : Str → Addr} {G : Cxp} {W : WX} {C : MC} {S S' : Store} {L L1 M2 L' : List Addr} {H H1 H2 H' : Hp} {σ : Sl} {e : Expr}
structure ItOk (K : PySem.W.Frag) (CA : Str → Addr) (J : L2.It) (j : Itr) (P : List Addr → Hp → Prop) : Prop where
  mon : ∀ L H L' H', P L H → Mon L H L' H' → P L' H'
  go : ∀ (i : Nat) S L H x, Good K CA S L H → P L H → j.at_ i S = some x → i < j.n → J.go i H ∧ ∀ v H', J.yld i H v H' → Step L H L H' ∧ Good K CA S L H' ∧ RelD K L H' x v
  stop : ∀ S L H, Good K CA S L H → P L H → j.fin S = true → J.stop j.n H
def tI (K : PySem.W.Frag) (CA : Str → Addr) (G : Cxp) (W : WX) (x : Lt.It) : TI := fun σ H R => ∃ S L e, Good K CA S L H ∧ EnvR K G.pin L H e σ ∧ Aft K CA W σ L H (evI G x e S) fun j _ L' H' => ∀ J P, ItOk K CA J j P → P L' H' → R J H'
/-- a list or a tuple -/
def iSeq (K : PySem.W.Frag) (te : TE) : TI := fun σ H R => te σ H fun x H1 => ∃ a, x = .ref a ∧ (((∃ xs, SqL K H1 a xs) ∧ R (Itl K a) H1) ∨ ((∃ xs, SqT K H1 a xs) ∧ R (Itt K a) H1))
theorem pi_seq {tg : Expr} {te : TE} (he : PE X e te) : PI X tg e (iSeq X.K te) := by
  refine ⟨fun pins s σ H R I q => thn (he.run pins s σ H _ I q) fun u s1 h1 => ?_⟩
  obtain ⟨x, H1, I1, r1, a, rfl, q⟩ := h1
  cases (show u = Value.ref a from r1)
  rcases q with ⟨⟨xs, hq⟩, q⟩ | ⟨⟨xs, hq⟩, q⟩
  · obtain ⟨its, rv, pl, hz⟩ := I1.list hq
    exact wpAny_pyIter_list pl.isList (pi_one (tk := s1.toks) I1 _ (turn_list a _) ⟨_, Heap.get?_push_size _ rfl, rfl, rfl⟩ q)
  · obtain ⟨its, rv, pl, hz⟩ := I1.tuple hq
    exact wpAny_pyIter_tuple (show s1.heap.IsTuple a its.toArray from pl) (pi_one (tk := s1.toks) I1 _ (turn_tuple a _) ⟨_, Heap.get?_push_size _ rfl, rfl, rfl⟩ q)
theorem it_list {a : Addr} {n : Nat} {at_ : Nat → Store → Option D} {fin : Store → Bool} {P : List Addr → Hp → Prop} (mon : ∀ L H L' H', P L H → Mon L H L' H' → P L' H')
    (rd : ∀ S L H i d, Good X.K CA S L H → P L H → at_ i S = some d → ∃ xs vs, SqL X.K H a vs ∧ RelDs X.K L H xs vs ∧ xs[i]? = some d)
    (re : ∀ S L H, Good X.K CA S L H → P L H → fin S = true → ∃ xs vs, SqL X.K H a vs ∧ RelDs X.K L H xs vs ∧ xs.length = n) : ItOk X.K CA (Itl X.K a) ⟨n, at_, fin⟩ P := by
  refine ⟨mon, fun i S L H x g p h _ => ?_, fun S L H g p h => ?_⟩
  · obtain ⟨xs, vs, sq, r, h1⟩ := rd S L H i x g p h
    obtain ⟨v, e1, rv⟩ := r.get h1
    refine ⟨⟨vs, v, sq, e1⟩, fun v' H' y => ?_⟩
    obtain ⟨rfl, y⟩ := y
    have e2 := y vs sq
    rw [e1] at e2; cases e2
    exact ⟨Step.refl, g, rv⟩
  · obtain ⟨xs, vs, sq, r, h2⟩ := re S L H g p h
    exact ⟨vs, sq, by rw [r.length, h2]; exact Nat.le_refl _⟩
theorem it_tup {a : Addr} {n : Nat} {at_ : Nat → Store → Option D} {fin : Store → Bool} {P : List Addr → Hp → Prop} (mon : ∀ L H L' H', P L H → Mon L H L' H' → P L' H')
    (rd : ∀ S L H i d, Good X.K CA S L H → P L H → at_ i S = some d → ∃ xs vs, SqT X.K H a vs ∧ RelDs X.K L H xs vs ∧ xs[i]? = some d)
    (re : ∀ S L H, Good X.K CA S L H → P L H → fin S = true → ∃ xs vs, SqT X.K H a vs ∧ RelDs X.K L H xs vs ∧ xs.length = n) : ItOk X.K CA (Itt X.K a) ⟨n, at_, fin⟩ P := by
  refine ⟨mon, fun i S L H x g p h _ => ?_, fun S L H g p h => ?_⟩
  · obtain ⟨xs, vs, sq, r, h1⟩ := rd S L H i x g p h
    obtain ⟨v, e1, rv⟩ := r.get h1
    refine ⟨⟨vs, v, sq, e1⟩, fun v' H' y => ?_⟩
    obtain ⟨rfl, y⟩ := y
    have e2 := y vs sq
    rw [e1] at e2; cases e2
    exact ⟨Step.refl, g, rv⟩
  · obtain ⟨xs, vs, sq, r, h2⟩ := re S L H g p h
    exact ⟨vs, sq, by rw [r.length, h2]; exact Nat.le_refl _⟩
/-- how a value's list is found again at each turn -/
def Keeps (K : PySem.W.Frag) (d : D) (a : Addr) (L : List Addr) (H : Hp) : Prop := match d with
  | .tup xs => ∃ vs, SqT K H a vs ∧ RelDs K L H xs vs
  | .frt xs => ∃ vs, SqT K H a vs ∧ RelDs K L H xs vs
  | .frl xs => ∃ vs, SqF K H a vs ∧ RelDs K L H xs vs
  | .ref n => L[n]? = some a
  | _ => False
theorem Keeps.mon {d : D} {a : Addr} (h : Keeps X.K d a L H) (m : Mon L H L1 H1) : Keeps X.K d a L1 H1 := by
  cases d with
  | tup xs => obtain ⟨vs, h1, h2⟩ := h; exact ⟨vs, SqT.mon m h1, RelDs.mon m _ _ h2⟩
  | frt xs => obtain ⟨vs, h1, h2⟩ := h; exact ⟨vs, SqT.mon m h1, RelDs.mon m _ _ h2⟩
  | frl xs => obtain ⟨vs, h1, h2⟩ := h; exact ⟨vs, h1.mon m, RelDs.mon m _ _ h2⟩
  | ref n => exact m.get _ _ h
  | _ => exact h
theorem lst_keeps {d : D} {xs : List D} (h : lstOf S d = some xs) {v : V} (r : RelD X.K L H d v) : ∃ a, v = .ref a ∧ Keeps X.K d a L H := by
  cases d <;> simp [lstOf] at h
  · simp only [RelD] at r
    obtain ⟨a, vs, rfl, e, q⟩ := r
    exact ⟨a, rfl, vs, e, q⟩
  · simp only [RelD] at r
    obtain ⟨a, hn, rfl⟩ := r
    exact ⟨a, rfl, hn⟩
theorem keeps_lst (g : Good X.K CA S L H) {d : D} {a : Addr} (k : Keeps X.K d a L H) {xs : List D} (h : lstOf S d = some xs) : ∃ vs, SqL X.K H a vs ∧ RelDs X.K L H xs vs := by
  cases d <;> simp [lstOf] at h
  · subst h
    obtain ⟨vs, h1, h2⟩ := k
    exact ⟨vs, h1.sq, h2⟩
  · obtain ⟨vs, e, r⟩ := getL_rel g h k
    exact ⟨vs, SqL.of e, r⟩
theorem i_seq {tg : Expr} {a : Ex} (ha : PE X e (tE X.K CA G W a)) : PI X tg e (tI X.K CA G W (.seq a)) := by
  refine PI.by_ (pi_seq ha) ?_
  rintro σ H R ⟨S, L, env, g, er, q⟩
  simp only [evI] at q
  refine tE.seq g er q fun d S1 L1 H1 v st g1 er1 r q1 => ?_
  cases hj : seqItr d S1 with
  | none => rw [hj] at q1; exact q1.elim
  | some j =>
    rw [hj] at q1
    have fin := q1 L1 H1 Step.refl g1
    unfold seqItr at hj
    cases hs : seqOf S1 d with
    | none => rw [hs] at hj; cases hj
    | some xs =>
      rw [hs] at hj
      simp only [Option.some.injEq] at hj
      subst hj
      cases d with
      | tup ys =>
        simp only [seqOf, Option.some.injEq] at hs; subst hs
        simp only [RelD] at r
        obtain ⟨b, vs, rfl, sq, rs⟩ := r
        refine ⟨b, rfl, .inr ⟨⟨vs, SqT.of sq⟩, fin _ (fun L H => ∃ vs, SqT X.K H b vs ∧ RelDs X.K L H ys vs) (it_tup (fun L H L' H' ⟨vs, h1, h2⟩ m => ⟨vs, SqT.mon m h1, RelDs.mon m _ _ h2⟩) (fun S L H i d g ⟨vs, h1, h2⟩ h => ⟨ys, vs, h1, h2, ?_⟩) fun S L H g ⟨vs, h1, h2⟩ h => ⟨ys, vs, h1, h2, rfl⟩) ⟨vs, SqT.of sq, rs⟩⟩⟩
        simpa [seqOf] using h
      | frt ys =>
        simp only [seqOf, Option.some.injEq] at hs; subst hs
        simp only [RelD] at r
        obtain ⟨b, vs, rfl, sq, rs⟩ := r
        refine ⟨b, rfl, .inr ⟨⟨vs, sq.sq⟩, fin _ (fun L H => ∃ vs, SqT X.K H b vs ∧ RelDs X.K L H ys vs) (it_tup (fun L H L' H' ⟨vs, h1, h2⟩ m => ⟨vs, SqT.mon m h1, RelDs.mon m _ _ h2⟩) (fun S L H i d g ⟨vs, h1, h2⟩ h => ⟨ys, vs, h1, h2, ?_⟩) fun S L H g ⟨vs, h1, h2⟩ h => ⟨ys, vs, h1, h2, rfl⟩) ⟨vs, sq.sq, rs⟩⟩⟩
        simpa [seqOf] using h
      | frl ys =>
        simp only [seqOf, Option.some.injEq] at hs; subst hs
        simp only [RelD] at r
        obtain ⟨b, vs, rfl, sq, rs⟩ := r
        refine ⟨b, rfl, .inl ⟨⟨vs, sq.sq⟩, fin _ (fun L H => ∃ vs, SqF X.K H b vs ∧ RelDs X.K L H ys vs) (it_list (fun L H L' H' ⟨vs, h1, h2⟩ m => ⟨vs, h1.mon m, RelDs.mon m _ _ h2⟩) (fun S L H i d g ⟨vs, h1, h2⟩ h => ⟨ys, vs, h1.sq, h2, ?_⟩) fun S L H g ⟨vs, h1, h2⟩ h => ⟨ys, vs, h1.sq, h2, rfl⟩) ⟨vs, sq, rs⟩⟩⟩
        simpa [seqOf] using h
      | ref n =>
        simp only [RelD] at r
        obtain ⟨b, hn, rfl⟩ := r
        have hx : getL S1 n = some xs := hs
        obtain ⟨vs, e1, rs⟩ := getL_rel g1 hx hn
        refine ⟨b, rfl, .inl ⟨⟨vs, SqL.of e1⟩, fin _ (fun L H => L[n]? = some b) (it_list (fun L H L' H' h m => m.get _ _ h) (fun S L H i d g hn h => ?_) fun S L H g hn h => ?_) hn⟩⟩
        · simp only [seqOf] at h
          cases hy : getL S n with
          | none => rw [hy] at h; cases h
          | some ys =>
            rw [hy] at h
            obtain ⟨ws, e2, rt⟩ := getL_rel g hy hn
            dsimp only at h
            split at h
            · exact ⟨ys, ws, SqL.of e2, rt, h⟩
            · cases h
        · simp only [seqOf] at h
          cases hy : getL S n with
          | none => rw [hy] at h; cases h
          | some ys =>
            rw [hy] at h
            obtain ⟨ws, e2, rt⟩ := getL_rel g hy hn
            exact ⟨ys, ws, SqL.of e2, rt, of_decide_eq_true h⟩
      | _ => simp [seqOf] at hs
/-- a list by its value, however it is walked -/
theorem lst_at {d : D} {f : Nat → Nat → Nat} {w : Nat → D → D} {j : Itr} (h : lstItr d S f w = some j) : ∃ xs, lstOf S d = some xs ∧ j.n = xs.length ∧ (∀ i S' x, j.at_ i S' = some x → ∃ ys y, lstOf S' d = some ys ∧ ys.length = xs.length ∧ ys[f xs.length i]? = some y ∧ x = w i y) ∧ ∀ S', j.fin S' = true → ∃ ys, lstOf S' d = some ys ∧ ys.length = xs.length := by
  unfold lstItr at h
  split at h
  · rename_i xs hx
    cases h
    refine ⟨xs, hx, rfl, fun i S' x hi => ?_, fun S' hf => ?_⟩
    · dsimp only at hi
      split at hi
      · rename_i ys hy
        split at hi
        · rename_i hl
          rw [Option.map_eq_some_iff] at hi
          obtain ⟨y, e, rfl⟩ := hi
          exact ⟨ys, y, hy, hl, e, rfl⟩
        · cases hi
      · cases hi
    · dsimp only at hf
      split at hf
      · rename_i ys hy
        exact ⟨ys, hy, of_decide_eq_true hf⟩
      · cases hf
  · cases h
theorem i_rvd (ok : Ok X CA G W C) {tg l : Expr} {a : Ex} {q p : Pos} (h1 : gloB C.sc "reversed" = true) (hs : notSt l = true) (ha : PE X l (tE X.K CA G W a)) : PI X tg (.Call (.Name "reversed" q) [l] [] p) (tI X.K CA G W (.rvd a)) := by
  refine PI.by_ (pi_reversed (gl_of ok h1) (ok.free _ (by decide +kernel)) (pa_cons ha pa_nil (star_of hs [] X.env)) (star_of hs [] X.env)) ?_
  rintro σ H R ⟨S, L, env, g, er, q⟩
  simp only [evI] at q
  refine tE.seq g er q fun d S1 L1 H1 v st g1 er1 r q1 => ?_
  cases hj : lstItr d S1 (fun n i => n - 1 - i) (fun _ d => d) with
  | none => rw [hj] at q1; exact q1.elim
  | some j =>
    rw [hj] at q1
    have fin := q1 L1 H1 Step.refl g1
    obtain ⟨xs, hx, en, hat, hfin⟩ := lst_at hj
    obtain ⟨b, rfl, k⟩ := lst_keeps hx r
    obtain ⟨vs, sq, rs⟩ := keeps_lst g1 k hx
    refine ⟨b, vs, rfl, sq, fin _ (Keeps X.K d b) ⟨fun L H L' H' h m => h.mon m, fun i S L H x g k h hi => ?_, fun S L H g k h => by show vs.length ≤ j.n; rw [en, rs.length]; exact Nat.le_refl _⟩ k⟩
    obtain ⟨ys, y, hy, hl, e, rfl⟩ := hat i S x h
    obtain ⟨ws, sw, rw_⟩ := keeps_lst g k hy
    obtain ⟨v, e1, rv⟩ := rw_.get e
    rw [rs.length]
    refine ⟨⟨by rw [← en]; exact hi, ws, v, sw, e1⟩, fun v' H' z => ?_⟩
    obtain ⟨rfl, z⟩ := z
    have e2 := z ws sw
    rw [e1] at e2; cases e2
    exact ⟨Step.refl, g, rv⟩
theorem i_enm (ok : Ok X CA G W C) {tg l : Expr} {a : Ex} {q p : Pos} (ht : isTupE tg = true) (h1 : gloB C.sc "enumerate" = true) (hs : notSt l = true) (ha : PE X l (tE X.K CA G W a)) : PI X tg (.Call (.Name "enumerate" q) [l] [] p) (tI X.K CA G W (.enm a)) := by
  cases tg <;> try (exact absurd ht Bool.false_ne_true)
  refine PI.by_ (pi_enum (gl_of ok h1) (ok.free _ (by decide +kernel)) (pa_cons ha pa_nil (star_of hs [] X.env)) (star_of hs [] X.env)) ?_
  rintro σ H R ⟨S, L, env, g, er, q⟩
  simp only [evI] at q
  refine tE.seq g er q fun d S1 L1 H1 v st g1 er1 r q1 => ?_
  cases hj : lstItr d S1 (fun _ i => i) (fun i d => .tup [.int i, d]) with
  | none => rw [hj] at q1; exact q1.elim
  | some j =>
    rw [hj] at q1
    have fin := q1 L1 H1 Step.refl g1
    obtain ⟨xs, hx, en, hat, hfin⟩ := lst_at hj
    obtain ⟨b, rfl, k⟩ := lst_keeps hx r
    obtain ⟨vs, sq, rs⟩ := keeps_lst g1 k hx
    refine ⟨b, vs, rfl, sq, fin _ (Keeps X.K d b) ⟨fun L H L' H' h m => h.mon m, fun i S L H x g k h hi => ?_, fun S L H g k h => ?_⟩ k⟩
    · obtain ⟨ys, y, hy, hl, e, rfl⟩ := hat i S x h
      obtain ⟨ws, sw, rw_⟩ := keeps_lst g k hy
      obtain ⟨v, e1, rv⟩ := rw_.get e
      refine ⟨⟨ws, v, sw, e1⟩, fun v' H' z => ?_⟩
      obtain ⟨T, x, rfl, hT, rfl, z⟩ := z
      have e2 := z ws sw
      rw [e1] at e2; cases e2
      obtain ⟨st2, g2⟩ := g.side (o := .tup [.int (i : Nat), v]) hT
      refine ⟨st2, g2, ?_⟩
      simp only [RelD]
      exact ⟨T, _, rfl, upd_same, RelDs.cons (by simp [RelD]) (RelDs.cons (rv.step g st2) RelDs.nil)⟩
    · obtain ⟨ys, hy, hl⟩ := hfin S h
      obtain ⟨ws, sw, rw_⟩ := keeps_lst g k hy
      exact ⟨ws, sw, by rw [rw_.length, hl, en]; exact Nat.le_refl _⟩
theorem rng_it {lo hi : Int} {j : Itr} (h : rngItr lo hi = some j) : (-(2 ^ 62) ≤ lo ∧ lo < 2 ^ 62 ∧ -(2 ^ 62) ≤ hi ∧ hi < 2 ^ 62) ∧ ItOk X.K CA (L2.Itr lo (hi - lo).toNat) j fun _ _ => True := by
  unfold rngItr at h
  split at h
  · rename_i hb
    cases h
    refine ⟨hb, fun _ _ _ _ _ _ => True.intro, fun i S L H x g _ h hi => ⟨hi, fun v H' y => ?_⟩, fun S L H g _ _ => Nat.le_refl _⟩
    obtain ⟨rfl, rfl⟩ := y
    dsimp only at h
    cases h
    exact ⟨Step.refl, g, by simp [RelD]⟩
  · cases h
theorem i_rng (ok : Ok X CA G W C) {tg l : Expr} {a : Ex} {q p : Pos} (h1 : gloB C.sc "range" = true) (hs : notSt l = true) (ha : PE X l (tE X.K CA G W a)) : PI X tg (.Call (.Name "range" q) [l] [] p) (tI X.K CA G W (.rng a)) := by
  refine PI.by_ (pi_range1 (gl_of ok h1) (ok.free _ (by decide +kernel)) (pa_cons ha pa_nil (star_of hs [] X.env)) (star_of hs [] X.env)) ?_
  rintro σ H R ⟨S, L, env, g, er, q⟩
  simp only [evI] at q
  refine tE.seq g er q fun d S1 L1 H1 v st g1 er1 r q1 => ?_
  split at q1
  · rename_i k
    split at q1
    · rename_i j hj
      obtain ⟨⟨_, _, b1, b2⟩, io⟩ := rng_it (X := X) (CA := CA) hj
      simp only [RelD] at r; subst r
      refine ⟨k, rfl, b1, b2, ?_⟩
      have := q1 L1 H1 Step.refl g1 _ _ io True.intro
      simpa using this
    · exact q1.elim
  · exact q1.elim
theorem i_rng2 (ok : Ok X CA G W C) {tg l m : Expr} {a b : Ex} {q p : Pos} (h1 : gloB C.sc "range" = true) (hs : notSt l = true) (hs2 : notSt m = true) (ha : PE X l (tE X.K CA G W a)) (hb : PE X m (tE X.K CA G W b)) :
    PI X tg (.Call (.Name "range" q) [l, m] [] p) (tI X.K CA G W (.rng2 a b)) := by
  refine PI.by_ (pi_range2 (gl_of ok h1) (ok.free _ (by decide +kernel)) (pa_cons ha (pa_cons hb pa_nil (star_of hs2 [] X.env)) (star_of hs _ X.env)) (by rw [star_of hs, star_of hs2]; rfl) (star_of hs2 [] X.env)) ?_
  rintro σ H R ⟨S, L, env, g, er, q⟩
  simp only [evI] at q
  refine tE.seq g er q fun d S1 L1 H1 v st g1 er1 r q1 => tE.seq g1 er1 q1 fun d2 S2 L2 H2 v2 st2 g2 er2 r2 q2 => ?_
  split at q2
  · rename_i k1 k2
    split at q2
    · rename_i j hj
      obtain ⟨⟨b1, b2, b3, b4⟩, io⟩ := rng_it (X := X) (CA := CA) hj
      simp only [RelD] at r r2; subst r r2
      exact ⟨k1, k2, rfl, ⟨b1, b2, b3, b4⟩, q2 L2 H2 Step.refl g2 _ _ io True.intro⟩
    · exact q2.elim
  · exact q2.elim
theorem zip_at {x y : D} {j : Itr} (h : zipItr x y S = some j) : ∃ xs ys, lstOf S x = some xs ∧ lstOf S y = some ys ∧ j.n = min xs.length ys.length ∧ (∀ i S' d, j.at_ i S' = some d → ∃ xs' ys' u v, lstOf S' x = some xs' ∧ lstOf S' y = some ys' ∧ xs'[i]? = some u ∧ ys'[i]? = some v ∧ d = .tup [u, v]) ∧ ∀ S', j.fin S' = true → ∃ xs' ys', lstOf S' x = some xs' ∧ lstOf S' y = some ys' ∧ xs'.length = xs.length ∧ ys'.length = ys.length := by
  unfold zipItr at h
  split at h
  · rename_i xs ys hx hy
    cases h
    refine ⟨xs, ys, hx, hy, rfl, fun i S' d hi => ?_, fun S' hf => ?_⟩
    · dsimp only at hi
      split at hi
      · rename_i xs' ys' hx' hy'
        split at hi
        · split at hi
          · rename_i u v hu hv
            cases hi
            exact ⟨xs', ys', u, v, hx', hy', hu, hv, rfl⟩
          · cases hi
        · cases hi
      · cases hi
    · dsimp only at hf
      split at hf
      · rename_i xs' ys' hx' hy'
        have := of_decide_eq_true hf
        exact ⟨xs', ys', hx', hy', this.1, this.2⟩
      · cases hf
  · cases h
theorem i_zip (ok : Ok X CA G W C) {tg l m : Expr} {a b : Ex} {q p : Pos} (ht : isTupE tg = true) (h1 : gloB C.sc "zip" = true) (hs : notSt l = true) (hs2 : notSt m = true) (ha : PE X l (tE X.K CA G W a)) (hb : PE X m (tE X.K CA G W b)) :
    PI X tg (.Call (.Name "zip" q) [l, m] [] p) (tI X.K CA G W (.zip a b)) := by
  cases tg <;> try (exact absurd ht Bool.false_ne_true)
  refine PI.by_ (pi_zip (gl_of ok h1) (ok.free _ (by decide +kernel)) (pa_cons ha (pa_cons hb pa_nil (star_of hs2 [] X.env)) (star_of hs _ X.env)) (star_of hs _ X.env) (by rw [star_of hs2]; rfl)) ?_
  rintro σ H R ⟨S, L, env, g, er, q⟩
  simp only [evI] at q
  refine tE.seq g er q fun d S1 L1 H1 v st g1 er1 r q1 => tE.seq g1 er1 q1 fun d2 S2 L2 H2 v2 st2 g2 er2 r2 q2 => ?_
  cases hj : zipItr d d2 S2 with
  | none => rw [hj] at q2; exact q2.elim
  | some j =>
    rw [hj] at q2
    have fin := q2 L2 H2 Step.refl g2
    obtain ⟨xs, ys, hx, hy, en, hat, hfin⟩ := zip_at hj
    obtain ⟨a1, rfl, k1⟩ := lst_keeps hx (r.step g1 st2)
    obtain ⟨a2, rfl, k2⟩ := lst_keeps hy r2
    obtain ⟨vs, sq, rs⟩ := keeps_lst g2 k1 hx
    obtain ⟨ws, sw, rw_⟩ := keeps_lst g2 k2 hy
    refine ⟨a1, a2, vs, ws, rfl, sq, sw, fin _ (fun L H => Keeps X.K d a1 L H ∧ Keeps X.K d2 a2 L H) ⟨fun L H L' H' h m => ⟨h.1.mon m, h.2.mon m⟩, fun i S L H x g k h hi => ?_, fun S L H g k h => ?_⟩ ⟨k1, k2⟩⟩
    · obtain ⟨xs', ys', u, v, hx', hy', hu, hv, rfl⟩ := hat i S x h
      obtain ⟨vs', sq', rs'⟩ := keeps_lst g k.1 hx'
      obtain ⟨ws', sw', rw'⟩ := keeps_lst g k.2 hy'
      obtain ⟨v1, e1, r1⟩ := rs'.get hu
      obtain ⟨v2, e2, r2⟩ := rw'.get hv
      refine ⟨⟨vs', ws', v1, v2, sq', sw', e1, e2⟩, fun v' H' z => ?_⟩
      obtain ⟨T, x1, x2, rfl, hT, rfl, z1, z2⟩ := z
      have f1 := z1 vs' sq'
      have f2 := z2 ws' sw'
      rw [e1] at f1; cases f1
      rw [e2] at f2; cases f2
      obtain ⟨st3, g3⟩ := g.side (o := .tup [v1, v2]) hT
      refine ⟨st3, g3, ?_⟩
      simp only [RelD]
      exact ⟨T, _, rfl, upd_same, RelDs.cons (r1.step g st3) (RelDs.cons (r2.step g st3) RelDs.nil)⟩
    · obtain ⟨xs', ys', hx', hy', l1, l2⟩ := hfin S h
      obtain ⟨vs', sq', rs'⟩ := keeps_lst g k.1 hx'
      obtain ⟨ws', sw', rw'⟩ := keeps_lst g k.2 hy'
      refine ⟨vs', ws', sq', sw', ?_⟩
      rw [en, rs'.length, rw'.length, l1, l2]
      omega
end
end Lt
set_option maxHeartbeats 1000000
namespace Lt
open PySem PySem.Spec PyProof.Rows L2
section
variable {X : Cx} {CA : Str → Addr} {G : Cxp} {W : WX} {C : MC} {S S' : Store} {L L1 M2 L' : List Addr} {H H1 H2 H' : Hp} {σ σ' : Sl} {e : Expr}
abbrev W0 : WX := fun _ _ _ _ => False
theorem Ok.blk (ok : Ok X CA G W C) (hcd : cold C = true) (sc : Scope) (hk : sc.kind = .function) (s : Shared) (H : Hp) (cd : Addr) (cl : List (Str × Addr)) (fp : List Addr) :
    Ok (X.blk s H sc (compEnvC sc cl cd X.env) fp) CA G W0 (C.blk sc) where
  cal := fun _ => ok.calm hcd
  nm := ok.nm
  nd := ok.nd
  sc := by
    show relabel sc X.env = relS sc C.sc
    rw [← ok.sc]
    rfl
  kind := hk
  tk := takes0
  un := ok.un
  pas := fun _ => PassesOwn.never
  free := ok.free
  fn := fun h => by cases h
  glo := ok.glo
  call := ok.call
  fl := ok.fl
  ms := ok.ms
  mks := ok.mks
  xc := ok.xc
  sb := ok.sb
  fr := fun h => by cases h
  stk := fun h => by cases h
  xo := fun x h => by cases h
  xi := ok.xi
  xf := ok.xf
  tc := fun h => by cases h
  xsc := ok.xsc
  xoc := fun x h => by cases h
  hot := ok.hot
  hotx := fun i a o h => by rw [ok.nopin hcd] at h; cases h
theorem Aft.bindX {α β : Type} {r : R α} {k : α → Store → R β} {P : β → Store → List Addr → Hp → Prop} (h : Aft X.K CA W σ L H (r.bindX k) P) : Aft X.K CA W0 σ' L1 H1 r fun a S1 _ _ => Aft X.K CA W σ L H (k a S1) P := by
  cases r with
  | ok a S1 => exact fun _ _ _ _ => h
  | exc c S1 => exact h.elim
  | bad => exact h
theorem bindX_bind {α β γ : Type} (r : R α) (k : α → Store → R β) (k2 : β → Store → R γ) : (r.bindX k).bind k2 = r.bindX fun a S => (k a S).bind k2 := by
  cases r <;> rfl
theorem Step.side (st : Step L H L1 H1) {D : Addr} {o : HO} (h : H D = some o) (hn : D ∉ L) : H1 D = some o ∧ D ∉ L1 :=
  ⟨st.keep D o h hn, fun hm => by
    rcases st.fresh D hm with z | z
    · exact hn z
    · rw [h] at z; cases z⟩
/-- a list that stood aside becomes a cell -/
theorem Good.adopt (g : Good X.K CA S L H) {D : Addr} {vs : List V} {ds : List Lt.D} (e : H D = some (.lst vs)) (hn : D ∉ L) (r : RelDs X.K L H ds vs) : Good X.K CA (S ++ [.lst ds]) (L ++ [D]) H := by
  have m : Mon L H (L ++ [D]) H := ⟨fun n a h => by rw [List.getElem?_append_left (List.getElem?_eq_some_iff.mp h).1]; exact h, fun _ _ h _ => h⟩
  refine ⟨by simp [g.len], ?_, fun n c' a h1 h2 => ?_⟩
  · rw [List.nodup_append]
    refine ⟨g.nd, by simp, fun x hx y hy => ?_⟩
    rw [List.mem_singleton] at hy
    subst hy
    exact fun e => hn (e ▸ hx)
  · by_cases hlt : n < S.length
    · rw [List.getElem?_append_left hlt] at h1
      rw [List.getElem?_append_left (by rw [g.len]; exact hlt)] at h2
      exact (g.cell n c' a h1 h2).mon m rfl fun _ h => h
    · have en : n = S.length := by
        have := (List.getElem?_eq_some_iff.mp h1).1
        simp at this; omega
      subst en
      rw [List.getElem?_append_right (Nat.le_refl _)] at h1
      rw [List.getElem?_append_right (by rw [g.len]; exact Nat.le_refl _)] at h2
      simp at h1
      simp [g.len] at h2
      subst h1 h2
      exact ⟨vs, e, RelDs.mon m _ _ r⟩
theorem wipe_get (σ : Sl) (j : Nat) : ∀ vs : List Nat, (L2.wipe σ vs)[j]? = if j ∈ vs then (if j < σ.length then some none else none) else σ[j]?
  | [] => by simp [L2.wipe]
  | v :: vs => by
    unfold L2.wipe
    by_cases h : j = v
    · subst h
      by_cases hl : j < σ.length
      · rw [List.getElem?_set_self (by rw [L2.wipe_length]; exact hl)]; simp [hl]
      · rw [List.getElem?_eq_none (by simp [L2.wipe_length]; omega)]; simp [hl]
    · rw [List.getElem?_set_ne (Ne.symm h), wipe_get σ j vs]
      simp [h]
theorem wipe_same {is own : List Nat} (so : SameOut is (L2.wipe σ own) σ') (hs : ∀ i ∈ is, i ∈ own) : L2.wipe σ' own = L2.wipe σ own := by
  have hl : σ'.length = σ.length := so.1.trans (L2.wipe_length σ own)
  refine List.ext_getElem? fun j => ?_
  rw [wipe_get, wipe_get, hl]
  by_cases h : j ∈ own
  · simp [h]
  · rw [if_neg h, if_neg h, so.2 j fun z => h (hs j z), wipe_get, if_neg h]
/-- what a comprehension's test reads -/
def tCond (K : PySem.W.Frag) (CA : Str → Addr) (G : Cxp) : Option Ex → TT
  | none => fun _ H k => k true H
  | some c => tT K CA G W0 c
def cEv (G : Cxt) : Option Ex → Option (Env → Store → R D)
  | none => none
  | some c => some (ev G c)
theorem lc_read (hp0 : G.pin = none) {own : List Nat} {t : Tg} {it : Lt.It} {c : Option Ex} {el : Ex} (hs : ∀ i ∈ tsl t, i ∈ own) {env : Env} (g : Good X.K CA S L H) (er : EnvR X.K G.pin L H env σ) {Q : VK}
    (q : Aft X.K CA W σ L H ((evI G it env S).bind fun j S => (lcGo t j (cEv G c) (ev G el) (wipeE env own) j.n 0 [] S).bind fun ds S => alloc (.lst ds) S) fun d _ L' H' => ∀ v, RelD X.K L' H' d v → Q v H') :
    tLc (tI X.K CA G W it) (tG X.K CA G.pin t) (tCond X.K CA G c) (tE X.K CA G W0 el) own σ H Q := by
  refine ⟨S, L, env, g, er, q.bind.mono fun j S0 L0 H0 ⟨st0, g0, q0⟩ J P io p0 => fun D hD => ?_⟩
  have er0 := er.step g st0
  let Wf : Nat → Nat → Hp → Prop := fun i m Hc => ∃ S L acc vs, Step L0 H0 L Hc ∧ Good X.K CA S L Hc ∧ P L Hc ∧ Hc D = some (.lst vs) ∧ D ∉ L ∧ RelDs X.K L Hc acc vs ∧ i + m = j.n ∧ EnvR X.K G.pin L Hc (wipeE env own) (L2.wipe σ own) ∧
    Aft X.K CA W σ L0 H0 ((lcGo t j (cEv G c) (ev G el) (wipeE env own) m i acc S).bind fun ds S => alloc (.lst ds) S) fun d _ L' H' => ∀ v, RelD X.K L' H' d v → Q v H'
  refine ⟨Wf, ⟨j.n, ?_⟩, ?_⟩
  · obtain ⟨st1, g1⟩ := g0.side (o := .lst []) hD
    exact ⟨S0, L0, [], [], st1, g1, io.mon _ _ _ _ p0 (st1.mon g0), upd_same, g0.fresh hD, RelDs.nil, by omega, (er0.step g0 st1).wipe hp0 own, q0⟩
  · rintro i m Hc ⟨S, L, acc, vs, st, g, p, hd, hn, rs, em, ec, q⟩
    cases m with
    | zero =>
      left
      simp only [lcGo] at q
      split at q
      · rename_i hf
        have ei : i = j.n := by omega
        subst ei
        refine ⟨io.stop S L Hc g p hf, ?_⟩
        have hD0 : H0 D = none := by
          cases z : H0 D with
          | none => rfl
          | some o => rw [hD] at z; cases z
        have g2 := g.adopt hd hn rs
        have st2 : Step L0 H0 (L ++ [D]) Hc := by
          obtain ⟨M, rfl⟩ := st.ext
          refine ⟨⟨M ++ [D], by simp⟩, fun a ha => ?_, st.keep⟩
          rcases List.mem_append.mp ha with h | h
          · exact st.fresh a h
          · rw [List.mem_singleton] at h; subst h; exact .inr hD0
        refine q _ _ st2 g2 (.ref D) ?_
        simp only [RelD]
        exact ⟨D, by rw [← g.len, List.getElem?_append_right (Nat.le_refl _)]; simp, rfl⟩
      · exact q.elim
    | succ k =>
      right
      simp only [lcGo] at q
      split at q
      · exact q.elim
      · rename_i d hat
        split at q
        · exact q.elim
        · rename_i e1 hb
          obtain ⟨hgo, hy⟩ := io.go i S L Hc d g p hat (by omega)
          refine ⟨hgo, Wf (i + 1) k, fun H' w => ⟨k, Nat.lt_succ_self k, w⟩, fun x H' y => ?_⟩
          obtain ⟨st1, g1, rd⟩ := hy x H' y
          refine ⟨S, L, _, d, e1, g1, ec.step g st1, rd, hb, fun σ2 er2 so => ⟨wipe_same so hs, ?_⟩⟩
          -- one more item
          have put : ∀ {S3 : Store} {L3 : List Addr} {H3 : Hp}, Step L H' L3 H3 → Good X.K CA S3 L3 H3 →
              Aft X.K CA W σ L0 H0 ((ev G el e1 S3).bindX fun y S2 => (if acc.length < lim then lcGo t j (cEv G c) (ev G el) (wipeE env own) k (i + 1) (acc ++ [y]) S2 else .bad).bind fun ds S => alloc (.lst ds) S) (fun d _ L' H' => ∀ v, RelD X.K L' H' d v → Q v H') →
              tE X.K CA G W0 el σ2 H3 fun y H4 => ∃ acc, H4 D = some (.lst acc) ∧ acc.length < sizeLine ∧ Wf (i + 1) k (upd H4 D (.lst (acc ++ [y]))) := by
            intro S3 L3 H3 st3 g3 q3
            refine ⟨S3, L3, e1, g3, er2.step g1 st3, (Aft.bindX (σ' := σ2) (L1 := L3) (H1 := H3) q3).more.mono fun y S4 L4 H4 ⟨st4, g4, q4⟩ v rv => ?_⟩
            split at q4
            · rename_i hz
              have sA := (st.trans (st1.trans (st3.trans st4)))
              have sB : Step L Hc L4 H4 := st1.trans (st3.trans st4)
              obtain ⟨hd4, hn4⟩ := sB.side hd hn
              obtain ⟨m5, g5⟩ := g4.other (ys := vs ++ [v]) hn4 hd4
              refine ⟨vs, hd4, by rw [rs.length]; exact small (Nat.le_of_lt hz), S4, L4, acc ++ [y], vs ++ [v], ?_, g5, io.mon _ _ _ _ (io.mon _ _ _ _ p (sB.mon g)) m5, upd_same, hn4, ?_, by omega, (ec.step g sB).mon m5, q4⟩
              · refine ⟨sA.ext, sA.fresh, fun a o h1 h2 => ?_⟩
                rw [upd_ne (by intro z; subst z; rw [hD] at h1; cases h1)]
                exact sA.keep a o h1 h2
              · exact RelDs.append (RelDs.mon m5 _ _ (rs.step g sB)) (RelDs.cons (RelD.mon m5 _ _ rv) RelDs.nil)
            · exact q4.elim
          cases c with
          | none =>
            simp only [cEv] at q
            rw [bindX_bind] at q
            exact iteT (B := Wf (i + 1) k H') (put Step.refl g1 q)
          | some c =>
            simp only [cEv] at q
            rw [bindX_bind] at q
            refine ⟨S, L, e1, g1, er2, (Aft.bindX (σ' := σ2) (L1 := L) (H1 := H') q).more.mono fun b S3 L3 H3 ⟨st3, g3, q3⟩ => ?_⟩
            split at q3
            · rw [bindX_bind] at q3
              exact ⟨true, rfl, iteT (put st3 g3 q3)⟩
            · refine ⟨false, rfl, iteF ?_⟩
              have sB : Step L Hc L3 H3 := st1.trans st3
              obtain ⟨hd4, hn4⟩ := sB.side hd hn
              exact ⟨S3, L3, acc, vs, st.trans sB, g3, io.mon _ _ _ _ p (sB.mon g), hd4, hn4, rs.step g sB, by omega, ec.step g sB, q3⟩
            · exact q3.elim
end
end Lt
set_option maxRecDepth 100000
set_option maxHeartbeats 4000000
namespace Lt
open PySem PySem.Spec PySem.W PySem.Calls PyProof.Rows
section
variable {prog : Program} {w : World} {A : Around} {E : Value → Shared → Prop} {s : Shared} {K : PySem.W.Frag} {x D : Addr} {ox : Obj} {od : Option Obj}
theorem find_data {C : Addr} {name : Str} {a g : Value} (hc : (clsIn K C).isSome = true) (ha : findIn K (.ref C) name = some (some a)) (hg : specialIn K a "__get__" = some (some g)) (ht : takesIn K a = some true) : findObj K C od name = some (.bind g a) := by
  obtain ⟨cd, hc⟩ := Option.isSome_iff_exists.mp hc
  unfold findObj
  rw [hc, Option.bind_some, ha, Option.bind_some]
  simp [hg, ht]
theorem cls_of {Q : Option Value → Shared → Prop} (Z : L2.ExcC K D) (X : K.In s.heap) (I : PySem.W.InstAt s.heap x ox D od) (h : Q (some (.ref D)) { s with toks := s.toks + 1 }) : wpAny (model prog w) A (getAttr? (.ref x) "__class__") Q E s := by
  obtain ⟨hga, hgt, hsub, hdct, ha, hn, htk, hm⟩ := Z
  have hf : findObj K D od "__class__" = some (.bind (.builtin "getset_descriptor.__get__") (.builtin "object.__class__")) := find_data (by obtain ⟨cd, hc, _⟩ := any_some hdct; rw [hc]; rfl) ha hn htk
  obtain ⟨hp, g, d, t, os⟩ := s
  have L0 := I.type (M := model prog w)
  have L1 := looks_findIn (M := model prog w) X hga
  have L2 := looks_findIn (M := model prog w) X hgt
  have L3 := looks_find (M := model prog w) X I hf
  have sub : Looks (model prog w) hp (isInstance (.ref x) (.type "BaseException")) true := L0.andThen (looks_subIn X hsub)
  have hx0 : (false && onTheHeap (Value.builtin "BaseException.__getattribute__")) = false := rfl
  have hx2 : (Value.builtin "BaseException.__getattribute__" == Value.builtin "object.__getattribute__") = false := by decide +kernel
  have hx1 : (onTheHeap (Value.ref D) && Value.builtin "BaseException.__getattribute__" == Value.builtin "object.__getattribute__") = false := by rw [hx2]; rfl
  unfold getAttr? getAttrBy? getAttrBy
  refine wpAny_bind (wpAny_mkText (wpAny_bind (wpAny_attempt (wpAny_holding (wpAny_bind (L0.at (wpAny_bind (L1.at ?_))))))))
  show wpAny _ _ (if (onTheHeap (Value.ref D) && Value.builtin "BaseException.__getattribute__" == Value.builtin "object.__getattribute__") = true then _ else _) _ _ _
  rw [hx1, if_neg Bool.false_ne_true]
  unfold getAttrByItsOwn hookBefore
  refine wpAny_bind ?_
  rw [if_pos (show onTheHeap (Value.ref D) = true from rfl)]
  refine L2.at ?_
  refine wpAny_bind (wpAny_attempt (wpAny_holding ?_))
  unfold callGetattribute
  rw [hx0, if_neg Bool.false_ne_true]
  unfold boundAndCalled
  rw [PySem.F.excAttr_ValueError.ga.bind (.ref x)]
  refine wpAny_bind (wpAny_pure ?_)
  show wpAny _ _ (call (.builtin "BaseException.__getattribute__") [.ref x, .str "__class__" t]) _ _ _
  refine wpAny_call (codeAny_call_builtin PySem.F.excAttr_ValueError.ga.plain PySem.F.entry_bexc_ga ?_)
  refine @check_slot (model prog w) _ _ ⟨hp, g, d, t + 1, os⟩ "BaseException.__getattribute__" "BaseException" "__getattribute__" (.ref x) [.str "__class__" t] [] _ (by decide +kernel) (by decide +kernel) sub (PySem.F.args_bexc_ga (.ref x) (.str "__class__" t)) ?_
  unfold Builtin.«object.__getattribute__»
  refine wpAny_bind (wpAny_of_eq (a := ((Value.ref x : Value), [Value.str "__class__" t])) (by first | rfl | (simp only [slotArgs]; rfl)) ?_)
  refine wpAny_bind (wpAny_pure (wpAny_bind (L0.at (wpAny_bind (L3.at ?_)))))
  show wpAny _ _ (holding [Value.builtin "object.__class__"] (call (.builtin "getset_descriptor.__get__") [.builtin "object.__class__", .ref x, .ref D]) >>= ret) _ _ _
  refine wpAny_bind (wpAny_holding (wpAny_call (class_get (s := ⟨hp, g, d, t + 1, os⟩) (ox := ox) (od := od) X I hm ?_)))
  refine wpAny_pure ?_
  show wpAny _ _ (handedOut (.ref D)) _ _ _
  rw [handedOut_of (v := .ref D) rfl]
  first
    | exact wpAny_pure (wpAny_pure h)
    | exact wpAny_pure h
    | exact wpAny_pure (wpAny_bind (wpAny_pure (wpAny_pure h)))
theorem kitx_exc (Z : L2.ExcC K D) : KitX K (.ref x) (.ref D) (fun h => ∃ od, PySem.W.InstAt h x ox D od) where
  ty := fun _ _ _ ⟨_, I⟩ => I.type
  it := fun _ _ X _ => by
    obtain ⟨cdD, hcD, _⟩ := any_some Z.hd
    unfold clsIn at hcD
    split at hcD
    · rename_i c' d' cd' sl' ho
      intro A' Q' E' s' k q
      unfold isType loadHead
      exact wpAny_bind (wpAny_loadPart (k _ _ (X _ _ ho)) (wpAny_pure q))
    · cases hcD
  ne := fun h tp dd its n sl X htp => by
    obtain ⟨cdD, hcD, _⟩ := any_some Z.hd
    refine Bool.eq_false_iff.mpr fun q => ?_
    have e : D = tp := Value.ref.inj (beq_iff_eq.mp q)
    subst e
    unfold clsIn at hcD
    split at hcD
    · rename_i c' d' cd' sl' ho
      have z := (X _ _ ho).symm.trans htp
      cases z
    · cases hcD
  ca := fun X ⟨_, I⟩ k => cls_of Z X I k
end
open L2
/-- isinstance(e, c), e the error that the suite holds -/
def rIsH (K : PySem.W.Frag) (D a : Addr) (dd : Option Addr) : List V → Hp → VK → Prop := fun xs H Q => ∃ (c : V) (cv : Value) (b : Bool), xs = [.ref a, c] ∧ (∀ u, RelV c u → u = cv) ∧ PySem.W.kitOne K (.ref D) cv = some b ∧ (∀ d, dd = some d → ∃ fs, H d = some (.xd fs)) ∧ Q (.bl b) H
theorem call_isH {X : Cx} {a D : Addr} {oe : Obj} {dd : Option Addr} {pn : List (Addr × Obj)} (C : ExcC X.K D) (hz : Zc (.ref D) dd oe) (hf : ∃ vs, oe.data = .fields vs) : CallR (X.suite a ((a, oe) :: pn)) (.builtin "isinstance") (rIsH X.K D a dd) := by
  intro pins s σ H xs us Q I r h
  obtain ⟨c, cv, b, rfl, hcv, e, hd, q⟩ := h
  cases r with
  | cons rx rr =>
    cases rr with
    | cons rt rr =>
      cases rr
      cases rx
      have ec := hcv _ rt
      subst ec
      obtain ⟨hget, _⟩ := I.pin (a, oe) (List.mem_append.mpr (.inl List.mem_cons_self))
      obtain ⟨vs, hv⟩ := hf
      have J : ∃ od, PySem.W.InstAt s.heap a oe D od := by
        cases dd with
        | none =>
          refine ⟨none, ?_⟩
          obtain ⟨oc, od, oda, osl⟩ := oe
          obtain ⟨h1, h2⟩ := hz
          dsimp only at h1 h2 hv
          subst h1 h2 hv
          exact ⟨hget, rfl, rfl, trivial⟩
        | some d =>
          obtain ⟨fs, ed⟩ := hd d rfl
          have hx : ObjOk X.prog X.w H s.heap d (.xd fs) := I.hok d _ ed
          obtain ⟨mA, hns, hr⟩ := hx
          obtain ⟨od, ho, hl⟩ := lookIn_ns hns
          exact ⟨some od, hget, hz.1, by unfold PySem.W.notCls; rw [hv] <;> rfl, by rw [hz.2]; exact ho⟩
      exact PySem.W.kia_one (kitx_exc C) I.kIn J e (fun z => nomatch z) fun tk => ⟨.bl b, H, I.kept (t' := tk) fun _ _ z => z, rfl, q⟩
section
variable {X : Cx} {CA : Str → Addr} {G : Cxp} {W : WX} {C : MC}
theorem s_xis (ok : Ok X CA G W C) {i : Nat} {z n : Str} {q q1 q2 p : Pos} (h2 : gloB C.sc ("isinstance" : Str) = true) (h4 : gloB C.sc z = true) (h5 : nmOk z = true) (h6 : hsIs C i = true) (h7 : slotB C i n = true) (h8 : visB C.sc n = true) (h9 : nmOk n = true) :
    PE X (.Call (.Name "isinstance" q) [.Name n q1, .Name z q2] [] p) (tE X.K CA G W (.xis i z)) := by
  have e0 := ok.hot
  unfold hsIs at h6
  cases eh : C.hs with
  | none => rw [eh] at h6; cases h6
  | some k =>
    rw [eh] at h6 e0
    have h6 := of_decide_eq_true h6
    subst h6
    cases ep : G.pin with
    | none => rw [ep] at e0; cases e0
    | some pv =>
      obtain ⟨j, a, o⟩ := pv
      rw [ep] at e0
      simp only [Option.map_some, Option.some.injEq] at e0
      subst e0
      obtain ⟨X0, oe, pn, c, rfl, hz, hf, hx, hat⟩ := ok.hotx _ a o ep
      cases ei : G.isc c.cls z with
      | none =>
        refine ⟨fun pins s σ H Q I q => ?_⟩
        obtain ⟨S, L, env, g, er, q⟩ := q
        simp only [ev, xisR, hx, ei] at q
        exact q.elim
      | some b =>
        obtain ⟨xc, cv, hv, hk⟩ := ok.xi _ _ _ ei
        obtain ⟨d1, d2⟩ := nm_of h9
        obtain ⟨d3, d4⟩ := nm_of h5
        have key : ∀ (v : V), (∀ u, RelV v u → u = cv) → PE (X0.suite a ((a, oe) :: pn)) (.Name z q2) (tC v) → PE (X0.suite a ((a, oe) :: pn)) (.Call (.Name "isinstance" q) [.Name n q1, .Name z q2] [] p) (tE X0.K CA G W (.xis k z)) := by
          intro v rv hp
          refine PE.by_ (pe_callB (call_isH xc hz hf) (gl_of ok h2) (ok.free _ (by decide +kernel)) (by decide +kernel) (pa_cons (pe_var (i := k) (by rw [ok.nm]; exact slot_of h7) (by rw [ok.sc]; exact vis_of h8) d1 d2) (pa_cons hp pa_nil (star_of rfl [] _)) (star_of rfl _ _)) (by decide +kernel) (by decide +kernel) (star_of rfl _ _) (by rw [star_of rfl [] _]; rfl)) ?_
          rintro σ H Q ⟨S, L, env, g, er, q⟩
          simp only [ev, xisR, hx, ei] at q
          obtain ⟨p1, p2, p3⟩ := er.pin _ _ _ ep
          refine ⟨_, p1, v, cv, b, rfl, rv, hk, fun d hd => ?_, Aft.bl g q⟩
          cases o with
          | none => cases hd
          | some xd =>
            obtain ⟨x, dd⟩ := xd
            cases hd
            obtain ⟨v, q1, q2⟩ := p3 _ _ rfl
            exact ⟨_, q1⟩
        rcases hv with ⟨hm, rfl⟩ | ⟨hm, rfl, rfl⟩
        · exact key (.ref (CA z)) (fun u r => r) (pe_glob (gl_of ok h4) hm rfl d3)
        · exact key (.ty "ValueError") (fun u r => r) (pe_bltn (gl_of ok h4) hm (by decide +kernel) rfl (by decide +kernel) d3)
theorem s_xat (ok : Ok X CA G W C) {i : Nat} {n : Str} {q p : Pos} (h6 : hsIs C i = true) (h7 : slotB C i n = true) (h8 : visB C.sc n = true) (h9 : nmOk n = true) :
    PE X (.Attribute (.Name n q) "at" p) (tE X.K CA G W (.xat i)) := by
  have e0 := ok.hot
  unfold hsIs at h6
  cases eh : C.hs with
  | none => rw [eh] at h6; cases h6
  | some k =>
    rw [eh] at h6 e0
    have h6 := of_decide_eq_true h6
    subst h6
    cases ep : G.pin with
    | none => rw [ep] at e0; cases e0
    | some pv =>
      obtain ⟨j, a, o⟩ := pv
      rw [ep] at e0
      simp only [Option.map_some, Option.some.injEq] at e0
      subst e0
      obtain ⟨X0, oe, pn, c, rfl, hz, hf, hx, hat⟩ := ok.hotx _ a o ep
      obtain ⟨d1, d2⟩ := nm_of h9
      cases o with
      | none =>
        refine ⟨fun pins s σ H Q I q => ?_⟩
        obtain ⟨S, L, env, g, er, q⟩ := q
        simp only [Option.map_none] at hat
        simp only [ev, xatR, hx, hat] at q
        exact q.elim
      | some xd =>
        obtain ⟨x, d⟩ := xd
        simp only [Option.map_some] at hat
        cases hi : G.isc c.cls c.cls with
        | none =>
          refine ⟨fun pins s σ H Q I q => ?_⟩
          obtain ⟨S, L, env, g, er, q⟩ := q
          simp only [ev, xatR, hx, hat, hi] at q
          exact q.elim
        | some bb =>
        obtain ⟨T, hno⟩ := ok.xf _ _ _ hi
        refine PE.by_ (pe_xf (C := CA c.cls) (cls := .ref (CA c.cls)) (d := some x) T hno hz hf (pe_var (i := k) (by rw [ok.nm]; exact slot_of h7) (by rw [ok.sc]; exact vis_of h8) d1 d2)) ?_
        rintro σ H Q ⟨S, L, env, g, er, q⟩
        simp only [ev, xatR, hx, hat, hi, Option.isSome_some, if_true] at q
        obtain ⟨p1, p2, p3⟩ := er.pin _ _ _ ep
        obtain ⟨v, q1, q2⟩ := p3 _ _ rfl
        refine ⟨.ref a, p1, rfl, rfl, x, _, v, rfl, q1, by simp [List.lookup], Aft.now g q q2⟩
end
end Lt
set_option maxHeartbeats 1000000
namespace Lt
open PySem PySem.Spec PyProof.Rows L2
section
/-- a op1 b op2 c op3 d -/
def tChain4 (r r' r'' : R2) (ta tb tc td : TE) : TE := fun σ H Q => ta σ H fun x H1 => tb σ H1 fun y H2 => r x y H2 fun z H3 => ∃ k, z = .bl k ∧
  (if k = true then tc σ H3 fun w' H4 => r' y w' H4 fun z2 H5 => ∃ k2, z2 = .bl k2 ∧ (if k2 = true then td σ H5 fun u' H6 => r'' w' u' H6 Q else Q (.bl false) H5) else Q (.bl false) H3)
theorem pe_chain4 {X : Cx} {a b c d : Expr} {ta tb tc td : TE} {pos : Pos} {op op' op'' : CmpOp} {r r' r'' : R2} (ho : OpR X (compareOp op) r) (ho' : OpR X (compareOp op') r') (ho'' : OpR X (compareOp op'') r'') (ha : PE X a ta) (hb : PE X b tb) (hc : PE X c tc) (hd : PE X d td)
    (hm : lastMarks [op, op', op''] [b, c, d] = false) : PE X (.Compare a [op, op', op''] [b, c, d] pos) (tChain4 r r' r'' ta tb tc td) := by
  refine ⟨fun pins s σ H Q I h => ?_⟩
  refine Compare_chain (thn (ha.run pins s σ H _ I h) fun v s1 ⟨x, H1, I1, r1, q1⟩ => chain_link (thn (hb.run pins s1 σ H1 _ I1 q1) fun u s2 ⟨y, H2, I2, r2, q2⟩ =>
    thn (ho pins s2 σ H2 x y v u _ I2 r1 r2 q2) fun d s3 ⟨z, H3, I3, r3, k, e, q3⟩ => ?_)) hm
  subst e
  cases r3
  refine wpAny_truthy_bool ?_
  cases k with
  | false => exact ite_ff ⟨.bl false, H3, I3, rfl, q3⟩
  | true =>
    refine ite_tt (chain_link (thn (hc.run pins s3 σ H3 _ I3 q3) fun w' s4 ⟨z', H4, I4, r4, q4⟩ => thn (ho' pins s4 σ H4 y z' u w' _ I4 r2 r4 q4) fun d' s5 ⟨z2, H5, I5, r5, k2, e2, q5⟩ => ?_))
    subst e2
    cases r5
    refine wpAny_truthy_bool ?_
    cases k2 with
    | false => exact ite_ff ⟨.bl false, H5, I5, rfl, q5⟩
    | true => exact ite_tt (chain_last (thn (hd.run pins s5 σ H5 _ I5 q5) fun u' s6 ⟨z3, H6, I6, r6, q6⟩ => ho'' pins s6 σ H6 z' z3 w' u' Q I6 r4 r6 q6))
theorem pt_chain4 {X : Cx} {a b c d : Expr} {ta tb tc td : TE} {pos : Pos} {op op' op'' : CmpOp} {r r' r'' : R2} (ho : OpR X (compareOp op) r) (ho' : OpR X (compareOp op') r') (ho'' : OpR X (compareOp op'') r'') (ha : PE X a ta) (hb : PE X b tb) (hc : PE X c tc) (hd : PE X d td)
    (hm : lastMarks [op, op', op''] [b, c, d] = false) : PT X (.Compare a [op, op', op''] [b, c, d] pos) (tTest (tChain4 r r' r'' ta tb tc td)) := by
  refine ⟨fun pins s σ H Q I h => ?_⟩
  refine isTrue_chain (thn (ha.run pins s σ H _ I h) fun v s1 ⟨x, H1, I1, r1, q1⟩ => test_link (thn (hb.run pins s1 σ H1 _ I1 q1) fun u s2 ⟨y, H2, I2, r2, q2⟩ =>
    thn (ho pins s2 σ H2 x y v u _ I2 r1 r2 q2) fun d s3 ⟨z, H3, I3, r3, k, e, q3⟩ => ?_)) hm
  subst e
  cases r3
  refine wpAny_truthy_bool ?_
  cases k with
  | false =>
    obtain ⟨k', e', q'⟩ := q3
    cases e'
    exact ite_ff ⟨H3, I3, q'⟩
  | true =>
    refine ite_tt (test_link (thn (hc.run pins s3 σ H3 _ I3 q3) fun w' s4 ⟨z', H4, I4, r4, q4⟩ => thn (ho' pins s4 σ H4 y z' u w' _ I4 r2 r4 q4) fun d' s5 ⟨z2, H5, I5, r5, k2, e2, q5⟩ => ?_))
    subst e2
    cases r5
    refine wpAny_truthy_bool ?_
    cases k2 with
    | false =>
      obtain ⟨k', e', q'⟩ := q5
      cases e'
      exact ite_ff ⟨H5, I5, q'⟩
    | true =>
      refine ite_tt (test_last (thn (hd.run pins s5 σ H5 _ I5 q5) fun u' s6 ⟨z3, H6, I6, r6, q6⟩ => thn (ho'' pins s6 σ H6 z' z3 w' u' _ I6 r4 r6 q6) fun d'' s7 ⟨z4, H7, I7, r7, k3, e3, q7⟩ => ?_))
      subst e3
      cases r7
      exact wpAny_truthy_bool ⟨H7, I7, q7⟩
variable {CA : Str → Addr} {G : Cxp} {W : WX} {C : MC} {X : Cx}
theorem s_chn4 (ok : Ok X CA G W C) {o1 o2 o3 : Cm} {p1 p2 p3 : CmpOp} {a b c f : Ex} {l m r t : Expr} {p : Pos} (h1 : cmB o1 p1 = true) (h2 : cmB o2 p2 = true) (h3 : cmB o3 p3 = true) (ha : PE X l (tE X.K CA G W a)) (hb : PE X m (tE X.K CA G W b)) (hc : PE X r (tE X.K CA G W c)) (hf : PE X t (tE X.K CA G W f)) :
    PE X (.Compare l [p1, p2, p3] [m, r, t] p) (tE X.K CA G W (.chn4 o1 o2 o3 a b c f)) ∧ PT X (.Compare l [p1, p2, p3] [m, r, t] p) (tT X.K CA G W (.chn4 o1 o2 o3 a b c f)) := by
  have hm : lastMarks [p1, p2, p3] [m, r, t] = false := nomark t (by intro z; subst z; cases o3 <;> cases h3) (by intro z; subst z; cases o3 <;> cases h3)
  have core : ∀ (σ : Sl) (H : Hp) (P : D → Store → List Addr → Hp → Prop) (Q : VK), (∃ S L env, Good X.K CA S L H ∧ EnvR X.K G.pin L H env σ ∧ Aft X.K CA W σ L H (ev G (.chn4 o1 o2 o3 a b c f) env S) P) → (∀ d S' L' H' v, P d S' L' H' → RelD X.K L' H' d v → Q v H') →
      tChain4 (rBin X.K CA W σ (cmpop o1)) (rBin X.K CA W σ (cmpop o2)) (rBin X.K CA W σ (cmpop o3)) (tE X.K CA G W a) (tE X.K CA G W b) (tE X.K CA G W c) (tE X.K CA G W f) σ H Q := by
    rintro σ H P Q ⟨S, L, env, g, er, q⟩ hP
    simp only [ev] at q
    refine tE.seq g er q fun d1 S1 L1 H1 v1 st1 g1 er1 r1 q1 => tE.seq g1 er1 q1 fun d2 S2 L2 H2 v2 st2 g2 er2 r2 q2 => ⟨S2, L2, d1, d2, g2, r1.step g1 st2, r2, q2.bind.mono fun k S3 L3 H3 ⟨st3, g3, q3⟩ v r => ?_⟩
    split at q3
    · simp only [RelD] at r; subst r
      refine ⟨true, rfl, ?_⟩
      rw [if_pos rfl]
      refine tE.seq g3 (er2.step g2 st3) q3 fun d4 S4 L4 H4 v4 st4 g4 er4 r4 q4 => ⟨S4, L4, d2, d4, g4, (r2.step g2 st3).step g3 st4, r4, q4.bind.mono fun k2 S5 L5 H5 ⟨st5, g5, q5⟩ v r => ?_⟩
      split at q5
      · simp only [RelD] at r; subst r
        refine ⟨true, rfl, ?_⟩
        rw [if_pos rfl]
        exact tE.seq g5 (er4.step g4 st5) q5 fun d6 S6 L6 H6 v6 st6 g6 er6 r6 q6 => ⟨S6, L6, d4, d6, g6, (r4.step g4 st5).step g5 st6, r6, q6.mono fun d S7 L7 H7 z v r => hP _ _ _ _ _ z r⟩
      · simp only [RelD] at r; subst r
        refine ⟨false, rfl, ?_⟩
        rw [if_neg Bool.false_ne_true]
        exact hP _ _ _ _ _ (q5 L5 H5 Step.refl g5) (by simp [RelD])
      · exact q5.elim
    · simp only [RelD] at r; subst r
      refine ⟨false, rfl, ?_⟩
      rw [if_neg Bool.false_ne_true]
      exact hP _ _ _ _ _ (q3 L3 H3 Step.refl g3) (by simp [RelD])
    · exact q3.elim
  refine ⟨⟨fun pins s σ H Q I q => (pe_chain4 (cmp_ok (W := W) ok (cmI_of h1) σ) (cmp_ok (W := W) ok (cmI_of h2) σ) (cmp_ok (W := W) ok (cmI_of h3) σ) ha hb hc hf hm).run pins s σ H Q I ?_⟩, ⟨fun pins s σ H Q I q => (pt_chain4 (cmp_ok (W := W) ok (cmI_of h1) σ) (cmp_ok (W := W) ok (cmI_of h2) σ) (cmp_ok (W := W) ok (cmI_of h3) σ) ha hb hc hf hm).run pins s σ H Q I ?_⟩⟩
  · exact core σ H _ Q q fun d S' L' H' v z r => z v r
  · refine core σ H _ _ q fun d S' L' H' v z r => ?_
    obtain ⟨b, rfl, z⟩ := z
    simp only [RelD] at r
    exact ⟨b, r, z⟩
end
end Lt
set_option maxHeartbeats 1000000
namespace Lt
open PySem PySem.Spec PyProof.Rows L2
section
/-- a op1 b op2 c op3 d op4 f -/
def tChain5 (r r' r'' r3 : R2) (ta tb tc td tf : TE) : TE := fun σ H Q => ta σ H fun x H1 => tb σ H1 fun y H2 => r x y H2 fun z H3 => ∃ k, z = .bl k ∧
  (if k = true then tc σ H3 fun w' H4 => r' y w' H4 fun z2 H5 => ∃ k2, z2 = .bl k2 ∧ (if k2 = true then td σ H5 fun u' H6 => r'' w' u' H6 fun z3 H7 => ∃ k3, z3 = .bl k3 ∧ (if k3 = true then tf σ H7 fun t' H8 => r3 u' t' H8 Q else Q (.bl false) H7) else Q (.bl false) H5) else Q (.bl false) H3)
theorem pe_chain5 {X : Cx} {a b c d f : Expr} {ta tb tc td tf : TE} {pos : Pos} {op op' op'' op3 : CmpOp} {r r' r'' rr : R2} (ho : OpR X (compareOp op) r) (ho' : OpR X (compareOp op') r') (ho'' : OpR X (compareOp op'') r'') (ho3 : OpR X (compareOp op3) rr) (ha : PE X a ta) (hb : PE X b tb) (hc : PE X c tc) (hd : PE X d td) (hf : PE X f tf)
    (hm : lastMarks [op, op', op'', op3] [b, c, d, f] = false) : PE X (.Compare a [op, op', op'', op3] [b, c, d, f] pos) (tChain5 r r' r'' rr ta tb tc td tf) := by
  refine ⟨fun pins s σ H Q I h => ?_⟩
  refine Compare_chain (thn (ha.run pins s σ H _ I h) fun v s1 ⟨x, H1, I1, r1, q1⟩ => chain_link (thn (hb.run pins s1 σ H1 _ I1 q1) fun u s2 ⟨y, H2, I2, r2, q2⟩ =>
    thn (ho pins s2 σ H2 x y v u _ I2 r1 r2 q2) fun d s3 ⟨z, H3, I3, r3, k, e, q3⟩ => ?_)) hm
  subst e
  cases r3
  refine wpAny_truthy_bool ?_
  cases k with
  | false => exact ite_ff ⟨.bl false, H3, I3, rfl, q3⟩
  | true =>
    refine ite_tt (chain_link (thn (hc.run pins s3 σ H3 _ I3 q3) fun w' s4 ⟨z', H4, I4, r4, q4⟩ => thn (ho' pins s4 σ H4 y z' u w' _ I4 r2 r4 q4) fun d' s5 ⟨z2, H5, I5, r5, k2, e2, q5⟩ => ?_))
    subst e2
    cases r5
    refine wpAny_truthy_bool ?_
    cases k2 with
    | false => exact ite_ff ⟨.bl false, H5, I5, rfl, q5⟩
    | true =>
      refine ite_tt (chain_link (thn (hd.run pins s5 σ H5 _ I5 q5) fun u' s6 ⟨z3, H6, I6, r6, q6⟩ => thn (ho'' pins s6 σ H6 z' z3 w' u' _ I6 r4 r6 q6) fun d'' s7 ⟨z4, H7, I7, r7, k3, e3, q7⟩ => ?_))
      subst e3
      cases r7
      refine wpAny_truthy_bool ?_
      cases k3 with
      | false => exact ite_ff ⟨.bl false, H7, I7, rfl, q7⟩
      | true => exact ite_tt (chain_last (thn (hf.run pins s7 σ H7 _ I7 q7) fun u4 s8 ⟨z5, H8, I8, r8, q8⟩ => ho3 pins s8 σ H8 z3 z5 u' u4 Q I8 r6 r8 q8))
theorem pt_chain5 {X : Cx} {a b c d f : Expr} {ta tb tc td tf : TE} {pos : Pos} {op op' op'' op3 : CmpOp} {r r' r'' rr : R2} (ho : OpR X (compareOp op) r) (ho' : OpR X (compareOp op') r') (ho'' : OpR X (compareOp op'') r'') (ho3 : OpR X (compareOp op3) rr) (ha : PE X a ta) (hb : PE X b tb) (hc : PE X c tc) (hd : PE X d td) (hf : PE X f tf)
    (hm : lastMarks [op, op', op'', op3] [b, c, d, f] = false) : PT X (.Compare a [op, op', op'', op3] [b, c, d, f] pos) (tTest (tChain5 r r' r'' rr ta tb tc td tf)) := by
  refine ⟨fun pins s σ H Q I h => ?_⟩
  refine isTrue_chain (thn (ha.run pins s σ H _ I h) fun v s1 ⟨x, H1, I1, r1, q1⟩ => test_link (thn (hb.run pins s1 σ H1 _ I1 q1) fun u s2 ⟨y, H2, I2, r2, q2⟩ =>
    thn (ho pins s2 σ H2 x y v u _ I2 r1 r2 q2) fun d s3 ⟨z, H3, I3, r3, k, e, q3⟩ => ?_)) hm
  subst e
  cases r3
  refine wpAny_truthy_bool ?_
  cases k with
  | false =>
    obtain ⟨k', e', q'⟩ := q3
    cases e'
    exact ite_ff ⟨H3, I3, q'⟩
  | true =>
    refine ite_tt (test_link (thn (hc.run pins s3 σ H3 _ I3 q3) fun w' s4 ⟨z', H4, I4, r4, q4⟩ => thn (ho' pins s4 σ H4 y z' u w' _ I4 r2 r4 q4) fun d' s5 ⟨z2, H5, I5, r5, k2, e2, q5⟩ => ?_))
    subst e2
    cases r5
    refine wpAny_truthy_bool ?_
    cases k2 with
    | false =>
      obtain ⟨k', e', q'⟩ := q5
      cases e'
      exact ite_ff ⟨H5, I5, q'⟩
    | true =>
      refine ite_tt (test_link (thn (hd.run pins s5 σ H5 _ I5 q5) fun u' s6 ⟨z3, H6, I6, r6, q6⟩ => thn (ho'' pins s6 σ H6 z' z3 w' u' _ I6 r4 r6 q6) fun d'' s7 ⟨z4, H7, I7, r7, k3, e3, q7⟩ => ?_))
      subst e3
      cases r7
      refine wpAny_truthy_bool ?_
      cases k3 with
      | false =>
        obtain ⟨k', e', q'⟩ := q7
        cases e'
        exact ite_ff ⟨H7, I7, q'⟩
      | true =>
        refine ite_tt (test_last (thn (hf.run pins s7 σ H7 _ I7 q7) fun u4 s8 ⟨z5, H8, I8, r8, q8⟩ => thn (ho3 pins s8 σ H8 z3 z5 u' u4 _ I8 r6 r8 q8) fun d4 s9 ⟨z6, H9, I9, r9, k4, e4, q9⟩ => ?_))
        subst e4
        cases r9
        exact wpAny_truthy_bool ⟨H9, I9, q9⟩
variable {CA : Str → Addr} {G : Cxp} {W : WX} {C : MC} {X : Cx}
theorem s_chn5 (ok : Ok X CA G W C) {o1 o2 o3 o4 : Cm} {p1 p2 p3 p4 : CmpOp} {a b c f h : Ex} {l m r t u : Expr} {p : Pos} (h1 : cmB o1 p1 = true) (h2 : cmB o2 p2 = true) (h3 : cmB o3 p3 = true) (h4 : cmB o4 p4 = true) (ha : PE X l (tE X.K CA G W a)) (hb : PE X m (tE X.K CA G W b)) (hc : PE X r (tE X.K CA G W c)) (hf : PE X t (tE X.K CA G W f)) (hh : PE X u (tE X.K CA G W h)) :
    PE X (.Compare l [p1, p2, p3, p4] [m, r, t, u] p) (tE X.K CA G W (.chn5 o1 o2 o3 o4 a b c f h)) ∧ PT X (.Compare l [p1, p2, p3, p4] [m, r, t, u] p) (tT X.K CA G W (.chn5 o1 o2 o3 o4 a b c f h)) := by
  have hm : lastMarks [p1, p2, p3, p4] [m, r, t, u] = false := nomark u (by intro z; subst z; cases o4 <;> cases h4) (by intro z; subst z; cases o4 <;> cases h4)
  have core : ∀ (σ : Sl) (H : Hp) (P : D → Store → List Addr → Hp → Prop) (Q : VK), (∃ S L env, Good X.K CA S L H ∧ EnvR X.K G.pin L H env σ ∧ Aft X.K CA W σ L H (ev G (.chn5 o1 o2 o3 o4 a b c f h) env S) P) → (∀ d S' L' H' v, P d S' L' H' → RelD X.K L' H' d v → Q v H') →
      tChain5 (rBin X.K CA W σ (cmpop o1)) (rBin X.K CA W σ (cmpop o2)) (rBin X.K CA W σ (cmpop o3)) (rBin X.K CA W σ (cmpop o4)) (tE X.K CA G W a) (tE X.K CA G W b) (tE X.K CA G W c) (tE X.K CA G W f) (tE X.K CA G W h) σ H Q := by
    rintro σ H P Q ⟨S, L, env, g, er, q⟩ hP
    simp only [ev] at q
    refine tE.seq g er q fun d1 S1 L1 H1 v1 st1 g1 er1 r1 q1 => tE.seq g1 er1 q1 fun d2 S2 L2 H2 v2 st2 g2 er2 r2 q2 => ⟨S2, L2, d1, d2, g2, r1.step g1 st2, r2, q2.bind.mono fun k S3 L3 H3 ⟨st3, g3, q3⟩ v r => ?_⟩
    split at q3
    · simp only [RelD] at r; subst r
      refine ⟨true, rfl, ?_⟩
      rw [if_pos rfl]
      refine tE.seq g3 (er2.step g2 st3) q3 fun d4 S4 L4 H4 v4 st4 g4 er4 r4 q4 => ⟨S4, L4, d2, d4, g4, (r2.step g2 st3).step g3 st4, r4, q4.bind.mono fun k2 S5 L5 H5 ⟨st5, g5, q5⟩ v r => ?_⟩
      split at q5
      · simp only [RelD] at r; subst r
        refine ⟨true, rfl, ?_⟩
        rw [if_pos rfl]
        refine tE.seq g5 (er4.step g4 st5) q5 fun d6 S6 L6 H6 v6 st6 g6 er6 r6 q6 => ⟨S6, L6, d4, d6, g6, (r4.step g4 st5).step g5 st6, r6, q6.bind.mono fun k3 S7 L7 H7 ⟨st7, g7, q7⟩ v r => ?_⟩
        split at q7
        · simp only [RelD] at r; subst r
          refine ⟨true, rfl, ?_⟩
          rw [if_pos rfl]
          exact tE.seq g7 (er6.step g6 st7) q7 fun d8 S8 L8 H8 v8 st8 g8 er8 r8 q8 => ⟨S8, L8, d6, d8, g8, (r6.step g6 st7).step g7 st8, r8, q8.mono fun d S9 L9 H9 z v r => hP _ _ _ _ _ z r⟩
        · simp only [RelD] at r; subst r
          refine ⟨false, rfl, ?_⟩
          rw [if_neg Bool.false_ne_true]
          exact hP _ _ _ _ _ (q7 L7 H7 Step.refl g7) (by simp [RelD])
        · exact q7.elim
      · simp only [RelD] at r; subst r
        refine ⟨false, rfl, ?_⟩
        rw [if_neg Bool.false_ne_true]
        exact hP _ _ _ _ _ (q5 L5 H5 Step.refl g5) (by simp [RelD])
      · exact q5.elim
    · simp only [RelD] at r; subst r
      refine ⟨false, rfl, ?_⟩
      rw [if_neg Bool.false_ne_true]
      exact hP _ _ _ _ _ (q3 L3 H3 Step.refl g3) (by simp [RelD])
    · exact q3.elim
  refine ⟨⟨fun pins s σ H Q I q => (pe_chain5 (cmp_ok (W := W) ok (cmI_of h1) σ) (cmp_ok (W := W) ok (cmI_of h2) σ) (cmp_ok (W := W) ok (cmI_of h3) σ) (cmp_ok (W := W) ok (cmI_of h4) σ) ha hb hc hf hh hm).run pins s σ H Q I ?_⟩, ⟨fun pins s σ H Q I q => (pt_chain5 (cmp_ok (W := W) ok (cmI_of h1) σ) (cmp_ok (W := W) ok (cmI_of h2) σ) (cmp_ok (W := W) ok (cmI_of h3) σ) (cmp_ok (W := W) ok (cmI_of h4) σ) ha hb hc hf hh hm).run pins s σ H Q I ?_⟩⟩
  · exact core σ H _ Q q fun d S' L' H' v z r => z v r
  · refine core σ H _ _ q fun d S' L' H' v z r => ?_
    obtain ⟨b, rfl, z⟩ := z
    simp only [RelD] at r
    exact ⟨b, r, z⟩
end
end Lt
set_option maxHeartbeats 1000000
namespace Lt
open PySem PySem.Spec PyProof.Rows L2
section
variable {X : Cx} {CA : Str → Addr} {G : Cxp} {W : WX} {C : MC} {S S' : Store} {L L1 L2' L' : List Addr} {H H1 H2 H' : Hp} {σ : Sl} {e : Expr}
theorem s_any : PE X e (tE X.K CA G W .any) := by
  refine ⟨fun pins s σ H Q I ⟨S, L, env, g, er, q⟩ => ?_⟩
  simp only [ev] at q
  exact q.elim
theorem s_ntB {a : Ex} {b : Bool} {l : Expr} {k : Nat} {p p2 : Pos} (ha : PE X l (tE X.K CA G W a)) :
    PE X (.Compare l [.IsNot] [.Constant (.bool b) k p2] p) (tE X.K CA G W (.ntB a b)) ∧ PT X (.Compare l [.IsNot] [.Constant (.bool b) k p2] p) (tT X.K CA G W (.ntB a b)) := by
  refine ⟨PE.by_ (pe_cmpR op_notBl ha pe_bl rfl) ?_, PT.by_ (pt_cmpR op_notBl ha pe_bl rfl) ?_⟩
  · rintro σ H Q ⟨S, L, env, g, er, q⟩
    simp only [ev] at q
    refine tE.seq g er q fun d S1 L1 H1 v st g1 er1 r1 q1 => ?_
    unfold ntBR at q1
    split at q1
    · simp only [RelD] at r1
      subst r1
      exact ⟨_, _, rfl, rfl, Aft.now g1 q1 (by simp [RelD])⟩
    · exact q1.elim
  · rintro σ H Q ⟨S, L, env, g, er, q⟩
    simp only [ev] at q
    refine tE.seq g er q fun d S1 L1 H1 v st g1 er1 r1 q1 => ?_
    unfold ntBR at q1
    split at q1
    · simp only [RelD] at r1
      subst r1
      obtain ⟨c, e, z⟩ := q1 L1 H1 Step.refl g1
      cases e
      exact ⟨_, _, rfl, rfl, _, rfl, z⟩
    · exact q1.elim
theorem s_dic {t : Bool} {p : Pos} : PE X (.Dict [] [] p) (tE X.K CA G W (.dic t)) := by
  cases t with
  | false =>
    refine PE.by_ pe_dnewK ?_
    rintro σ H Q ⟨S, L, env, g, er, q⟩ p hp
    simp only [ev, if_neg Bool.false_ne_true] at q
    exact Aft.laid g q hp ⟨[], upd_same, rfl, RelDs.nil⟩
  | true =>
    refine PE.by_ pe_dnewT ?_
    rintro σ H Q ⟨S, L, env, g, er, q⟩ p hp
    simp only [ev, if_pos] at q
    exact Aft.laid g q hp ⟨[], upd_same, rfl, RelDs.nil⟩
section
variable {κ : Type} [DecidableEq κ]
theorem look_rel : ∀ {kvs : List (κ × D)} {vs : List (κ × V)} {k : κ}, vs.map (·.1) = kvs.map (·.1) → RelDs X.K L H (kvs.map (·.2)) (vs.map (·.2)) →
    (∀ d, lookK kvs k = some d → ∃ v, valV vs k = some v ∧ RelD X.K L H d v) ∧ (lookK kvs k = none → valV vs k = none)
  | [], [], k, _, _ => ⟨fun d h => (by cases h), fun _ => rfl⟩
  | [], _ :: _, k, h, _ => by simp at h
  | _ :: _, [], k, h, _ => by simp at h
  | (a, x) :: kvs, (b, w) :: vs, k, h, r => by
    simp only [List.map_cons, List.cons.injEq] at h
    obtain ⟨h1, h2⟩ := h
    subst h1
    simp only [List.map_cons, RelDs] at r
    obtain ⟨v, rr, e, r1, r2⟩ := r
    simp only [List.cons.injEq] at e
    obtain ⟨e1, e2⟩ := e
    subst e1 e2
    by_cases hk : b = k
    · have l1 : lookK ((b, x) :: kvs) k = some x := by simp [lookK, hk]
      rw [l1, valV_pos (p := (b, w)) hk]
      exact ⟨fun d h => by cases h; exact ⟨w, rfl, r1⟩, fun h => by cases h⟩
    · have l1 : lookK ((b, x) :: kvs) k = lookK kvs k := by simp [lookK, hk]
      rw [l1, valV_neg (p := (b, w)) hk]
      exact look_rel h2 r2
theorem any_keys {β γ : Type} (k : κ) : ∀ {kvs : List (κ × β)} {vs : List (κ × γ)}, vs.map (·.1) = kvs.map (·.1) → (vs.any fun kv => decide (kv.1 = k)) = (kvs.any fun kv => decide (kv.1 = k))
  | [], [], _ => rfl
  | [], _ :: _, h => by simp at h
  | _ :: _, [], h => by simp at h
  | a :: kvs, b :: vs, h => by
    simp only [List.map_cons, List.cons.injEq] at h
    simp only [List.any_cons, h.1, any_keys k h.2]
theorem mapped_rel (k : κ) {d : D} {v : V} (rd : RelD X.K L H d v) : ∀ {kvs : List (κ × D)} {vs : List (κ × V)}, vs.map (·.1) = kvs.map (·.1) → RelDs X.K L H (kvs.map (·.2)) (vs.map (·.2)) →
    (vs.map (fun kv => if kv.1 = k then (kv.1, v) else kv)).map (·.1) = (kvs.map (fun kv => if kv.1 = k then (kv.1, d) else kv)).map (·.1) ∧ RelDs X.K L H ((kvs.map (fun kv => if kv.1 = k then (kv.1, d) else kv)).map (·.2)) ((vs.map (fun kv => if kv.1 = k then (kv.1, v) else kv)).map (·.2))
  | [], [], _, _ => ⟨rfl, RelDs.nil⟩
  | [], _ :: _, h, _ => by simp at h
  | _ :: _, [], h, _ => by simp at h
  | (a, x) :: kvs, (b, w) :: vs, h, r => by
    simp only [List.map_cons, List.cons.injEq] at h
    obtain ⟨h1, h2⟩ := h
    subst h1
    simp only [List.map_cons, RelDs] at r
    obtain ⟨v', rr, e, r1, r2⟩ := r
    simp only [List.cons.injEq] at e
    obtain ⟨e1, e2⟩ := e
    subst e1 e2
    obtain ⟨i1, i2⟩ := mapped_rel k rd h2 r2
    simp only [List.map_cons]
    by_cases hk : b = k
    · rw [if_pos hk, if_pos hk]
      exact ⟨by simp [i1], RelDs.cons rd i2⟩
    · rw [if_neg hk, if_neg hk]
      exact ⟨by simp [i1], RelDs.cons r1 i2⟩
theorem put_rel (k : κ) {d : D} {v : V} (rd : RelD X.K L H d v) {kvs : List (κ × D)} {vs : List (κ × V)} (h : vs.map (·.1) = kvs.map (·.1)) (r : RelDs X.K L H (kvs.map (·.2)) (vs.map (·.2))) :
    (putK vs k v).map (·.1) = (putKD kvs k d).map (·.1) ∧ RelDs X.K L H ((putKD kvs k d).map (·.2)) ((putK vs k v).map (·.2)) := by
  unfold putK putKD
  rw [any_keys k h]
  split
  · exact mapped_rel k rd h r
  · simp only [List.map_append, List.map_cons, List.map_nil]
    exact ⟨by rw [h], r.append (RelDs.cons rd RelDs.nil)⟩
theorem drop_rel (k : κ) : ∀ {kvs : List (κ × D)} {vs : List (κ × V)}, vs.map (·.1) = kvs.map (·.1) → RelDs X.K L H (kvs.map (·.2)) (vs.map (·.2)) →
    (dropK vs k).map (·.1) = (dropKD kvs k).map (·.1) ∧ RelDs X.K L H ((dropKD kvs k).map (·.2)) ((dropK vs k).map (·.2))
  | [], [], _, _ => ⟨rfl, RelDs.nil⟩
  | [], _ :: _, h, _ => by simp at h
  | _ :: _, [], h, _ => by simp at h
  | (a, x) :: kvs, (b, w) :: vs, h, r => by
    simp only [List.map_cons, List.cons.injEq] at h
    obtain ⟨h1, h2⟩ := h
    subst h1
    simp only [List.map_cons, RelDs] at r
    obtain ⟨v', rr, e, r1, r2⟩ := r
    simp only [List.cons.injEq] at e
    obtain ⟨e1, e2⟩ := e
    subst e1 e2
    obtain ⟨i1, i2⟩ := drop_rel k h2 r2
    by_cases hk : b = k
    · have z1 : dropKD ((b, x) :: kvs) k = dropKD kvs k := by simp [dropKD, hk]
      have z2 : dropK ((b, w) :: vs) k = dropK vs k := by simp [dropK, hk]
      rw [z1, z2]
      exact ⟨i1, i2⟩
    · have z1 : dropKD ((b, x) :: kvs) k = (b, x) :: dropKD kvs k := by simp [dropKD, hk]
      have z2 : dropK ((b, w) :: vs) k = (b, w) :: dropK vs k := by simp [dropK, hk]
      rw [z1, z2]
      exact ⟨by simp [i1], RelDs.cons r1 i2⟩
end
theorem key_rel {y : D} {u : V} {k : Key} (h : keyD y = some k) (r : RelD X.K L H y u) : u = kV k := by
  cases y <;> simp only [keyD, Option.some.injEq] at h <;> first | (cases h; done) | skip
  · subst h; simp only [RelD] at r; exact r
  · subst h; simp only [RelD] at r; exact r
theorem keysO_rel : ∀ {ys : List D} {us : List V} {ks : List Key}, mapO keyD ys = some ks → RelDs X.K L H ys us → us = ks.map kV
  | [], us, ks, h, r => by
    simp only [mapO, Option.some.injEq] at h; subst h
    simp only [RelDs] at r; subst r; rfl
  | y :: ys, us, ks, h, r => by
    simp only [mapO] at h
    split at h
    · rename_i k ks' h1 h2
      cases h
      simp only [RelDs] at r
      obtain ⟨v, vr, rfl, r1, r2⟩ := r
      rw [key_rel h1 r1, keysO_rel h2 r2]; rfl
    · cases h
theorem keys_rel {y : D} {u : V} {k : List Key} (h : keysD y = some k) (r : RelD X.K L H y u) : ∃ b, u = .ref b ∧ H b = some (.tup (k.map kV)) := by
  cases y <;> simp only [keysD] at h <;> first | (cases h; done) | skip
  simp only [RelD] at r
  obtain ⟨p, vs, rfl, e, rs⟩ := r
  exact ⟨p, rfl, by rw [e, keysO_rel h rs]⟩
/-- what is read of a dict -/
theorem dget_rel (g : Good X.K CA S L H) {x y : D} {v u : V} {o : Option D} (h : dgetO S x y = some o) (rx : RelD X.K L H x v) (ry : RelD X.K L H y u) :
    ∃ a w, v = .ref a ∧ DGet H a u w ∧ (∀ d, o = some d → ∃ z, w = some z ∧ RelD X.K L H d z) ∧ (o = none → w = none) := by
  unfold dgetO at h
  split at h
  · rename_i r
    simp only [RelD] at rx
    obtain ⟨a, hn, rfl⟩ := rx
    split at h
    · rename_i kvs e
      obtain ⟨vs, e1, e2, e3⟩ := g.cell r _ a e hn
      rw [Option.map_eq_some_iff] at h
      obtain ⟨k, hk, rfl⟩ := h
      rw [key_rel hk ry]
      obtain ⟨l1, l2⟩ := look_rel (k := k) e2 e3
      exact ⟨a, _, rfl, DGet.k e1, l1, l2⟩
    · rename_i kvs e
      obtain ⟨vs, e1, e2, e3⟩ := g.cell r _ a e hn
      rw [Option.map_eq_some_iff] at h
      obtain ⟨k, hk, rfl⟩ := h
      obtain ⟨b, rfl, eb⟩ := keys_rel hk ry
      obtain ⟨l1, l2⟩ := look_rel (k := k) e2 e3
      exact ⟨a, _, rfl, DGet.t e1 eb, l1, l2⟩
    · cases h
  · cases h
theorem isDct_rel (g : Good X.K CA S L H) {d : D} {v : V} (h : isDct d S = true) (r : RelD X.K L H d v) : ∃ a, v = .ref a ∧ IsD H a := by
  unfold isDct at h
  split at h
  · rename_i n
    simp only [RelD] at r
    obtain ⟨a, hn, rfl⟩ := r
    split at h
    · rename_i kvs e
      obtain ⟨vs, e1, _⟩ := g.cell n _ a e hn
      exact ⟨a, rfl, .inl ⟨vs, .inl e1⟩⟩
    · rename_i kvs e
      obtain ⟨vs, e1, _⟩ := g.cell n _ a e hn
      exact ⟨a, rfl, .inr ⟨vs, .inl e1⟩⟩
    · cases h
  · cases h
theorem noSl_of {k : Expr} (h : notSl k = true) : NoSl k := by
  cases k <;> first | (intro _ _; rfl) | exact absurd h Bool.false_ne_true
theorem s_dgt (ok : Ok X CA G W C) {o k : Ex} {l s : Expr} {p : Pos} (hs : notSl s = true) (ho : PE X l (tE X.K CA G W o)) (hk : PE X s (tE X.K CA G W k)) : PE X (.Subscript l s p) (tE X.K CA G W (.dgt o k)) := by
  have hu : X.A.units + 1 < cLine := by have := ok.un; omega
  refine PE.by_ (pe_dget hu ho hk (noSl_of hs)) ?_
  rintro σ H Q ⟨S, L, env, g, er, q⟩
  simp only [ev] at q
  refine tE.seq g er q fun d S1 L1 H1 v st g1 er1 r1 q1 => tE.seq g1 er1 q1 fun d2 S2 L2 H2 v2 st2 g2 er2 r2 q2 => ?_
  unfold dgtR at q2
  split at q2
  · rename_i d3 hd
    obtain ⟨a, w, rfl, dg, h1, _⟩ := dget_rel g2 hd (r1.step g1 st2) r2
    obtain ⟨z, rfl, rz⟩ := h1 d3 rfl
    exact ⟨a, z, rfl, dg, Aft.now g2 q2 rz⟩
  · exact q2.elim
theorem s_din (ok : Ok X CA G W C) {n : Bool} {o k : Ex} {op : CmpOp} {l r : Expr} {p : Pos} (h : dinB n op = true) (hs : notSet r = true) (hk : PE X l (tE X.K CA G W k)) (ho : PE X r (tE X.K CA G W o)) :
    PE X (.Compare l [op] [r] p) (tE X.K CA G W (.din n k o)) ∧ PT X (.Compare l [op] [r] p) (tT X.K CA G W (.din n k o)) := by
  have hu : X.A.units + 1 < cLine := by have := ok.un; omega
  have core : ∀ (σ : Sl) (H : Hp) (P : D → Store → List Addr → Hp → Prop) (Q : VK), (∃ S L env, Good X.K CA S L H ∧ EnvR X.K G.pin L H env σ ∧ Aft X.K CA W σ L H (ev G (.din n k o) env S) P) → (∀ d S' L' H' v, P d S' L' H' → RelD X.K L' H' d v → Q v H') →
      (tE X.K CA G W k) σ H fun y H1 => (tE X.K CA G W o) σ H1 fun x H2 => ∃ a oo, x = .ref a ∧ DGet H2 a y oo ∧ Q (.bl (if n = true then !oo.isSome else oo.isSome)) H2 := by
    rintro σ H P Q ⟨S, L, env, g, er, q⟩ hP
    simp only [ev] at q
    refine tE.seq g er q fun d S1 L1 H1 v st g1 er1 r1 q1 => tE.seq g1 er1 q1 fun d2 S2 L2 H2 v2 st2 g2 er2 r2 q2 => ?_
    unfold dinR at q2
    split at q2
    · rename_i oo hd
      obtain ⟨a, w, rfl, dg, h1, h2⟩ := dget_rel g2 hd r2 (r1.step g1 st2)
      refine ⟨a, w, rfl, dg, ?_⟩
      have e : w.isSome = oo.isSome := by
        cases oo with
        | none => rw [h2 rfl]; rfl
        | some d => obtain ⟨z, e, _⟩ := h1 d rfl; rw [e]; rfl
      rw [e]
      exact hP _ _ _ _ _ (q2 L2 H2 Step.refl g2) (by simp [RelD])
    · exact q2.elim
  have hb : behindInMarks op r = false := nomark2 r hs
  cases n <;> cases op <;> first | (cases h; done) | skip
  · refine ⟨PE.by_ (pe_cmp (pc_din hu hk ho) hb) fun σ H Q q => core σ H _ Q q fun d S' L' H' v z r => z v r, PT.by_ (pt_cmp (pc_din hu hk ho) hb) fun σ H Q q => core σ H _ (fun x H' => ∃ b, x = .bl b ∧ Q b H') q fun d S' L' H' v z r => ?_⟩
    obtain ⟨b, rfl, z⟩ := z
    simp only [RelD] at r
    exact ⟨b, r, z⟩
  · refine ⟨PE.by_ (pe_cmp (pc_dnotin hu hk ho) hb) fun σ H Q q => core σ H _ Q q fun d S' L' H' v z r => z v r, PT.by_ (pt_cmp (pc_dnotin hu hk ho) hb) fun σ H Q q => core σ H _ (fun x H' => ∃ b, x = .bl b ∧ Q b H') q fun d S' L' H' v z r => ?_⟩
    obtain ⟨b, rfl, z⟩ := z
    simp only [RelD] at r
    exact ⟨b, r, z⟩
theorem star2_of {e f : Expr} (h : notSt e = true) (h2 : notSt f = true) (env : PySem.Env) : starEach [e, f] env = [(false, eval e env), (false, eval f env)] := by
  rw [star_of h, star_of h2]; rfl
theorem m1_of {o e : Expr} {m : Str} {ap cp : Pos} (hc : notCall o = true) (hl : (ap.endLine == cp.line) = true) (hs : notSt e = true) : M1 X o m ap e cp :=
  ⟨base_of hc _ _, few_of hs cp X.env, hl, by rw [star_of hs]; rfl⟩
theorem m2_of {o e f : Expr} {m : Str} {ap cp : Pos} (hc : notCall o = true) (hl : (ap.endLine == cp.line) = true) (hs : notSt e = true) (hs2 : notSt f = true) : M2 X o m ap e f cp :=
  ⟨base_of hc _ _, by rw [star2_of hs hs2]; rfl, hl, by rw [star2_of hs hs2]; rfl⟩
theorem s_get1 (ok : Ok X CA G W C) {o a : Ex} {l r : Expr} {ap cp : Pos} (hc : notCall l = true) (hl : (ap.endLine == cp.line) = true) (hs : notSt r = true) (ho : PE X l (tE X.K CA G W o)) (ha : PE X r (tE X.K CA G W a)) :
    PE X (.Call (.Attribute l "get" ap) [r] [] cp) (tE X.K CA G W (.get1 o a)) := by
  have hu : X.A.units + 1 < cLine := by have := ok.un; omega
  refine PE.by_ (pe_dget1 hu ho ha (m1_of hc hl hs)) ?_
  rintro σ H Q ⟨S, L, env, g, er, q⟩
  simp only [ev] at q
  refine tE.seq g er q fun d S1 L1 H1 v st g1 er1 r1 q1 => ?_
  split at q1
  · rename_i hi
    obtain ⟨b, rfl, isd⟩ := isDct_rel g1 hi r1
    refine ⟨b, rfl, isd, tE.seq g1 er1 q1 fun d2 S2 L2 H2 v2 st2 g2 er2 r2 q2 => ?_⟩
    unfold getR at q2
    split at q2
    · rename_i oo hd
      obtain ⟨b', w, e, dg, h1, h2⟩ := dget_rel g2 hd (r1.step g1 st2) r2
      cases e
      refine ⟨w, dg, ?_⟩
      cases oo with
      | none =>
        rw [h2 rfl]
        exact Aft.now g2 q2 (by simp [RelD])
      | some d3 =>
        obtain ⟨z, rfl, rz⟩ := h1 d3 rfl
        exact Aft.now g2 q2 rz
    · exact q2.elim
  · exact q1.elim
theorem s_get2 (ok : Ok X CA G W C) {o a b : Ex} {l r t : Expr} {ap cp : Pos} (hc : notCall l = true) (hl : (ap.endLine == cp.line) = true) (hs : notSt r = true) (hs2 : notSt t = true) (ho : PE X l (tE X.K CA G W o)) (ha : PE X r (tE X.K CA G W a)) (hb : PE X t (tE X.K CA G W b)) :
    PE X (.Call (.Attribute l "get" ap) [r, t] [] cp) (tE X.K CA G W (.get2 o a b)) := by
  have hu : X.A.units + 1 < cLine := by have := ok.un; omega
  refine PE.by_ (pe_dget2 hu ho ha hb (m2_of hc hl hs hs2)) ?_
  rintro σ H Q ⟨S, L, env, g, er, q⟩
  simp only [ev] at q
  refine tE.seq g er q fun d S1 L1 H1 v st g1 er1 r1 q1 => ?_
  split at q1
  · rename_i hi
    obtain ⟨b, rfl, isd⟩ := isDct_rel g1 hi r1
    refine ⟨b, rfl, isd, tE.seq g1 er1 q1 fun d2 S2 L2 H2 v2 st2 g2 er2 r2 q2 => tE.seq g2 er2 q2 fun d3 S3 L3 H3 v3 st3 g3 er3 r3 q3 => ?_⟩
    unfold getR at q3
    split at q3
    · rename_i oo hd
      obtain ⟨b', w, e, dg, h1, h2⟩ := dget_rel g3 hd ((r1.step g1 st2).step g2 st3) (r2.step g2 st3)
      cases e
      refine ⟨w, dg, ?_⟩
      cases oo with
      | none =>
        rw [h2 rfl]
        exact Aft.now g3 q3 r3
      | some d3 =>
        obtain ⟨z, rfl, rz⟩ := h1 d3 rfl
        exact Aft.now g3 q3 rz
    · exact q3.elim
  · exact q1.elim
/-- a dict is written -/
theorem Aft.putK (g : Good X.K CA S L H) {n : Nat} {kvs : List (Key × D)} {vs ws : List (Key × V)} {a : Addr} {d : D} {Q : VK} (h : Aft X.K CA W σ L H (.ok d (S.set n (.dK kvs))) fun d _ L' H' => ∀ v, RelD X.K L' H' d v → Q v H')
    (hn : L[n]? = some a) (e : H a = some (.dK vs)) (k : ws.map (·.1) = kvs.map (·.1)) (r : RelDs X.K L H (kvs.map (·.2)) (ws.map (·.2))) {v : V} (rd : RelD X.K L H d v) : Q v (upd H a (.dK ws)) := by
  have m : Mon L H L (upd H a (.dK ws)) := ⟨fun _ _ h => h, fun b o eb pb => by
    rw [upd_ne (by intro z; subst z; rw [e] at eb; cases eb; exact pb)]; exact eb⟩
  obtain ⟨st, g1⟩ := g.write (c := .dK kvs) (o := .dK ws) hn ⟨ws, upd_same, k, RelDs.mon m _ _ r⟩
  exact h _ _ st g1 v (RelD.mon m _ _ rd)
theorem s_dpop (ok : Ok X CA G W C) {o a : Ex} {l r : Expr} {ap cp : Pos} (hc : notCall l = true) (hl : (ap.endLine == cp.line) = true) (hs : notSt r = true) (ho : PE X l (tE X.K CA G W o)) (ha : PE X r (tE X.K CA G W a)) :
    PE X (.Call (.Attribute l "pop" ap) [r] [] cp) (tE X.K CA G W (.dpop o a)) := by
  refine PE.by_ (pe_dpop1 ho ha (m1_of hc hl hs)) ?_
  rintro σ H Q ⟨S, L, env, g, er, q⟩
  simp only [ev] at q
  refine tE.seq g er q fun d S1 L1 H1 v st g1 er1 r1 q1 => ?_
  split at q1
  · rename_i hi
    obtain ⟨b, rfl, isd⟩ := isDct_rel g1 hi r1
    refine ⟨b, rfl, isd, tE.seq g1 er1 q1 fun d2 S2 L2 H2 v2 st2 g2 er2 r2 q2 => ?_⟩
    unfold dpopR at q2
    split at q2
    · rename_i n
      split at q2
      · rename_i kvs k e hk
        split at q2
        · rename_i v3 hv
          have r1' := r1.step g1 st2
          simp only [RelD] at r1'
          obtain ⟨b', hn, e9⟩ := r1'
          cases e9
          obtain ⟨vs, e1, e2, e3⟩ := g2.cell n _ b e hn
          obtain ⟨w, hw, rw_⟩ := (look_rel (k := k) e2 e3).1 _ hv
          obtain ⟨d1, d2⟩ := drop_rel k e2 e3
          exact ⟨vs, k, w, e1, key_rel hk r2, hw, Aft.putK g2 q2 hn e1 d1 d2 rw_⟩
        · exact q2.elim
      · exact q2.elim
    · exact q2.elim
  · exact q1.elim
theorem findP_ok (a : PyData) : ∀ (l : List PyData) (j : Nat), findP a l = some j → (∃ z, l[j]? = some z ∧ PyData.eqv z a = true) ∧ ∀ (m : Nat) (z' : PyData), m < j → l[m]? = some z' → PyData.eqv z' a = false
  | [], j, h => by cases h
  | b :: r, j, h => by
    unfold findP at h
    split at h
    · rename_i hb
      cases h
      exact ⟨⟨b, rfl, hb⟩, fun m z' hm _ => by omega⟩
    · rename_i hb
      rw [Option.map_eq_some_iff] at h
      obtain ⟨i, hi, rfl⟩ := h
      obtain ⟨⟨z, h1, h2⟩, h3⟩ := findP_ok a r i hi
      refine ⟨⟨z, by simpa using h1, h2⟩, fun m z' hm hz => ?_⟩
      cases m with
      | zero => simp at hz; subst hz; simpa using hb
      | succ m => exact h3 m z' (by omega) (by simpa using hz)
theorem s_ixo (ok : Ok X CA G W C) {o a : Ex} {l r : Expr} {ap cp : Pos} (hc : notCall l = true) (hl : (ap.endLine == cp.line) = true) (hs : notSt r = true) (ho : PE X l (tE X.K CA G W o)) (ha : PE X r (tE X.K CA G W a)) :
    PE X (.Call (.Attribute l "index" ap) [r] [] cp) (tE X.K CA G W (.ixo o a)) := by
  have hu : X.A.units + 65 < cLine := by have := ok.un; omega
  refine PE.by_ (pe_bm PySem.F.plainAttrs_list PySem.F.slot_list_index PySem.F.type_list_index (mt_indexD hu) ho (pa_cons ha pa_nil (star_of hs [] X.env)) (base_of hc _ _) (few_of hs cp X.env) hl (star_of hs [] X.env) rfl) ?_
  rintro σ H Q ⟨S, L, env, g, er, q⟩
  simp only [ev] at q
  refine tE.seq g er q fun d S1 L1 H1 v st g1 er1 r1 q1 => ?_
  split at q1
  · rename_i hi
    obtain ⟨ty, n, xs, b, vs, rfl, hx, hn, rfl, _⟩ := isLst_rel g1 hi r1
    refine ⟨ty, tE.seq g1 er1 q1 fun d2 S2 L2 H2 v2 st2 g2 er2 r2 q2 => ?_⟩
    unfold ixoR at q2
    split at q2
    · rename_i bs pa h1 h2
      split at q2
      · rename_i j hj
        obtain ⟨a1, a2⟩ := toP_shaped g2 h1 (r1.step g1 st2)
        obtain ⟨b1, b2⟩ := toP_shaped g2 h2 r2
        obtain ⟨⟨z, f1, f2⟩, f3⟩ := findP_ok pa bs j hj
        exact ⟨b, v2, pa, bs, j, z, rfl, rfl, a1, b1, a2, b2, f1, f2, f3, Aft.int g2 q2⟩
      · exact q2.elim
    · exact q2.elim
  · exact q1.elim
theorem few2_of {e f : Expr} (h : notSt e = true) (h2 : notSt f = true) (cp : Pos) (env : PySem.Env) : ((backTo cp (starEach [e, f] env)).all (fun x => !x.1) && (backToKw cp (keywordEach [] env)).all (fun x => x.1.isSome)
      && decide (([e, f] : List Expr).length + ([] : List Keyword).length + (if ([] : List Keyword).isEmpty then 0 else 1) < 30)) = true := by
  rw [star2_of h h2 env]; rfl
theorem s_ins {o i a : Ex} {l r t : Expr} {ap cp : Pos} (hc : notCall l = true) (hl : (ap.endLine == cp.line) = true) (hs : notSt r = true) (hs2 : notSt t = true) (ho : PE X l (tE X.K CA G W o)) (hi : PE X r (tE X.K CA G W i)) (ha : PE X t (tE X.K CA G W a)) :
    PE X (.Call (.Attribute l "insert" ap) [r, t] [] cp) (tE X.K CA G W (.ins o i a)) := by
  refine PE.by_ (pe_bm PySem.F.plainAttrs_list PySem.F.slot_list_insert PySem.F.type_list_insert mt_insert ho (pa_cons hi (pa_cons ha pa_nil (star_of hs2 [] X.env)) (star_of hs _ X.env)) (base_of hc _ _) (few2_of hs hs2 cp X.env) hl (star_of hs _ X.env) (by rw [star_of hs2]; rfl)) ?_
  rintro σ H Q ⟨S, L, env, g, er, q⟩
  simp only [ev] at q
  refine tE.seq g er q fun d S1 L1 H1 v st g1 er1 r1 q1 => ?_
  split at q1
  · rename_i hi
    refine ⟨(isLst_rel g1 hi r1).1, tE.seq g1 er1 q1 fun d2 S2 L2 H2 v2 st2 g2 er2 r2 q2 => tE.seq g2 er2 q2 fun d3 S3 L3 H3 v3 st3 g3 er3 r3 q3 => ?_⟩
    unfold insR at q3
    split at q3
    · rename_i n j
      split at q3
      · rename_i xs hx
        split at q3
        · rename_i hz
          have r1' := (r1.step g1 st2).step g2 st3
          have r2' := r2.step g2 st3
          simp only [RelD] at r1' r2'
          obtain ⟨b, hn, rfl⟩ := r1'
          subst r2'
          obtain ⟨vs, e1, rs⟩ := getL_rel g3 hx hn
          refine ⟨b, vs, j, v3, rfl, rfl, e1, by rw [rs.length]; exact small (Nat.le_of_lt hz.1), hz.2.1, by omega, Aft.set g3 q3 hn e1 (((rs.take _).append (RelDs.cons r3 RelDs.nil)).append (rs.drop _)) fun H' => by simp [RelD]⟩
        · exact q3.elim
      · exact q3.elim
    · exact q3.elim
  · exact q1.elim
theorem RelDs.dropLast {ds : List D} {vs : List V} (h : RelDs X.K L H ds vs) : RelDs X.K L H ds.dropLast vs.dropLast := by
  rw [List.dropLast_eq_take, List.dropLast_eq_take, h.length]
  exact h.take _
theorem RelDs.eraseIdx {ds : List D} {vs : List V} (h : RelDs X.K L H ds vs) (i : Nat) : RelDs X.K L H (ds.eraseIdx i) (vs.eraseIdx i) := by
  rw [List.eraseIdx_eq_take_drop_succ, List.eraseIdx_eq_take_drop_succ]
  exact (h.take _).append (h.drop _)
/-- a list is written, an old item told -/
theorem Aft.setV (g : Good X.K CA S L H) {n : Nat} {ys : List D} {vs ws : List V} {a : Addr} {d : D} {Q : VK} (h : Aft X.K CA W σ L H (.ok d (S.set n (.lst ys))) fun d _ L' H' => ∀ v, RelD X.K L' H' d v → Q v H')
    (hn : L[n]? = some a) (e : H a = some (.lst vs)) (r : RelDs X.K L H ys ws) {v : V} (rd : RelD X.K L H d v) : Q v (upd H a (.lst ws)) := by
  have m : Mon L H L (upd H a (.lst ws)) := ⟨fun _ _ h => h, fun b o eb pb => by
    rw [upd_ne (by intro z; subst z; rw [e] at eb; cases eb; exact pb)]; exact eb⟩
  obtain ⟨st, g1⟩ := g.write (c := .lst ys) (o := .lst ws) hn ⟨ws, upd_same, RelDs.mon m _ _ r⟩
  exact h _ _ st g1 v (RelD.mon m _ _ rd)
theorem s_pop0 {o : Ex} {l : Expr} {ap cp : Pos} (hc : notCall l = true) (hl : (ap.endLine == cp.line) = true) (ho : PE X l (tE X.K CA G W o)) :
    PE X (.Call (.Attribute l "pop" ap) [] [] cp) (tE X.K CA G W (.pop0 o)) := by
  refine PE.by_ (pe_bm0 PySem.F.plainAttrs_list PySem.F.slot_list_pop PySem.F.type_list_pop mt_pop ho (base_of hc _ _) hl) ?_
  rintro σ H Q ⟨S, L, env, g, er, q⟩
  simp only [ev] at q
  refine tE.seq g er q fun d S1 L1 H1 v st g1 er1 r1 q1 => ?_
  unfold pop0R at q1
  split at q1
  · split at q1
    · rename_i n xs hx
      split at q1
      · rename_i y hy
        obtain ⟨ty, _⟩ := isLst_rel g1 (by simp [isLst, hx]) r1
        simp only [RelD] at r1
        obtain ⟨b, hn, rfl⟩ := r1
        obtain ⟨vs, e1, rs⟩ := getL_rel g1 hx hn
        obtain ⟨v, hv, rv⟩ := rs.get hy
        exact ⟨ty, b, vs, v, rfl, rfl, e1, by rw [rs.length]; exact hv, Aft.setV g1 q1 hn e1 rs.dropLast rv⟩
      · exact q1.elim
    · exact q1.elim
  · exact q1.elim
theorem seqIx_ok {j : Int} {n : Nat} (h : 0 ≤ j) (h2 : j.toNat < n) : seqIndex? j n = some j.toNat := by
  unfold seqIndex?
  have h3 : ¬ j < 0 := by omega
  simp only [h3, if_false]
  rw [if_pos]
  simp only [Bool.and_eq_true, decide_eq_true_eq]
  omega
theorem s_pop1 {o a : Ex} {l r : Expr} {ap cp : Pos} (hc : notCall l = true) (hl : (ap.endLine == cp.line) = true) (hs : notSt r = true) (ho : PE X l (tE X.K CA G W o)) (ha : PE X r (tE X.K CA G W a)) :
    PE X (.Call (.Attribute l "pop" ap) [r] [] cp) (tE X.K CA G W (.pop1 o a)) := by
  refine PE.by_ (pe_bm PySem.F.plainAttrs_list PySem.F.slot_list_pop PySem.F.type_list_pop mt_popAt ho (pa_cons ha pa_nil (star_of hs [] X.env)) (base_of hc _ _) (few_of hs cp X.env) hl (star_of hs [] X.env) rfl) ?_
  rintro σ H Q ⟨S, L, env, g, er, q⟩
  simp only [ev] at q
  refine tE.seq g er q fun d S1 L1 H1 v st g1 er1 r1 q1 => ?_
  split at q1
  · rename_i hi
    refine ⟨(isLst_rel g1 hi r1).1, tE.seq g1 er1 q1 fun d2 S2 L2 H2 v2 st2 g2 er2 r2 q2 => ?_⟩
    unfold pop1R at q2
    split at q2
    · rename_i n j
      split at q2
      · rename_i xs hx
        split at q2
        · rename_i y hy
          split at q2
          · rename_i hz
            have r1' := r1.step g1 st2
            simp only [RelD] at r1' r2
            obtain ⟨b, hn, rfl⟩ := r1'
            subst r2
            obtain ⟨vs, e1, rs⟩ := getL_rel g2 hx hn
            obtain ⟨v, hv, rv⟩ := rs.get hy
            have hlt := (List.getElem?_eq_some_iff.mp hv).1
            exact ⟨b, vs, j, j.toNat, v, rfl, rfl, e1, by omega, by omega, seqIx_ok hz.1 hlt, hv, Aft.setV g2 q2 hn e1 (rs.eraseIdx _) rv⟩
          · exact q2.elim
        · exact q2.elim
      · exact q2.elim
    · exact q2.elim
  · exact q1.elim
end
end Lt
set_option maxRecDepth 100000
set_option maxHeartbeats 2000000
namespace Lt
open PySem PySem.Spec PyProof.Rows L2
section
variable {X : Cx} {CA : Str → Addr} {G : Cxp} {W : WX} {C : MC} {S S' : Store} {L L1 M2 L' : List Addr} {H H1 H2 H' : Hp} {σ : Sl} {e : Expr}
/-- a dict that stood aside, empty, is filled and becomes a cell -/
theorem Good.fillK (g : Good X.K CA S L H) {p : Addr} {kvs : List (Key × Lt.D)} {vs : List (Key × V)} (e : H p = some (.dK [])) (hn : p ∉ L) (hk : vs.map (·.1) = kvs.map (·.1)) (r : RelDs X.K L H (kvs.map (·.2)) (vs.map (·.2))) :
    Good X.K CA (S ++ [.dK kvs]) (L ++ [p]) (upd H p (.dK vs)) := by
  have m : Mon L H (L ++ [p]) (upd H p (.dK vs)) := ⟨fun n a h => by rw [List.getElem?_append_left (List.getElem?_eq_some_iff.mp h).1]; exact h, fun a o h hp => by
    rw [upd_ne (by intro z; subst z; rw [e] at h; cases h; exact hp)]; exact h⟩
  refine ⟨by simp [g.len], ?_, fun n c' a h1 h2 => ?_⟩
  · rw [List.nodup_append]
    refine ⟨g.nd, by simp, fun x hx y hy => ?_⟩
    rw [List.mem_singleton] at hy
    subst hy
    exact fun e => hn (e ▸ hx)
  · by_cases hlt : n < S.length
    · rw [List.getElem?_append_left hlt] at h1
      rw [List.getElem?_append_left (by rw [g.len]; exact hlt)] at h2
      have ha : a ∈ L := List.mem_of_getElem? h2
      refine (g.cell n c' a h1 h2).mon m (upd_ne fun z => hn (z ▸ ha)) fun dx ex => ?_
      rw [upd_ne (by intro z; subst z; rw [e] at ex; cases ex)]; exact ex
    · have en : n = S.length := by
        have := (List.getElem?_eq_some_iff.mp h1).1
        simp at this; omega
      subst en
      rw [List.getElem?_append_right (Nat.le_refl _)] at h1
      rw [List.getElem?_append_right (by rw [g.len]; exact Nat.le_refl _)] at h2
      simp at h1
      simp [g.len] at h2
      subst h1 h2
      exact ⟨vs, upd_same, hk, RelDs.mon m _ _ r⟩
/-- each one's reading -/
def AllPE (CA : Str → Addr) (G : Cxp) (X : Cx) (W : WX) : List Ex → List Expr → Prop
  | [], [] => True
  | x :: xs, e :: es => PE X e (tE X.K CA G W x) ∧ AllPE CA G X W xs es
  | _, _ => False
/-- the readings of the pairs -/
def prs (K : PySem.W.Frag) (CA : Str → Addr) (G : Cxp) (W : WX) : List Ex → List (TE × TE)
  | k :: v :: r => (tE K CA G W k, tE K CA G W v) :: prs K CA G W r
  | _ => []
theorem pps_of : ∀ {ks : List (Option Expr)} {vs xs : List Expr} {es : List Ex} {p : Pos}, flatE ks vs = some xs → AllPE CA G X W es xs → PPs X p ks vs (prs X.K CA G W es) ∧ ks.all (·.isSome) = true ∧ ks.length = vs.length
  | [], [], xs, es, p, h, a => by
    simp only [flatE, Option.some.injEq] at h; subst h
    cases es with
    | nil => exact ⟨pps_nil, rfl, rfl⟩
    | cons _ _ => exact a.elim
  | some k :: ks, v :: vs, xs, es, p, h, a => by
    simp only [flatE, Option.map_eq_some_iff] at h
    obtain ⟨r, h1, rfl⟩ := h
    cases es with
    | nil => exact a.elim
    | cons x es =>
      obtain ⟨a1, a2⟩ := a
      cases es with
      | nil => exact a2.elim
      | cons y es =>
        obtain ⟨a2, a3⟩ := a2
        obtain ⟨h2, h3, h4⟩ := pps_of (p := p) h1 a3
        exact ⟨pps_cons a1 a2 h2, by simpa using h3, by simp [h4]⟩
  | none :: ks, _, xs, es, p, h, a => by simp [flatE] at h
  | some k :: ks, [], xs, es, p, h, a => by simp [flatE] at h
  | [], v :: vs, xs, es, p, h, a => by simp [flatE] at h
/-- pairs stand for pairs -/
def RelPs (K : PySem.W.Frag) (L : List Addr) (H : Hp) : List Lt.D → List (V × V) → Prop
  | [], ps => ps = []
  | k :: v :: r, ps => ∃ x y t, ps = (x, y) :: t ∧ RelD K L H k x ∧ RelD K L H v y ∧ RelPs K L H r t
  | [_], _ => False
theorem keyV {K : PySem.W.Frag} {d : Lt.D} {k : Key} (h : keyD d = some k) {v : V} (r : RelD K L H d v) : v = kV k := by
  cases d <;> simp [keyD] at h
  · subst h; simp only [RelD] at r; rw [r]; rfl
  · subst h; simp only [RelD] at r; rw [r]; rfl
theorem pairs_rel : ∀ {ds : List Lt.D} {ps : List (V × V)} {kvs : List (Key × Lt.D)}, pairsD ds = some kvs → RelPs X.K L H ds ps → ∃ kws : List (Key × V), ps = kws.map (fun kv => (kV kv.1, kv.2)) ∧ kws.map (·.1) = kvs.map (·.1) ∧ RelDs X.K L H (kvs.map (·.2)) (kws.map (·.2))
  | [], ps, kvs, h, r => by
    simp only [pairsD, Option.some.injEq] at h; subst h
    simp only [RelPs] at r; subst r
    exact ⟨[], rfl, rfl, RelDs.nil⟩
  | [_], ps, kvs, h, r => by simp [pairsD] at h
  | k :: v :: t, ps, kvs, h, r => by
    simp only [pairsD] at h
    split at h
    · rename_i kk l h1 h2
      cases h
      simp only [RelPs] at r
      obtain ⟨x, y, t', rfl, r1, r2, r3⟩ := r
      obtain ⟨kws, e1, e2, e3⟩ := pairs_rel h2 r3
      refine ⟨(kk, y) :: kws, ?_, by simp [e2], ?_⟩
      · rw [keyV h1 r1, e1]; rfl
      · exact RelDs.cons r2 e3
    · cases h
theorem put_merge : ∀ {kvs acc : List (Key × Lt.D)} {kws acw : List (Key × V)}, kws.map (·.1) = kvs.map (·.1) → RelDs X.K L H (kvs.map (·.2)) (kws.map (·.2)) → acw.map (·.1) = acc.map (·.1) → RelDs X.K L H (acc.map (·.2)) (acw.map (·.2)) →
    (kws.foldl (fun a kv => putK a kv.1 kv.2) acw).map (·.1) = (kvs.foldl (fun a kv => putKD a kv.1 kv.2) acc).map (·.1) ∧ RelDs X.K L H ((kvs.foldl (fun a kv => putKD a kv.1 kv.2) acc).map (·.2)) ((kws.foldl (fun a kv => putK a kv.1 kv.2) acw).map (·.2))
  | [], acc, kws, acw, h1, _, h3, h4 => by
    have : kws = [] := by simpa using h1
    subst this
    exact ⟨h3, h4⟩
  | (k, d) :: kvs, acc, [], acw, h1, _, _, _ => by simp at h1
  | (k, d) :: kvs, acc, (k', v) :: kws, acw, h1, h2, h3, h4 => by
    simp only [List.map_cons, List.cons.injEq] at h1
    obtain ⟨rfl, h1⟩ := h1
    rw [List.map_cons, List.map_cons] at h2
    simp only [RelDs] at h2
    obtain ⟨w, r, e, h2, h5⟩ := h2
    cases e
    obtain ⟨q1, q2⟩ := put_rel k' h2 h3 h4
    exact put_merge (kvs := kvs) (kws := kws) h1 h5 q1 q2
def Ev2 : List Ex → Prop
  | [] => True
  | [_] => False
  | _ :: _ :: r => Ev2 r
theorem ev2_of : ∀ {ks : List (Option Expr)} {vs xs : List Expr} {es : List Ex}, flatE ks vs = some xs → AllPE CA G X W es xs → Ev2 es
  | [], [], xs, es, h, a => by
    simp only [flatE, Option.some.injEq] at h; subst h
    cases es with
    | nil => exact True.intro
    | cons _ _ => exact a.elim
  | some k :: ks, v :: vs, xs, es, h, a => by
    simp only [flatE, Option.map_eq_some_iff] at h
    obtain ⟨r, h1, rfl⟩ := h
    cases es with
    | nil => exact a.elim
    | cons x es =>
      obtain ⟨a1, a2⟩ := a
      cases es with
      | nil => exact a2.elim
      | cons y es => exact ev2_of (es := es) (ks := ks) (vs := vs) h1 a2.2
  | none :: ks, _, xs, es, h, a => by simp [flatE] at h
  | some k :: ks, [], xs, es, h, a => by simp [flatE] at h
  | [], v :: vs, xs, es, h, a => by simp [flatE] at h
theorem pairs_read : ∀ {es : List Ex} {env : Lt.Env} {S : Store} {L : List Addr} {H : Hp} {p : Addr} {Q : List (V × V) → Hp → Prop} {P : List Lt.D → Store → List Addr → Hp → Prop}, Ev2 es → Good X.K CA S L H → EnvR X.K G.pin L H env σ → H p = some (.dK []) → p ∉ L →
    Aft X.K CA W σ L H (evs G es env S) P → (∀ ds S1 L1 H1 ps, Step L H L1 H1 → Good X.K CA S1 L1 H1 → P ds S1 L1 H1 → RelPs X.K L1 H1 ds ps → Q ps H1) → tPairs (prs X.K CA G W es) σ H Q
  | [], env, S, L, H, p, Q, P, _, g, er, hp, hn, h, m => by
    simp only [evs] at h
    exact m [] S L H [] Step.refl g (h L H Step.refl g) rfl
  | [_], env, S, L, H, p, Q, P, z, g, er, hp, hn, h, m => z.elim
  | k :: v :: r, env, S, L, H, p, Q, P, z, g, er, hp, hn, h, m => by
    simp only [evs] at h
    refine tE.seq g er h fun d1 S1 L1 H1 v1 st1 g1 er1 r1 q1 => ?_
    refine tE.seq g1 er1 q1.bind fun d2 S2 L2 H2 v2 st2 g2 er2 r2 q2 => ?_
    obtain ⟨hp2, hn2⟩ := (st1.trans st2).side hp hn
    refine pairs_read (es := r) z g2 er2 hp2 hn2 q2.bind fun ds S3 L3 H3 ps st3 g3 hP rel => ?_
    obtain ⟨_, _, h3⟩ := hP
    obtain ⟨_, _, h4⟩ := h3 L3 H3 Step.refl g3
    exact m (d1 :: d2 :: ds) S3 L3 H3 ((v1, v2) :: ps) (st1.trans (st2.trans st3)) g3 (h4 L3 H3 Step.refl g3) ⟨v1, v2, ps, rfl, (r1.step g1 st2).step g2 st3, r2.step g2 st3, rel⟩
theorem s_dsp {ks : List (Option Expr)} {vs xs : List Expr} {es : List Ex} {p : Pos} (hf : flatE ks vs = some xs) (h15 : ks.length ≤ 15) (a : AllPE CA G X W es xs) (h0 : es ≠ []) : PE X (.Dict ks vs p) (tE X.K CA G W (.dsp es)) := by
  obtain ⟨hpp, hall, hl⟩ := pps_of (p := p) hf a
  have hk : ks ≠ [] := by
    intro z
    subst z
    cases vs with
    | nil =>
      simp only [flatE, Option.some.injEq] at hf; subst hf
      cases es with
      | nil => exact h0 rfl
      | cons _ _ => exact a.elim
    | cons _ _ => simp at hl
  refine PE.by_ (pe_disp hpp hall hl hk h15) ?_
  rintro σ H Q ⟨S, L, env, g, er, q⟩
  simp only [ev] at q
  intro pa hpa
  obtain ⟨st0, g0⟩ := g.side (o := .dK []) hpa
  have hn0 := g.fresh hpa
  refine pairs_read (p := pa) (ev2_of hf a) g0 (er.step g st0) upd_same hn0 (Aft.from st0 q.bind0) fun ds S1 L1 H1 ps st1 g1 hP rel => ?_
  have h3 := hP
  obtain ⟨hp1, hn1⟩ := st1.side upd_same hn0
  refine ⟨hp1, ?_⟩
  unfold dspR at h3
  split at h3
  · rename_i kvs hkv
    split at h3
    · rename_i h15'
      obtain ⟨kws, e1, e2, e3⟩ := pairs_rel hkv rel
      refine ⟨kws, e1, by have := congrArg List.length e2; simp at this; omega, ?_⟩
      obtain ⟨m1, m2⟩ := put_merge (acc := []) (acw := []) e2 e3 rfl RelDs.nil
      have g2 := g1.fillK (kvs := mergeD kvs) (vs := mergeK [] kws) hp1 hn1 m1 m2
      have stT := st0.trans st1
      have st2 : Step L H (L1 ++ [pa]) (upd H1 pa (.dK (mergeK [] kws))) := by
        refine ⟨?_, fun x hx => ?_, fun x o ex hx => ?_⟩
        · obtain ⟨M, rfl⟩ := stT.ext
          exact ⟨M ++ [pa], by simp⟩
        · rcases List.mem_append.mp hx with z | z
          · exact stT.fresh x z
          · rw [List.mem_singleton] at z; subst z; exact .inr hpa
        · rw [upd_ne (by intro z; subst z; rw [hpa] at ex; cases ex)]
          exact stT.keep x o ex hx
      refine h3 _ _ st2 g2 (.ref pa) ?_
      simp only [RelD]
      exact ⟨pa, by rw [← g1.len, List.getElem?_append_right (Nat.le_refl _)]; simp, rfl⟩
    · exact h3.elim
  · exact h3.elim
end
end Lt
namespace L2
open PySem PySem.Spec PyProof.Rows
/-- what named clauses wish of an exception of the body, one after the other -/
def wNam (K : PySem.W.Frag) (Wout : WX) (D : Ends) : List (Nat × Value × (Addr → Value → Option Addr → TS)) → WX
  | [] => Wout
  | (i, c, ts) :: r => fun cls d σ H => ∃ b, PySem.W.exmOne K cls c = some b ∧
      (b = true → ∀ a, H a = none → ts a cls d { nx := fun σ' H' => D.nx (σ'.set i none) H', rt := D.rt, bk := fun σ' H' => D.bk (σ'.set i none) H', ct := fun σ' H' => D.ct (σ'.set i none) H' } (σ.set i (some (.ref a))) H) ∧
      (b = false → wNam K Wout D r cls d σ H)
inductive HdsN (X : Cx) : List ExceptHandler → List (Nat × Value × (Addr → Value → Option Addr → TS)) → Prop
  | nil : HdsN X [] []
  | cons {x n : Str} {i : Nat} {c : Value} {ts : Addr → Value → Option Addr → TS} {b₀ : Stmt} {suite : List Stmt} {np pos' : Pos} {hds : List ExceptHandler} {l : List (Nat × Value × (Addr → Value → Option Addr → TS))} (hi : X.N[i]? = some n) (hln : X.env.kindOf n = some .local) (hc : Names X x c)
      (hsu : ∀ (a : Addr) (oe : Obj) (cls : Value) (d : Option Addr) (pn : List (Addr × Obj)), Zc cls d oe → (∃ vs, oe.data = .fields vs) → PSs (X.suite a ((a, oe) :: pn)) (b₀ :: suite) (ts a cls d)) (r : HdsN X hds l) :
      HdsN X (.ExceptHandler (some (.Name x np)) (some n) (b₀ :: suite) pos' :: hds) ((i, c, ts) :: l)
section
variable {X : Cx} {body : List Stmt} {h₀ : ExceptHandler} {hds : List ExceptHandler} {l : List (Nat × Value × (Addr → Value → Option Addr → TS))} {pos : Pos} {tb : WX → TS} {Wout : WX}
theorem ps_try_nam (hs : X.stack = X.env :: X.outer) (hf : X.env.frame = some X.env.locals) (hN : X.N.Nodup) (tk : Takes X Wout)
    (hb : ∀ (W : WX) (pn : List (Addr × Obj)) (xe : Value → Shared → Prop), Takes (X.tr pn xe) W → PassesOwn (model X.prog X.w) X.A X.env xe → PSs (X.tr pn xe) body (tb W))
    (hh : HdsN X (h₀ :: hds) l) : PS X (.Try body (h₀ :: hds) [] [] pos) (fun D σ H => tb (wNam X.K Wout D l) D σ H) := by
  refine ⟨fun pins s σ H D I h => ?_⟩
  have ok := I.ok
  have hfr : X.A.frames = some (X.env :: X.outer) := by rw [ok.frames, hs]
  refine wpAny_Try_except ?_
  refine wpAny_mono ((hb (wNam X.K Wout D l) (X.pn ++ pins) (fun e s₁ => wpAny (model X.prog X.w) X.A (noteFrame e X.env) (fun _ s₂ => wpAny (model X.prog X.w) X.A (setFlight e none) (fun _ s₃ =>
    wpAny (model X.prog X.w) X.A (handleBy e X.env (h₀ :: hds)) (SP X pins D) X.xe s₃) X.xe s₂) X.xe s₁) (fun u s' xx => ?_) PassesOwn.looking).run [] s σ H D (I.toTry _) h) (fun f s1 hsp => ?_) (fun e s1 he => he)
  · obtain ⟨a, B, sI, pins', σ', H', cls, d, rfl, J', nb, up, sky, na, os, ag, w⟩ := xx
    have J : Inv X pins σ' H' sI := J'.ofTry ok
    have sky' : Sky B (X.env :: X.outer) a (Zc cls d) X.env.locals s'.heap := by rw [← hs]; exact sky
    show wpAny (model X.prog X.w) X.A (noteFrame (.ref a) X.env) _ _ _
    refine Sky.land Zc.steady hfr hf sky' fun h3 fl3 up3 => ?_
    have J3 : Inv X pins σ' H' { s' with heap := h3 } := J.landed nb fl3.1 (up.trans up3) os ag
    obtain ⟨oe3, vs3, he3, hz3, hd3⟩ := fl3.there
    have notFr : ∀ {h : Heap} {o : Obj} {vs : Array Value}, h.FunFrames B (X.env :: X.outer) → h.get? a = some o → o.data = .fields vs → a ∉ frs (X.env :: X.outer) := fun {h o vs} ff e dd hm => by
      obtain ⟨_, o', e', hnf⟩ := ff.mem hm
      rw [e] at e'; cases e'
      exact hnf _ dd
    have nfr := notFr fl3.2.2.1 he3 hd3
    have nL : a ≠ X.env.locals := fun z => nfr (List.mem_filterMap.mpr ⟨X.env, List.mem_cons_self, by rw [hf, z]⟩)
    have nF : a ∉ X.fs := fun hm => by
      obtain ⟨e, he, q⟩ := List.mem_filterMap.mp hm
      exact nfr (List.mem_filterMap.mpr ⟨e, List.mem_cons_of_mem _ he, q⟩)
    have S3 := J3.suite he3 hd3 na nL nF
    have go : ∀ {hds' : List ExceptHandler} {l' : List (Nat × Value × (Addr → Value → Option Addr → TS))}, HdsN X hds' l' → wNam X.K Wout D l' cls d σ' H' →
        wpAny (model X.prog X.w) X.A (handleBy (.ref a) X.env hds') (SP X pins D) X.xe { s' with heap := h3 } := by
      intro hds' l' hk
      induction hk with
      | nil =>
        intro w
        refine wpAny_handleBy_nil ?_
        obtain ⟨k1, k2, k3, oe, vs, T, oT, ts', he, hz, hd, h1, hr⟩ := id fl3
        unfold PySem.passOn
        refine wpAny_bind (wpAny_field he hd h1 ?_)
        rw [if_neg (show ¬ ((Value.ref T == Value.none) = true) from by simp)]
        have fin : wpAny (model X.prog X.w) X.A (setFlight (.ref a) X.env.frame) (fun _ s4 => wpAny (model X.prog X.w) X.A (throw (.ref a) : Sem Flow) (SP X pins D) X.xe s4) X.xe { s' with heap := h3 } := by
          rw [hf]
          refine HandSPX.setFlight_upZ fl3 fun h4 hh4 up4 => wpAny_throw (tk _ _ ?_)
          exact ⟨a, B, sI, pins, σ', H', cls, d, rfl, J, nb, (up.trans up3).trans up4, .inr (.inr (by rw [hs]; exact hh4)), na, os, ag, w⟩
        first
          | exact wpAny_bind (wpAny_pure (wpAny_bind fin))
          | exact wpAny_bind fin
      | @cons x n i c ts b₀ suite np pos' hds2 l2 hi hln hc hsu r ih =>
        intro w
        obtain ⟨b, hb1, hyes, hno⟩ := w
        have hloc : Loc X.env.scope n := .inl hln
        refine wpAny_handleBy_cons (codeAny_handlers_test ?_) (by intro q; cases q)
        have LT : PySem.W.Looks (model X.prog X.w) h3 (typeOf (.ref a)) cls := fun A Q E s k q => wpAny_typeOf_ref (k _ _ he3) (by rw [hz3.1]; exact q)
        have LM := PySem.W.exm_one (M := model X.prog X.w) (J3.kIn) LT hb1
        have test : ∀ {Q : Value → Shared → Prop} {E : Value → Shared → Prop}, Q c { s' with heap := h3 } → wpAny (model X.prog X.w) (X.A.mark (some (.ref a))) (eval (.Name x np) X.env) Q E { s' with heap := h3 } := fun {Q E} q => by
          obtain ⟨hg, hdbg, hm | ⟨hm, hv, hnn⟩⟩ := hc
          · exact ld_glob (X := X.suite a ((a, oe3) :: (X.pn ++ pins))) S3 hg hm q hdbg
          · exact ld_blt (X := X.suite a ((a, oe3) :: (X.pn ++ pins))) S3 hg hm hv q hnn hdbg
        refine test (LM.here ?_)
        cases b with
        | true =>
          refine codeAny_handlers_suite_as ?_
          refine HandSPX.lands_againZ fl3 fun h4 fl4 up4 => ?_
          have J4 : Inv X pins σ' H' { s' with heap := h4 } := J.landed nb fl4.1 ((up.trans up3).trans up4) os ag
          obtain ⟨oe4, vs4, he4, hz4, hd4⟩ := fl4.there
          have S4 := J4.suite he4 hd4 na nL nF
          refine store_ok (X := X.suite a ((a, oe4) :: (X.pn ++ pins))) (v := .ref a) S4 hN hi hloc rfl (fun s5 S5 => ?_) (.inr hln)
          refine wpAny_mono ((hsu a oe4 cls d (X.pn ++ pins) hz4 ⟨_, hd4⟩).run [] s5 _ H' _ S5 (hyes rfl a na)) (fun f s6 hsp => ?_) (fun _ _ z => False.elim z)
          have end_ : ∀ {σ6 : St} {H6 : Hp} {Q : Shared → Prop}, Inv (X.suite a ((a, oe4) :: (X.pn ++ pins))) [] σ6 H6 s6 → (∀ s7, Inv X pins (σ6.set i none) H6 s7 → Q s7) →
              wpAny (model X.prog X.w) X.A (do bindName X.env n .none; unbindBehindTheSuite X.env n pos') (fun _ s7 => Q s7) X.xe s6 := fun {σ6 H6 Q} S6 hq => gone_ok (S6.unsuite ok) hN hi hln hq
          cases f with
          | next =>
            obtain ⟨σ6, H6, S6, q6⟩ := hsp
            exact end_ S6 fun s7 J7 => ⟨_, _, J7, q6⟩
          | brk =>
            obtain ⟨σ6, H6, S6, q6⟩ := hsp
            exact end_ S6 fun s7 J7 => ⟨_, _, J7, q6⟩
          | cont =>
            obtain ⟨σ6, H6, S6, q6⟩ := hsp
            exact end_ S6 fun s7 J7 => ⟨_, _, J7, q6⟩
          | ret u =>
            obtain ⟨v6, σ6, H6, S6, r6, q6⟩ := hsp
            exact end_ S6 fun s7 J7 => ⟨_, _, _, J7, r6, q6⟩
        | false =>
          show wpAny _ X.A (handleBy (.ref a) X.env hds2) _ _ _
          exact ih (hno rfl)
    exact go hh w
  · cases f with
    | next =>
      obtain ⟨σ', H', J', q⟩ := hsp
      exact wpAny_execs_nil ⟨σ', H', J'.ofTry ok, q⟩
    | brk =>
      obtain ⟨σ', H', J', q⟩ := hsp
      exact ⟨σ', H', J'.ofTry ok, q⟩
    | cont =>
      obtain ⟨σ', H', J', q⟩ := hsp
      exact ⟨σ', H', J'.ofTry ok, q⟩
    | ret u =>
      obtain ⟨v, σ', H', J', r, q⟩ := hsp
      exact ⟨v, σ', H', J'.ofTry ok, r, q⟩
end
end L2
set_option maxHeartbeats 1000000
namespace Lt
open PySem PySem.Spec PyProof.Rows L2
section
variable {CA : Str → Addr} {G : Cxp}
theorem blk_kind {N : List Str} {sc scope : Scope} {own : List (Str × Nat)} (h : blkC N sc scope own = true) : scope.kind = .function := (blkOk_by h).kind
theorem own_snd (C : MC) (own : List Nat) : (ownL C own).map (·.2) = own := by
  unfold ownL
  rw [List.map_map]
  exact List.map_id' own
/-- a form whose truth is its value's -/
def plainT : Expr → Bool
  | .UnaryOp .Not _ _ => false
  | .BoolOp _ _ _ => false
  | .IfExp _ _ _ _ => false
  | .Compare _ _ _ _ => false
  | _ => true
theorem plain_of {e : Expr} (h : plainT e = true) (env : PySem.Env) : ∀ whole, isTrue e env whole = (do let v ← whole; standAt e.pos; PySem.holding [v] (truthy v)) := by
  intro whole
  cases e with
  | UnaryOp op a p => cases op <;> first | rfl | (exact absurd h Bool.false_ne_true)
  | BoolOp _ _ _ => exact absurd h Bool.false_ne_true
  | IfExp _ _ _ _ => exact absurd h Bool.false_ne_true
  | Compare _ _ _ _ => exact absurd h Bool.false_ne_true
  | _ => rfl
/-- as a value and as a test -/
def Both (CA : Str → Addr) (G : Cxp) (X : Cx) (W : WX) (x : Ex) (e : Expr) : Prop := PE X e (tE X.K CA G W x) ∧ (tOk x = true → PT X e (tT X.K CA G W x) ∧ ((∃ op vs p, e = .BoolOp op vs p) → PW X e (tT X.K CA G W x)))
theorem Both.of {X : Cx} {W : WX} {x : Ex} {e : Expr} (h : PE X e (tE X.K CA G W x)) (hp : plainT e = true) : Both CA G X W x e := ⟨h, fun _ => ⟨s_val h (plain_of hp X.env), fun ⟨op, vs, p, z⟩ => by subst z; cases hp⟩⟩
theorem Both.cm {X : Cx} {W : WX} {x : Ex} {l : Expr} {os : List CmpOp} {rs : List Expr} {p : Pos} (h : PE X (.Compare l os rs p) (tE X.K CA G W x) ∧ PT X (.Compare l os rs p) (tT X.K CA G W x)) : Both CA G X W x (.Compare l os rs p) := ⟨h.1, fun _ => ⟨h.2, fun ⟨op, vs, p, z⟩ => by cases z⟩⟩
theorem set_of {e : Expr} (h : notSet e = true) (env : PySem.Env) : ∀ x, foldedSetIterable e env x = pure x := by
  intro x
  cases e <;> first | rfl | (exact absurd h Bool.false_ne_true)
theorem nd_of {x : Lt.It} {tg : Expr} (h : (!itT x || isTupE tg) = true) : itT x = true → isTupE tg = true := fun z => by rw [z] at h; exact h
mutual
theorem sE : ∀ (x : Ex) {X : Cx} {W : WX} {C : MC} (ok : Ok X CA G W C) {e : Expr}, mE x C e = true → Both CA G X W x e
  | .int i, X, W, C, ok, e, h => by
    obtain ⟨j, k, p, rfl, h⟩ := mInt_inv i h
    have h := of_decide_eq_true h
    subst h
    exact Both.of (PE.by_ pe_int fun σ H Q ⟨S, L, env, g, er, q⟩ => Aft.int g (by simpa only [ev] using q)) rfl
  | .str s, X, W, C, ok, e, h => by
    obtain ⟨j, k, p, rfl, h⟩ := mStr_inv s h
    have h := of_decide_eq_true h
    subst h
    exact Both.of (PE.by_ pe_str fun σ H Q ⟨S, L, env, g, er, q⟩ => Aft.now g (by simpa only [ev] using q) (by simp [RelD])) rfl
  | .bl b, X, W, C, ok, e, h => by
    obtain ⟨j, k, p, rfl, h⟩ := mBl_inv b h
    have h := of_decide_eq_true h
    subst h
    exact Both.of (PE.by_ pe_bl fun σ H Q ⟨S, L, env, g, er, q⟩ => Aft.bl g (by simpa only [ev] using q)) rfl
  | .non, X, W, C, ok, e, h => by
    obtain ⟨k, p, rfl, _⟩ := mNon_inv h
    exact Both.of (PE.by_ pe_non fun σ H Q ⟨S, L, env, g, er, q⟩ => Aft.now g (by simpa only [ev] using q) (by simp [RelD])) rfl
  | .var i, X, W, C, ok, e, h => by
    obtain ⟨x, p, rfl, h⟩ := mVar_inv C i h
    obtain ⟨h, h3⟩ := ba h
    obtain ⟨h1, h2⟩ := ba h
    exact Both.of (s_var ok h1 h2 h3) rfl
  | .glo y, X, W, C, ok, e, h => by
    obtain ⟨x, p, rfl, h⟩ := mGlo_inv C y h
    obtain ⟨h, h3⟩ := ba h
    obtain ⟨h1, h2⟩ := ba h
    have h1 := of_decide_eq_true h1
    subst h1
    exact Both.of (s_glo ok h2 h3) rfl
  | .bin op a b, X, W, C, ok, e, h => by
    obtain ⟨l, o, r, p, rfl, h⟩ := mBin_inv op _ _ h
    obtain ⟨h, h3⟩ := ba h
    obtain ⟨h1, h2⟩ := ba h
    exact Both.of (s_bin h1 (sE a ok h2).1 (sE b ok h3).1) rfl
  | .neg a, X, W, C, ok, e, h => by
    obtain ⟨l, p, rfl, h⟩ := mNeg_inv _ h
    exact Both.of (s_neg (sE a ok h).1) rfl
  | .not a, X, W, C, ok, e, h => by
    obtain ⟨l, p, rfl, h⟩ := mNot_inv _ h
    have k := sE a ok h
    exact ⟨s_not k.1, fun z => ⟨t_not (k.2 z).1, fun ⟨op, vs, p, z⟩ => by cases z⟩⟩
  | .and a b, X, W, C, ok, e, h => by
    obtain ⟨l, r, rest, p, rfl, h1, h2⟩ := mBool_inv .And _ _ h
    have k := sE a ok h1
    rcases h2 with ⟨rfl, h2⟩ | ⟨_, h2⟩
    · have k2 := sE b ok h2
      refine ⟨s_and k.1 (pe_one k2.1), fun z => ?_⟩
      obtain ⟨z1, z2⟩ := ba z
      have w := t_and (k.2 z1).1 (pw_and1 (pos := p) (k2.2 z2).1)
      exact ⟨w.pt, fun _ => w⟩
    · have k2 := sE b ok h2
      refine ⟨s_and k.1 k2.1, fun z => ?_⟩
      obtain ⟨z1, z2⟩ := ba z
      have w := t_and (k.2 z1).1 ((k2.2 z2).2 ⟨_, _, _, rfl⟩)
      exact ⟨w.pt, fun _ => w⟩
  | .or a b, X, W, C, ok, e, h => by
    obtain ⟨l, r, rest, p, rfl, h1, h2⟩ := mBool_inv .Or _ _ h
    have k := sE a ok h1
    rcases h2 with ⟨rfl, h2⟩ | ⟨_, h2⟩
    · have k2 := sE b ok h2
      refine ⟨s_or k.1 (pe_one k2.1), fun z => ?_⟩
      obtain ⟨z1, z2⟩ := ba z
      have w := t_or (k.2 z1).1 (pw_or1 (pos := p) (k2.2 z2).1)
      exact ⟨w.pt, fun _ => w⟩
    · have k2 := sE b ok h2
      refine ⟨s_or k.1 k2.1, fun z => ?_⟩
      obtain ⟨z1, z2⟩ := ba z
      have w := t_or (k.2 z1).1 ((k2.2 z2).2 ⟨_, _, _, rfl⟩)
      exact ⟨w.pt, fun _ => w⟩
  | .cmp op a b, X, W, C, ok, e, h => by
    obtain ⟨l, o, r, p, rfl, h⟩ := mCmp_inv op _ _ h
    obtain ⟨h, h3⟩ := ba h
    obtain ⟨h, h2⟩ := ba h
    obtain ⟨h1, h0⟩ := ba h
    exact Both.cm (s_cmp ok h1 h0 (sE a ok h2).1 (sE b ok h3).1)
  | .chn o1 o2 a b c, X, W, C, ok, e, h => by
    obtain ⟨l, q1, q2, r1, r2, p, rfl, h⟩ := mChn_inv o1 o2 _ _ _ h
    obtain ⟨h, h5⟩ := ba h
    obtain ⟨h, h4⟩ := ba h
    obtain ⟨h, h3⟩ := ba h
    obtain ⟨h1, h2⟩ := ba h
    exact Both.cm (s_chn ok h1 h2 (sE a ok h3).1 (sE b ok h4).1 (sE c ok h5).1)
  | .isN a, X, W, C, ok, e, h => by
    obtain ⟨l, k, p2, p, rfl, h⟩ := mIsN_inv _ h
    exact Both.cm (s_isN (sE a ok h).1)
  | .ntN a, X, W, C, ok, e, h => by
    obtain ⟨l, k, p2, p, rfl, h⟩ := mNtN_inv _ h
    exact Both.cm (s_ntN (sE a ok h).1)
  | .ife c a b, X, W, C, ok, e, h => by
    obtain ⟨t, l, r, p, rfl, h⟩ := mIfe_inv _ _ _ h
    obtain ⟨h, h3⟩ := ba h
    obtain ⟨h1, h2⟩ := ba h
    obtain ⟨h0, h1⟩ := ba h1
    exact ⟨s_ife ((sE c ok h1).2 h0).1 (sE a ok h2).1 (sE b ok h3).1, fun z => by cases z⟩
  | .tup es, X, W, C, ok, e, h => by
    obtain ⟨xs, k, p, rfl, h⟩ := mTup_inv _ h
    obtain ⟨h1, h2⟩ := ba h
    exact Both.of (s_tup (sEs es ok h2) (of_decide_eq_true h1)) rfl
  | .lst es, X, W, C, ok, e, h => by
    obtain ⟨xs, p, rfl, h⟩ := mLst_inv _ h
    obtain ⟨h1, h2⟩ := ba h
    exact Both.of (s_lst (sEs es ok h2) (of_decide_eq_true h1)) rfl
  | .idx a i, X, W, C, ok, e, h => by
    obtain ⟨l, s, p, rfl, h⟩ := mIdx_inv _ _ h
    obtain ⟨h, h3⟩ := ba h
    obtain ⟨h1, h2⟩ := ba h
    exact Both.of (s_idx h1 (sE a ok h2).1 (sE i ok h3).1) rfl
  | .slT a b, X, W, C, ok, e, h => by
    obtain ⟨l, r, p2, p, rfl, h⟩ := mSlT_inv _ _ h
    obtain ⟨h1, h2⟩ := ba h
    exact Both.of (s_slT (sE a ok h1).1 (sE b ok h2).1) rfl
  | .slF a b, X, W, C, ok, e, h => by
    obtain ⟨l, r, p2, p, rfl, h⟩ := mSlF_inv _ _ h
    obtain ⟨h1, h2⟩ := ba h
    exact Both.of (s_slF (sE a ok h1).1 (sE b ok h2).1) rfl
  | .slB a b c, X, W, C, ok, e, h => by
    obtain ⟨l, r, t, p2, p, rfl, h⟩ := mSlB_inv _ _ _ h
    obtain ⟨h, h3⟩ := ba h
    obtain ⟨h1, h2⟩ := ba h
    exact Both.of (s_slB (sE a ok h1).1 (sE b ok h2).1 (sE c ok h3).1) rfl
  | .rev a, X, W, C, ok, e, h => by
    obtain ⟨l, k, p1, p2, p3, p, rfl, h⟩ := mRev_inv _ h
    exact Both.of (s_rev (sE a ok h).1) rfl
  | .call f es, X, W, C, ok, e, h => by
    obtain ⟨x, q, xs, p, rfl, h⟩ := mCall_inv C f _ _ h
    obtain ⟨h, h5⟩ := ba h
    obtain ⟨h, h4⟩ := ba h
    obtain ⟨h, h3⟩ := ba h
    obtain ⟨h1, h2⟩ := ba h
    have h1 := of_decide_eq_true h1
    subst h1
    exact Both.of (s_call ok h2 h3 h4 (sEs es ok h5) h5) rfl
  | .bi b es, X, W, C, ok, e, h => by
    obtain ⟨x, q, xs, p, rfl, h⟩ := mBi_inv C _ _ h
    obtain ⟨h, h5⟩ := ba h
    obtain ⟨h1, h2⟩ := ba h
    have h1 := of_decide_eq_true h1
    subst h1
    obtain ⟨hbi, h5⟩ := ba h5
    obtain ⟨h5, h6⟩ := ba h5
    exact Both.of (s_bi ok hbi h2 (sEs es ok h6) h6 (by intro z; subst z; cases h5)) rfl
  | .isI a t, X, W, C, ok, e, h => by
    obtain ⟨x, q, l, z, q2, p, rfl, h⟩ := mIsI_inv C _ _ h
    obtain ⟨h, h6⟩ := ba h
    obtain ⟨h, h5⟩ := ba h
    obtain ⟨h, h4⟩ := ba h
    obtain ⟨h, h3⟩ := ba h
    obtain ⟨h1, h2⟩ := ba h
    have h1 := of_decide_eq_true h1
    have h3 := of_decide_eq_true h3
    subst h1 h3
    exact Both.of (s_isI ok h2 h4 h5 (sE a ok h6).1) rfl
  | .app o a, X, W, C, ok, e, h => by
    obtain ⟨l, m, ap, r, cp, rfl, h⟩ := mMet1_inv _ _ _ h
    obtain ⟨h, h6⟩ := ba h
    obtain ⟨h, h5⟩ := ba h
    obtain ⟨h, h4⟩ := ba h
    obtain ⟨h, h3⟩ := ba h
    obtain ⟨h1, h2⟩ := ba h
    have h1 := of_decide_eq_true h1
    subst h1
    exact Both.of (s_app h2 h3 h4 (sE o ok h5).1 (sE a ok h6).1) rfl
  | .ext o a, X, W, C, ok, e, h => by
    obtain ⟨l, m, ap, r, cp, rfl, h⟩ := mMet1_inv _ _ _ h
    obtain ⟨h, h6⟩ := ba h
    obtain ⟨h, h5⟩ := ba h
    obtain ⟨h, h4⟩ := ba h
    obtain ⟨h, h3⟩ := ba h
    obtain ⟨h1, h2⟩ := ba h
    have h1 := of_decide_eq_true h1
    subst h1
    exact Both.of (s_ext h2 h3 h4 (sE o ok h5).1 (sE a ok h6).1) rfl
  | .clr o, X, W, C, ok, e, h => by
    obtain ⟨l, m, ap, cp, rfl, h⟩ := mMet0_inv _ _ h
    obtain ⟨h, h4⟩ := ba h
    obtain ⟨h, h3⟩ := ba h
    obtain ⟨h1, h2⟩ := ba h
    have h1 := of_decide_eq_true h1
    subst h1
    exact Both.of (s_clr h2 h3 (sE o ok h4).1) rfl
  | .isB a b, X, W, C, ok, e, h => by
    obtain ⟨l, j, k, p2, p, rfl, h⟩ := mIsB_inv b _ h
    obtain ⟨h1, h2⟩ := ba h
    have h1 := of_decide_eq_true h1
    subst h1
    exact Both.cm (s_isB (sE a ok h2).1)
  | .chn4 o1 o2 o3 a b c d, X, W, C, ok, e, h => by
    obtain ⟨l, q1, q2, q3, r1, r2, r3, p, rfl, h⟩ := mChn4_inv o1 o2 o3 _ _ _ _ h
    obtain ⟨h, h7⟩ := ba h
    obtain ⟨h, h6⟩ := ba h
    obtain ⟨h, h5⟩ := ba h
    obtain ⟨h, h4⟩ := ba h
    obtain ⟨h, h3⟩ := ba h
    obtain ⟨h1, h2⟩ := ba h
    exact Both.cm (s_chn4 ok h1 h2 h3 (sE a ok h4).1 (sE b ok h5).1 (sE c ok h6).1 (sE d ok h7).1)
  | .any, X, W, C, ok, e, h => ⟨s_any, fun z => by cases z⟩
  | .chn5 o1 o2 o3 o4 a b c d f, X, W, C, ok, e, h => by
    obtain ⟨l, q1, q2, q3, q4, r1, r2, r3, r4, p, rfl, h⟩ := mChn5_inv o1 o2 o3 o4 _ _ _ _ _ h
    obtain ⟨h, h9⟩ := ba h
    obtain ⟨h, h8⟩ := ba h
    obtain ⟨h, h7⟩ := ba h
    obtain ⟨h, h6⟩ := ba h
    obtain ⟨h, h5⟩ := ba h
    obtain ⟨h, h4⟩ := ba h
    obtain ⟨h, h3⟩ := ba h
    obtain ⟨h1, h2⟩ := ba h
    exact Both.cm (s_chn5 ok h1 h2 h3 h4 (sE a ok h5).1 (sE b ok h6).1 (sE c ok h7).1 (sE d ok h8).1 (sE f ok h9).1)
  | .ntB a b, X, W, C, ok, e, h => by
    obtain ⟨l, j, k, p2, p, rfl, h⟩ := mNtB_inv b _ h
    obtain ⟨h1, h2⟩ := ba h
    have h1 := of_decide_eq_true h1
    subst h1
    exact Both.cm (s_ntB (sE a ok h2).1)
  | .dic t, X, W, C, ok, e, h => by
    obtain ⟨p, rfl, _⟩ := mDic_inv h
    exact Both.of s_dic rfl
  | .dgt o k, X, W, C, ok, e, h => by
    obtain ⟨l, s, p, rfl, h⟩ := mIdx_inv _ _ h
    obtain ⟨h, h3⟩ := ba h
    obtain ⟨h1, h2⟩ := ba h
    exact Both.of (s_dgt ok h1 (sE o ok h2).1 (sE k ok h3).1) rfl
  | .din n k o, X, W, C, ok, e, h => by
    obtain ⟨l, op, r, p, rfl, h⟩ := mDin_inv n _ _ h
    obtain ⟨h, h4⟩ := ba h
    obtain ⟨h, h3⟩ := ba h
    obtain ⟨h1, h2⟩ := ba h
    exact Both.cm (s_din ok h1 h2 (sE k ok h3).1 (sE o ok h4).1)
  | .get1 o a, X, W, C, ok, e, h => by
    obtain ⟨l, m, ap, r, cp, rfl, h⟩ := mMet1_inv _ _ _ h
    obtain ⟨h, h6⟩ := ba h
    obtain ⟨h, h5⟩ := ba h
    obtain ⟨h, h4⟩ := ba h
    obtain ⟨h, h3⟩ := ba h
    obtain ⟨h1, h2⟩ := ba h
    have h1 := of_decide_eq_true h1
    subst h1
    exact Both.of (s_get1 ok h2 h3 h4 (sE o ok h5).1 (sE a ok h6).1) rfl
  | .get2 o a b, X, W, C, ok, e, h => by
    obtain ⟨l, m, ap, r, t, cp, rfl, h⟩ := mMet2_inv _ _ _ _ h
    obtain ⟨h, h8⟩ := ba h
    obtain ⟨h, h7⟩ := ba h
    obtain ⟨h, h6⟩ := ba h
    obtain ⟨h, h5⟩ := ba h
    obtain ⟨h, h4⟩ := ba h
    obtain ⟨h, h3⟩ := ba h
    obtain ⟨h1, h2⟩ := ba h
    have h1 := of_decide_eq_true h1
    subst h1
    exact Both.of (s_get2 ok h2 h3 h4 h5 (sE o ok h6).1 (sE a ok h7).1 (sE b ok h8).1) rfl
  | .dpop o a, X, W, C, ok, e, h => by
    obtain ⟨l, m, ap, r, cp, rfl, h⟩ := mMet1_inv _ _ _ h
    obtain ⟨h, h6⟩ := ba h
    obtain ⟨h, h5⟩ := ba h
    obtain ⟨h, h4⟩ := ba h
    obtain ⟨h, h3⟩ := ba h
    obtain ⟨h1, h2⟩ := ba h
    have h1 := of_decide_eq_true h1
    subst h1
    exact Both.of (s_dpop ok h2 h3 h4 (sE o ok h5).1 (sE a ok h6).1) rfl
  | .ixo o a, X, W, C, ok, e, h => by
    obtain ⟨l, m, ap, r, cp, rfl, h⟩ := mMet1_inv _ _ _ h
    obtain ⟨h, h6⟩ := ba h
    obtain ⟨h, h5⟩ := ba h
    obtain ⟨h, h4⟩ := ba h
    obtain ⟨h, h3⟩ := ba h
    obtain ⟨h1, h2⟩ := ba h
    have h1 := of_decide_eq_true h1
    subst h1
    exact Both.of (s_ixo ok h2 h3 h4 (sE o ok h5).1 (sE a ok h6).1) rfl
  | .ins o a b, X, W, C, ok, e, h => by
    obtain ⟨l, m, ap, r, t, cp, rfl, h⟩ := mMet2_inv _ _ _ _ h
    obtain ⟨h, h8⟩ := ba h
    obtain ⟨h, h7⟩ := ba h
    obtain ⟨h, h6⟩ := ba h
    obtain ⟨h, h5⟩ := ba h
    obtain ⟨h, h4⟩ := ba h
    obtain ⟨h, h3⟩ := ba h
    obtain ⟨h1, h2⟩ := ba h
    have h1 := of_decide_eq_true h1
    subst h1
    exact Both.of (s_ins h2 h3 h4 h5 (sE o ok h6).1 (sE a ok h7).1 (sE b ok h8).1) rfl
  | .pop0 o, X, W, C, ok, e, h => by
    obtain ⟨l, m, ap, cp, rfl, h⟩ := mMet0_inv _ _ h
    obtain ⟨h, h4⟩ := ba h
    obtain ⟨h, h3⟩ := ba h
    obtain ⟨h1, h2⟩ := ba h
    have h1 := of_decide_eq_true h1
    subst h1
    exact Both.of (s_pop0 h2 h3 (sE o ok h4).1) rfl
  | .pop1 o a, X, W, C, ok, e, h => by
    obtain ⟨l, m, ap, r, cp, rfl, h⟩ := mMet1_inv _ _ _ h
    obtain ⟨h, h6⟩ := ba h
    obtain ⟨h, h5⟩ := ba h
    obtain ⟨h, h4⟩ := ba h
    obtain ⟨h, h3⟩ := ba h
    obtain ⟨h1, h2⟩ := ba h
    have h1 := of_decide_eq_true h1
    subst h1
    exact Both.of (s_pop1 h2 h3 h4 (sE o ok h5).1 (sE a ok h6).1) rfl
  | .fld a y f, X, W, C, ok, e, h => by
    obtain ⟨l, m, p, rfl, h⟩ := mFld_inv C y f _ h
    obtain ⟨h, h4⟩ := ba h
    obtain ⟨h, h3⟩ := ba h
    obtain ⟨h1, h2⟩ := ba h
    have h1 := of_decide_eq_true h1
    subst h1
    exact Both.of (s_fld ok h2 h3 (sE a ok h4).1) rfl
  | .mth o y m key es, X, W, C, ok, e, h => by
    obtain ⟨x, q, w, ap, xs, cp, rfl, h⟩ := mMth_inv C y m key _ _ _ h
    obtain ⟨h, h6⟩ := ba h
    obtain ⟨h, h5⟩ := ba h
    obtain ⟨h, h4⟩ := ba h
    obtain ⟨h, h3⟩ := ba h
    obtain ⟨h1, h2⟩ := ba h
    have h1 := of_decide_eq_true h1
    subst h1
    exact Both.of (s_mth ok h2 (of_decide_eq_true h3) h4 (sE o ok h5).1 (sEs es ok h6) h6) rfl
  | .mk y key es, X, W, C, ok, e, h => by
    obtain ⟨x, q, xs, p, rfl, h⟩ := mMk_inv C y key _ _ h
    obtain ⟨h, h5⟩ := ba h
    obtain ⟨h, h4⟩ := ba h
    obtain ⟨h, h3⟩ := ba h
    obtain ⟨h1, h2⟩ := ba h
    have h1 := of_decide_eq_true h1
    subst h1
    exact Both.of (s_mk ok h2 h3 h4 (sEs es ok h5) h5) rfl
  | .xis i y, X, W, C, ok, e, h => by
    obtain ⟨x, q, n, q1, z, q2, p, rfl, h⟩ := mXis_inv C i y h
    obtain ⟨h, h9⟩ := ba h
    obtain ⟨h, h8⟩ := ba h
    obtain ⟨h, h7⟩ := ba h
    obtain ⟨h, h6⟩ := ba h
    obtain ⟨h, h5⟩ := ba h
    obtain ⟨h, h4⟩ := ba h
    obtain ⟨h, h3⟩ := ba h
    obtain ⟨h1, h2⟩ := ba h
    have h1 := of_decide_eq_true h1
    have h3 := of_decide_eq_true h3
    subst h1 h3
    exact Both.of (s_xis ok h2 h4 h5 h6 h7 h8 h9) rfl
  | .xat i, X, W, C, ok, e, h => by
    obtain ⟨n, q, m, p, rfl, h⟩ := mXat_inv C i h
    obtain ⟨h, h5⟩ := ba h
    obtain ⟨h, h4⟩ := ba h
    obtain ⟨h, h3⟩ := ba h
    obtain ⟨h1, h2⟩ := ba h
    have h1 := of_decide_eq_true h1
    subst h1
    exact Both.of (s_xat ok h2 h3 h4 h5) rfl
  | .dsp es, X, W, C, ok, e, h => by
    obtain ⟨ks, vs, p, xs, rfl, hf, h15, h⟩ := mDsp_inv _ h
    obtain ⟨h1, h2⟩ := ba h
    exact Both.of (s_dsp hf h15 (sAll es ok h2) (by intro z; subst z; cases h1)) rfl
  | .lc own t it el, X, W, C, ok, e, h => by
    obtain ⟨x, tg, i, sc, p, rfl, h⟩ := mLc_inv C own _ _ _ _ _ h
    obtain ⟨h, h6⟩ := ba h
    obtain ⟨h, h5⟩ := ba h
    obtain ⟨h, h4⟩ := ba h
    obtain ⟨h, h3⟩ := ba h
    obtain ⟨h, h2⟩ := ba h
    obtain ⟨h, h1⟩ := ba h
    obtain ⟨hcd, h0⟩ := ba h
    have hk := blk_kind h3
    refine Both.of (PE.by_ (pe_lc (own := ownL C own) (g := tG X.K CA G.pin t) (tt := tYes) (te := tE X.K CA G W0 el) (ok.calm hcd) (by rw [ok.nm]; exact ok.nd) (sI it ok (nd_of h2) h4) (by rw [ok.nm, ok.sc]; exact blkOk_by h3)
      (fun s H cd cl fp => g_ok (ok.blk hcd sc hk s H cd cl fp) h5) (fun s H cd cl fp => pts_nil) (fun s H cd cl fp => (sE el (ok.blk hcd sc hk s H cd cl fp) h6).1) (set_of h0 X.env)) ?_) rfl
    rintro σ H Q ⟨S, L, env, g, er, q⟩
    simp only [ev] at q
    rw [own_snd]
    exact lc_read (ok.nopin hcd) (c := none) (fun i hi => by have := List.all_eq_true.mp h1 i hi; simpa using this) g er q
  | .lcI own t it c el, X, W, C, ok, e, h => by
    obtain ⟨x, tg, i, f, sc, p, rfl, h⟩ := mLcI_inv C own _ _ _ _ _ _ h
    obtain ⟨h, h7⟩ := ba h
    obtain ⟨h, h6⟩ := ba h
    obtain ⟨h, h5⟩ := ba h
    obtain ⟨h, h4⟩ := ba h
    obtain ⟨h, h3⟩ := ba h
    obtain ⟨h, h2⟩ := ba h
    obtain ⟨h, h1⟩ := ba h
    obtain ⟨hcd, h0⟩ := ba h
    obtain ⟨ht, h6⟩ := ba h6
    have hk := blk_kind h3
    refine Both.of (PE.by_ (pe_lc (own := ownL C own) (g := tG X.K CA G.pin t) (tt := tT X.K CA G W0 c) (te := tE X.K CA G W0 el) (ok.calm hcd) (by rw [ok.nm]; exact ok.nd) (sI it ok (nd_of h2) h4) (by rw [ok.nm, ok.sc]; exact blkOk_by h3)
      (fun s H cd cl fp => g_ok (ok.blk hcd sc hk s H cd cl fp) h5) (fun s H cd cl fp => pts_one ((sE c (ok.blk hcd sc hk s H cd cl fp) h6).2 ht).1) (fun s H cd cl fp => (sE el (ok.blk hcd sc hk s H cd cl fp) h7).1) (set_of h0 X.env)) ?_) rfl
    rintro σ H Q ⟨S, L, env, g, er, q⟩
    simp only [ev] at q
    rw [own_snd]
    exact lc_read (ok.nopin hcd) (c := some c) (fun i hi => by have := List.all_eq_true.mp h1 i hi; simpa using this) g er q
theorem sEs : ∀ (xs : List Ex) {X : Cx} {W : WX} {C : MC} (ok : Ok X CA G W C) {es : List Expr}, mEs xs C es = true → PA X es (tEs X.K CA G W xs)
  | [], X, W, C, ok, es, h => by
    rw [mEs_nil h]
    exact s_nil
  | x :: xs, X, W, C, ok, es, h => by
    obtain ⟨e, r, rfl, h1, h2, h3⟩ := mEs_cons h
    exact s_cons (sE x ok h2).1 (sEs xs ok h3) (star_of h1 r X.env)
theorem sAll : ∀ (xs : List Ex) {X : Cx} {W : WX} {C : MC} (ok : Ok X CA G W C) {es : List Expr}, mEs xs C es = true → AllPE CA G X W xs es
  | [], X, W, C, ok, es, h => by
    rw [mEs_nil h]
    exact True.intro
  | x :: xs, X, W, C, ok, es, h => by
    obtain ⟨e, r, rfl, h1, h2, h3⟩ := mEs_cons h
    exact ⟨(sE x ok h2).1, sAll xs ok h3⟩
theorem sI : ∀ (x : Lt.It) {X : Cx} {W : WX} {C : MC} (ok : Ok X CA G W C) {tg e : Expr}, (itT x = true → isTupE tg = true) → mI x C e = true → PI X tg e (tI X.K CA G W x)
  | .seq a, X, W, C, ok, tg, e, ht, h => i_seq (sE a ok h).1
  | .rng a, X, W, C, ok, tg, e, ht, h => by
    obtain ⟨x, q, l, p, rfl, h⟩ := mCl1_inv C _ _ h
    obtain ⟨h, h4⟩ := ba h
    obtain ⟨h, h3⟩ := ba h
    obtain ⟨h1, h2⟩ := ba h
    have h1 := of_decide_eq_true h1
    subst h1
    exact i_rng ok h2 h3 (sE a ok h4).1
  | .rng2 a b, X, W, C, ok, tg, e, ht, h => by
    obtain ⟨x, q, l, r, p, rfl, h⟩ := mCl2_inv C _ _ _ h
    obtain ⟨h, h6⟩ := ba h
    obtain ⟨h, h5⟩ := ba h
    obtain ⟨h, h4⟩ := ba h
    obtain ⟨h, h3⟩ := ba h
    obtain ⟨h1, h2⟩ := ba h
    have h1 := of_decide_eq_true h1
    subst h1
    exact i_rng2 ok h2 h3 h4 (sE a ok h5).1 (sE b ok h6).1
  | .enm a, X, W, C, ok, tg, e, ht, h => by
    obtain ⟨x, q, l, p, rfl, h⟩ := mCl1_inv C _ _ h
    obtain ⟨h, h4⟩ := ba h
    obtain ⟨h, h3⟩ := ba h
    obtain ⟨h1, h2⟩ := ba h
    have h1 := of_decide_eq_true h1
    subst h1
    exact i_enm ok (ht rfl) h2 h3 (sE a ok h4).1
  | .zip a b, X, W, C, ok, tg, e, ht, h => by
    obtain ⟨x, q, l, r, p, rfl, h⟩ := mCl2_inv C _ _ _ h
    obtain ⟨h, h6⟩ := ba h
    obtain ⟨h, h5⟩ := ba h
    obtain ⟨h, h4⟩ := ba h
    obtain ⟨h, h3⟩ := ba h
    obtain ⟨h1, h2⟩ := ba h
    have h1 := of_decide_eq_true h1
    subst h1
    exact i_zip ok (ht rfl) h2 h3 h4 (sE a ok h5).1 (sE b ok h6).1
  | .rvd a, X, W, C, ok, tg, e, ht, h => by
    obtain ⟨x, q, l, p, rfl, h⟩ := mCl1_inv C _ _ h
    obtain ⟨h, h4⟩ := ba h
    obtain ⟨h, h3⟩ := ba h
    obtain ⟨h1, h2⟩ := ba h
    have h1 := of_decide_eq_true h1
    subst h1
    exact i_rvd ok h2 h3 (sE a ok h4).1
end
end
end Lt
set_option maxHeartbeats 1000000
namespace Lt
open PySem PySem.Spec PyProof.Rows L2
section
variable {X : Cx} {CA : Str → Addr} {G : Cxp} {W : WX} {C : MC} {S S' : Store} {L L1 M2 L' : List Addr} {H H1 H2 H' : Hp} {σ σ' : Sl} {e : Expr}
def isLcX : Ex → Bool
  | .lc _ _ _ _ => true
  | .lcI _ _ _ _ _ => true
  | _ => false
theorem mE_lc {x : Ex} {a : Expr} {gs : List Comprehension} {sc : Scope} {p : Pos} (h : mE x C (.ListComp a gs sc p) = true) : isLcX x = true := by
  cases x <;> first | rfl | (exact absurd h Bool.false_ne_true)
/-- a comprehension that stores its list itself -/
def lcSelf (C : MC) (y : Str) (py : Pos) (sc : Scope) (p : Pos) : Bool := locB C.sc y && (py.line == p.line) && !(sc.names.any fun (n, k) => n == y && (k == .local || k == .cell))
theorem locB_eq (sc : Scope) (y : Str) : (sc.names.lookup y == some NameKind.local) = locB sc y := by
  unfold locB
  cases h : sc.names.lookup y with
  | none => rfl
  | some k => cases k <;> rfl
theorem sw_lc (ok : Ok X CA G W C) {elt : Expr} {gs : List Comprehension} {sc : Scope} {p py : Pos} {y : Str} {l : Nat} : swapsWith (.ListComp elt gs sc p) (some (.Name y py)) l X.env = pure (lcSelf C y py sc p) := by
  have hb : X.env.blockKind = .function := by unfold Env.blockKind; rw [ok.sc, ok.kind]; rfl
  have hk : (X.env.kindOf y == some NameKind.local) = locB C.sc y := by
    show (X.env.scope.names.lookup y == _) = _
    rw [ok.sc]; exact locB_eq _ _
  unfold swapsWith lcSelf
  simp only [hb, hk, Expr.pos]
  rfl
theorem sw_no {v : Expr} (h : notLc v = true) (h2 : ∀ a gs sc p, v ≠ .SetComp a gs sc p) (h3 : ∀ a b gs sc p, v ≠ .DictComp a b gs sc p) (t : Option Expr) (l : Nat) (env : PySem.Env) : swapsWith v t l env = pure false := by
  cases v <;> first | rfl | (exact absurd h Bool.false_ne_true) | (exact absurd rfl (h2 _ _ _ _)) | (exact absurd rfl (h3 _ _ _ _ _))
theorem mE_set {x : Ex} {a : Expr} {gs : List Comprehension} {sc : Scope} {p : Pos} : mE x C (.SetComp a gs sc p) = false := by
  cases x <;> rfl
theorem mE_dict {x : Ex} {a b : Expr} {gs : List Comprehension} {sc : Scope} {p : Pos} : mE x C (.DictComp a b gs sc p) = false := by
  cases x <;> rfl
theorem sw_of {x : Ex} {v : Expr} (h : notLc v = true) (hm : mE x C v = true) (t : Option Expr) (l : Nat) (env : PySem.Env) : swapsWith v t l env = pure false :=
  sw_no h (by rintro a gs sc p rfl; rw [mE_set] at hm; cases hm) (by rintro a b gs sc p rfl; rw [mE_dict] at hm; cases hm) t l env
/-- what an assignment reads -/
def tA (K : PySem.W.Frag) (CA : Str → Addr) (G : Cxp) (W : WX) (t : Tg) (x : Ex) : TS := tAsg (tE K CA G W x) (tG K CA G.pin t)
theorem asg_read {t : Tg} {x : Ex} {Z : Ends} (h : tS X.K CA G W (.asg t x) Z σ H) : tA X.K CA G W t x Z σ H := by
  obtain ⟨S, L, env, g, er, q⟩ := h
  simp only [exS] at q
  refine ⟨S, L, env, g, er, (AftS.toS er g q).mono fun d S1 L1 H1 ⟨st, g1, q1⟩ v r => ?_⟩
  split at q1
  · rename_i e1 hb
    exact ⟨S1, L1, env, d, e1, g1, er.step g st, r, hb, fun σ' er' _ => q1 σ' L1 H1 Step.refl g1 er'⟩
  · exact q1.elim
theorem filterMap_lt {α β : Type} {f : α → Option β} : ∀ {l : List α}, (∃ a ∈ l, f a = none) → (l.filterMap f).length < l.length
  | [], h => by obtain ⟨a, ha, _⟩ := h; cases ha
  | x :: r, h => by
    obtain ⟨a, ha, he⟩ := h
    have le := List.length_filterMap_le f r
    cases hx : f x with
    | none =>
      rw [List.filterMap_cons_none hx, List.length_cons]; omega
    | some y =>
      rw [List.filterMap_cons_some hx, List.length_cons, List.length_cons]
      rcases List.mem_cons.mp ha with z | z
      · subst z; rw [hx] at he; cases he
      · have := filterMap_lt (f := f) ⟨a, z, he⟩
        omega
/-- the stores of a written tuple, where they are not exchanged -/
theorem no_swap (ok : Ok X CA G W C) {t v : Expr} {tg : Tg} (hn : noSwapE C v t = true) (ht : mT C tg t = true) : swappedStores [t] v X.env = pure none := by
  cases t with
  | Tuple ts k2 p2 =>
    cases v with
    | Tuple vs k p =>
      have hn : (noSwap ts vs || ts.any fun
        | .Name x _ => celB C.sc x
        | _ => false) = true := hn
      rw [Bool.or_eq_true] at hn
      rcases hn with hn | hn
      · have hf : vs.all (foldedForSure 8) = true := (ba (show (vs.all (foldedForSure 8) && _) = true from hn)).1
        unfold swappedStores
        simp only [hf, if_true]
        repeat (first | rfl | split)
      · obtain ⟨e, he, hc⟩ := List.any_eq_true.mp hn
        have hlt : (ts.filterMap fun x => match x with
          | .Name id pos => if (X.env.kindOf id == some NameKind.local && pos.line == (Option.map (fun x => x.pos.line) ts.head?).getD 0) = true then some id else none
          | _ => none).length < ts.length := by
          refine filterMap_lt ⟨e, he, ?_⟩
          cases e with
          | Name x p =>
            have hc : celB C.sc x = true := hc
            have hk : X.env.kindOf x = some .cell := by show X.env.scope.names.lookup x = _; rw [ok.sc]; exact cel_of hc
            simp only [hk]
            rfl
          | _ => cases hc
        unfold swappedStores
        simp only
        split
        · rfl
        · split
          · rfl
          · rw [if_pos]
            rw [Bool.or_eq_true]
            refine .inl ?_
            rw [bne_iff_ne]
            exact Nat.ne_of_lt hlt
    | _ => rfl
  | List ts p => cases tg <;> exact absurd ht Bool.false_ne_true
  | _ => cases v <;> rfl
theorem swap2 (ok : Ok X CA G W C) {x y : Str} {px py pt pt2 : Pos} {kt k2 : Nat} {a b : Expr} (h : swapOk C x y px py a b = true) (h1 : notSt a = true) (h2 : notSt b = true) :
    swappedStores [.Tuple [.Name x px, .Name y py] kt pt] (.Tuple [a, b] k2 pt2) X.env = pure (some [x, y]) := by
  unfold swapOk at h
  obtain ⟨h, c6⟩ := ba h
  obtain ⟨h, c5⟩ := ba h
  obtain ⟨h, c4⟩ := ba h
  obtain ⟨h, c3⟩ := ba h
  obtain ⟨c1, c2⟩ := ba h
  have hb : X.env.blockKind = .function := by unfold Env.blockKind; rw [ok.sc, ok.kind]; rfl
  have hx : X.env.kindOf x = some .local := by show X.env.scope.names.lookup x = _; rw [ok.sc]; exact loc_of c1
  have hy : X.env.kindOf y = some .local := by show X.env.scope.names.lookup y = _; rw [ok.sc]; exact loc_of c2
  have hxy : ¬ x = y := by simpa using c4
  have hxy2 : ¬ y = x := fun e => hxy e.symm
  have c5' : ([a, b].all (foldedForSure 8)) = false := by
    cases z : ([a, b].all (foldedForSure 8)) with
    | false => rfl
    | true => rw [z] at c5; cases c5
  have c6' : ([a, b].all (constantsAlone 8)) = false := by
    cases z : ([a, b].all (constantsAlone 8)) with
    | false => rfl
    | true => rw [z] at c6; cases c6
  unfold swappedStores
  simp [hb, hx, hy, c5', c6', c3, Expr.pos, List.filterMap, List.eraseDups, hxy, hxy2]
  rw [if_neg (by
    intro h
    rcases h with h | h
    · cases a <;> first | (exact absurd h Bool.false_ne_true) | (exact absurd h1 Bool.false_ne_true)
    · cases b <;> first | (exact absurd h Bool.false_ne_true) | (exact absurd h2 Bool.false_ne_true))]
  have hz : (y == x) = false := by simpa using hxy2
  rw [if_pos (by simp [List.eraseDupsBy, List.eraseDupsBy.loop, hz])]
theorem p_asg (ok : Ok X CA G W C) {t : Tg} {x : Ex} {tg v : Expr} {p : Pos} (ht : mT C t tg = true) (hm : mE x C v = true) (hn : noSwapE C v tg = true) : PS X (.Assign [tg] v p) (tS X.K CA G W (.asg t x)) := by
  have gen : swapsWithSole [tg] v p.line X.env = pure false → PS X (.Assign [tg] v p) (tS X.K CA G W (.asg t x)) := fun hs =>
    PS.by_ (ps_asg (sE x ok hm).1 (g_ok ok ht) hs (no_swap ok hn ht) (by cases tg <;> first | rfl | (cases t <;> exact absurd ht Bool.false_ne_true))) fun Z σ H q => asg_read q
  cases hl : notLc v with
  | true => exact gen (sw_of hl hm _ _ _)
  | false =>
    cases v with
    | ListComp elt gs sc p2 =>
      cases tg with
      | Name y py =>
        cases t with
        | tup is => exact absurd ht Bool.false_ne_true
        | name i =>
          cases hq : lcSelf C y py sc p2 with
          | false => exact gen ((sw_lc (l := p.line) ok).trans (by rw [hq]))
          | true =>
            have hx := mE_lc hm
            have sw : swapsWith (.ListComp elt gs sc p2) (some (.Name y py)) p.line X.env = pure true := (sw_lc ok).trans (by rw [hq])
            have hy : X.N[i]? = some y := by rw [ok.nm]; exact slot_of (ba (ba (show (hsNe C i && (slotB C i y && stB C y)) = true from ht)).2).1
            have hyl : X.env.scope.names.lookup y = some .local := by rw [ok.sc]; exact loc_of (ba (ba hq).1).1
            have nd : X.N.Nodup := by rw [ok.nm]; exact ok.nd
            have key : ∀ (Z : Ends) (σ : Sl) (H : Hp), tS X.K CA G W (.asg (.name i) x) Z σ H → tE X.K CA G W x σ H fun v H1 => gName i v σ H1 Z.nx := fun Z σ H q => by
              obtain ⟨S, L, env, g, er, q⟩ := asg_read q
              refine ⟨S, L, env, g, er, q.mono fun d S1 L1 H1 q1 v r => ?_⟩
              obtain ⟨S, L, e, d, e1, g, er, r, hb, q⟩ := q1 v r
              simp only [bindT] at hb
              split at hb
              · cases hb
                exact q _ (er.set r (ok.hsne (ba (show (hsNe C i && (slotB C i y && stB C y)) = true from ht)).1)) (SameOut.one _ _ _)
              · cases hb
            cases x with
            | lc own t it el =>
              obtain ⟨x, tg, i2, sc2, p3, z, h⟩ := mLc_inv C own _ _ _ _ _ hm
              cases z
              obtain ⟨h, h6⟩ := ba h
              obtain ⟨h, h5⟩ := ba h
              obtain ⟨h, h4⟩ := ba h
              obtain ⟨h, h3⟩ := ba h
              obtain ⟨h, h2⟩ := ba h
              obtain ⟨h, h1⟩ := ba h
              obtain ⟨hcd, h0⟩ := ba h
              have hk := blk_kind h3
              refine PS.by_ (ps_setLc (i := i) (own := ownL C own) (g := tG X.K CA G.pin t) (tt := tYes) (te := tE X.K CA G W0 el) (ok.calm hcd) nd hy hyl sw (sI it ok (nd_of h2) h4) (by rw [ok.nm, ok.sc]; exact blkOk_by h3)
                (fun s H cd cl fp => g_ok (ok.blk hcd sc hk s H cd cl fp) h5) (fun s H cd cl fp => pts_nil) (fun s H cd cl fp => (sE el (ok.blk hcd sc hk s H cd cl fp) h6).1) (set_of h0 X.env)) ?_
              intro Z σ H q
              obtain ⟨S, L, env, g, er, q⟩ := key Z σ H q
              simp only [ev] at q
              rw [own_snd]
              exact lc_read (ok.nopin hcd) (c := none) (fun i hi => by have := List.all_eq_true.mp h1 i hi; simpa using this) g er q
            | lcI own t it c el =>
              obtain ⟨x, tg, i2, f, sc2, p3, z, h⟩ := mLcI_inv C own _ _ _ _ _ _ hm
              cases z
              obtain ⟨h, h7⟩ := ba h
              obtain ⟨h, h6⟩ := ba h
              obtain ⟨h, h5⟩ := ba h
              obtain ⟨h, h4⟩ := ba h
              obtain ⟨h, h3⟩ := ba h
              obtain ⟨h, h2⟩ := ba h
              obtain ⟨h, h1⟩ := ba h
              obtain ⟨hcd, h0⟩ := ba h
              obtain ⟨htk, h6⟩ := ba h6
              have hk := blk_kind h3
              refine PS.by_ (ps_setLc (i := i) (own := ownL C own) (g := tG X.K CA G.pin t) (tt := tT X.K CA G W0 c) (te := tE X.K CA G W0 el) (ok.calm hcd) nd hy hyl sw (sI it ok (nd_of h2) h4) (by rw [ok.nm, ok.sc]; exact blkOk_by h3)
                (fun s H cd cl fp => g_ok (ok.blk hcd sc hk s H cd cl fp) h5) (fun s H cd cl fp => pts_one ((sE c (ok.blk hcd sc hk s H cd cl fp) h6).2 htk).1) (fun s H cd cl fp => (sE el (ok.blk hcd sc hk s H cd cl fp) h7).1) (set_of h0 X.env)) ?_
              intro Z σ H q
              obtain ⟨S, L, env, g, er, q⟩ := key Z σ H q
              simp only [ev] at q
              rw [own_snd]
              exact lc_read (ok.nopin hcd) (c := some c) (fun i hi => by have := List.all_eq_true.mp h1 i hi; simpa using this) g er q
            | _ => exact absurd hx Bool.false_ne_true
      | _ => exact gen rfl
    | _ => cases hl
theorem p_par (ok : Ok X CA G W C) (hcd : cold C = true) {i j : Nat} {a b : Ex} {x y : Str} {px py pt pt2 p : Pos} {kt k2 : Nat} {l r : Expr} (h1 : slotB C i x = true) (h2 : slotB C j y = true) (hij : i ≠ j) (hs : swapOk C x y px py l r = true)
    (n1 : notSt l = true) (n2 : notSt r = true) (ha : mE a C l = true) (hb : mE b C r = true) :
    PS X (.Assign [.Tuple [.Name x px, .Name y py] kt pt] (.Tuple [l, r] k2 pt2) p) (tS X.K CA G W (.par i j a b)) := by
  have c := hs
  unfold swapOk at c
  obtain ⟨c, _⟩ := ba c
  obtain ⟨c, _⟩ := ba c
  obtain ⟨c, _⟩ := ba c
  obtain ⟨c, _⟩ := ba c
  obtain ⟨c1, c2⟩ := ba c
  refine PS.by_ (ps_par (i := i) (j := j) (ok.calm hcd) (by rw [ok.nm]; exact ok.nd) (by rw [ok.nm]; exact slot_of h1) (by rw [ok.nm]; exact slot_of h2) hij (by rw [ok.sc]; exact loc_of c1) (by rw [ok.sc]; exact loc_of c2)
    (pa_cons (sE a ok ha).1 (pa_cons (sE b ok hb).1 pa_nil (star_of n2 [] X.env)) (star_of n1 _ X.env)) (swap2 ok hs n1 n2) rfl) ?_
  rintro Z σ H ⟨S, L, env, g, er, q⟩
  simp only [exS] at q
  refine ⟨S, L, env, g, er, (AftS.toS er g q).mono fun d S1 L1 H1 ⟨st, g1, q1⟩ v r => ⟨S1, L1, env, g1, er.step g st, (AftS.toS (er.step g st) g1 q1).mono fun d2 S2 L2 H2 ⟨st2, g2, q2⟩ v2 r2 => ⟨v, v2, rfl, ?_⟩⟩⟩
  split at q2
  · exact q2 _ L2 H2 Step.refl g2 (((er.step g st).step g1 st2).set (r.step g1 st2) (ok.cold_ne hcd _) |>.set r2 (ok.cold_ne hcd _))
  · exact q2.elim
theorem swap3 (ok : Ok X CA G W C) {x y z : Str} {px py pz pt pt2 : Pos} {kt k2 : Nat} {a b c : Expr} (h : swapOk3 C x y z px py pz a b c = true) (h1 : notSt a = true) (h2 : notSt b = true) (h3 : notSt c = true) :
    swappedStores [.Tuple [.Name x px, .Name y py, .Name z pz] kt pt] (.Tuple [a, b, c] k2 pt2) X.env = pure (some [x, y, z]) := by
  unfold swapOk3 at h
  obtain ⟨h, c10⟩ := ba h
  obtain ⟨h, c9⟩ := ba h
  obtain ⟨h, c8⟩ := ba h
  obtain ⟨h, c7⟩ := ba h
  obtain ⟨h, c6⟩ := ba h
  obtain ⟨h, c5⟩ := ba h
  obtain ⟨h, c4⟩ := ba h
  obtain ⟨h, c3⟩ := ba h
  obtain ⟨c1, c2⟩ := ba h
  have hb : X.env.blockKind = .function := by unfold Env.blockKind; rw [ok.sc, ok.kind]; rfl
  have hx : X.env.kindOf x = some .local := by show X.env.scope.names.lookup x = _; rw [ok.sc]; exact loc_of c1
  have hy : X.env.kindOf y = some .local := by show X.env.scope.names.lookup y = _; rw [ok.sc]; exact loc_of c2
  have hz : X.env.kindOf z = some .local := by show X.env.scope.names.lookup z = _; rw [ok.sc]; exact loc_of c3
  have hxy : ¬ x = y := by simpa using c6
  have hxz : ¬ x = z := by simpa using c7
  have hyz : ¬ y = z := by simpa using c8
  have hyx : ¬ y = x := fun e => hxy e.symm
  have hzx : ¬ z = x := fun e => hxz e.symm
  have hzy : ¬ z = y := fun e => hyz e.symm
  have c9' : ([a, b, c].all (foldedForSure 8)) = false := by
    cases z : ([a, b, c].all (foldedForSure 8)) with
    | false => rfl
    | true => rw [z] at c9; cases c9
  have c10' : ([a, b, c].all (constantsAlone 8)) = false := by
    cases z : ([a, b, c].all (constantsAlone 8)) with
    | false => rfl
    | true => rw [z] at c10; cases c10
  unfold swappedStores
  simp [hb, hx, hy, hz, c9', c10', c4, c5, Expr.pos, List.filterMap, List.eraseDups, hxy, hyx, hxz, hzx, hyz, hzy]
  rw [if_neg (by
    intro h
    rcases h with h | h | h
    · cases a <;> first | (exact absurd h Bool.false_ne_true) | (exact absurd h1 Bool.false_ne_true)
    · cases b <;> first | (exact absurd h Bool.false_ne_true) | (exact absurd h2 Bool.false_ne_true)
    · cases c <;> first | (exact absurd h Bool.false_ne_true) | (exact absurd h3 Bool.false_ne_true))]
  have k1 : (y == x) = false := by simpa using hyx
  have k2 : (z == x) = false := by simpa using hzx
  have k3 : (z == y) = false := by simpa using hzy
  rw [if_pos (by simp [List.eraseDupsBy, List.eraseDupsBy.loop, k1, k2, k3])]
theorem p_par3 (ok : Ok X CA G W C) (hcd : cold C = true) {i j k : Nat} {a b c : Ex} {x y z : Str} {px py pz pt pt2 p : Pos} {kt k2 : Nat} {l r m : Expr} (h1 : slotB C i x = true) (h2 : slotB C j y = true) (h3 : slotB C k z = true) (hij : i ≠ j) (hik : i ≠ k) (hjk : j ≠ k) (hs : swapOk3 C x y z px py pz l r m = true)
    (n1 : notSt l = true) (n2 : notSt r = true) (n3 : notSt m = true) (ha : mE a C l = true) (hb : mE b C r = true) (hc : mE c C m = true) :
    PS X (.Assign [.Tuple [.Name x px, .Name y py, .Name z pz] kt pt] (.Tuple [l, r, m] k2 pt2) p) (tS X.K CA G W (.par3 i j k a b c)) := by
  have q := hs
  unfold swapOk3 at q
  obtain ⟨q, _⟩ := ba q
  obtain ⟨q, _⟩ := ba q
  obtain ⟨q, _⟩ := ba q
  obtain ⟨q, _⟩ := ba q
  obtain ⟨q, _⟩ := ba q
  obtain ⟨q, _⟩ := ba q
  obtain ⟨q, _⟩ := ba q
  obtain ⟨q, c3⟩ := ba q
  obtain ⟨c1, c2⟩ := ba q
  refine PS.by_ (ps_par3 (i := i) (j := j) (l := k) (ok.calm hcd) (by rw [ok.nm]; exact ok.nd) (by rw [ok.nm]; exact slot_of h1) (by rw [ok.nm]; exact slot_of h2) (by rw [ok.nm]; exact slot_of h3) hij hik hjk (by rw [ok.sc]; exact loc_of c1) (by rw [ok.sc]; exact loc_of c2) (by rw [ok.sc]; exact loc_of c3)
    (pa_cons (sE a ok ha).1 (pa_cons (sE b ok hb).1 (pa_cons (sE c ok hc).1 pa_nil (star_of n3 [] X.env)) (star_of n2 _ X.env)) (star_of n1 _ X.env)) (swap3 ok hs n1 n2 n3) rfl) ?_
  rintro Z σ H ⟨S, L, env, g, er, q⟩
  simp only [exS] at q
  refine ⟨S, L, env, g, er, (AftS.toS er g q).mono fun d S1 L1 H1 ⟨st, g1, q1⟩ v r => ⟨S1, L1, env, g1, er.step g st, (AftS.toS (er.step g st) g1 q1).mono fun d2 S2 L2 H2 ⟨st2, g2, q2⟩ v2 r2 => ⟨S2, L2, env, g2, (er.step g st).step g1 st2, (AftS.toS ((er.step g st).step g1 st2) g2 q2).mono fun d3 S3 L3 H3 ⟨st3, g3, q3⟩ v3 r3 => ⟨v, v2, v3, rfl, ?_⟩⟩⟩⟩
  split at q3
  · exact q3 _ L3 H3 Step.refl g3 (((((er.step g st).step g1 st2).step g2 st3).set ((r.step g1 st2).step g2 st3) (ok.cold_ne hcd _) |>.set (r2.step g2 st3) (ok.cold_ne hcd _)).set r3 (ok.cold_ne hcd _))
  · exact q3.elim
theorem p_sub (ok : Ok X CA G W C) {o i x : Ex} {l k v : Expr} {p p2 : Pos} (hs : notSl k = true) (ho : mE o C l = true) (hi : mE i C k = true) (hx : mE x C v = true) : PS X (.Assign [.Subscript l k p2] v p) (tS X.K CA G W (.sub o i x)) := by
  have sw : swapsWithSole [.Subscript l k p2] v p.line X.env = pure false := by
    cases hl : notLc v with
    | true => exact sw_of hl hx (some (.Subscript l k p2)) p.line X.env
    | false =>
      cases v with
      | ListComp _ _ _ _ => rfl
      | _ => cases hl
  refine PS.by_ (ps_asg (sE x ok hx).1 (pg_sub (sE o ok ho).1 (sE i ok hi).1 set_list (by intro _; cases k <;> first | rfl | exact absurd hs Bool.false_ne_true)) sw (by cases v <;> rfl) rfl) ?_
  rintro Z σ H ⟨S, L, env, g, er, q⟩
  simp only [exS] at q
  refine ⟨S, L, env, g, er, (AftS.toS er g q).mono fun d S1 L1 H1 ⟨st, g1, q1⟩ v r => ⟨S1, L1, env, g1, er.step g st, (AftS.toS (er.step g st) g1 q1).mono fun d2 S2 L2 H2 ⟨st2, g2, q2⟩ v2 r2 =>
    ⟨S2, L2, env, g2, (er.step g st).step g1 st2, (AftS.toS ((er.step g st).step g1 st2) g2 q2).mono fun d3 S3 L3 H3 ⟨st3, g3, q3⟩ v3 r3 => ?_⟩⟩⟩
  have er3 := ((er.step g st).step g1 st2).step g2 st3
  unfold setItem at q3
  split at q3
  · skip
    split at q3
    · rename_i xs hxs
      split at q3
      · rename_i j hj
        have r2' := r2.step g2 st3
        simp only [RelD] at r2' r3
        obtain ⟨b, hn, rfl⟩ := r2'
        subst r3
        obtain ⟨vs, e1, rs⟩ := getL_rel g3 hxs hn
        refine ⟨b, vs, _, j, rfl, rfl, e1, by rw [rs.length]; exact hj, ?_⟩
        have rd : RelD X.K L3 H3 d v := (r.step g1 st2).step g2 st3
        have m : Mon L3 H3 L3 (upd H3 b (.lst (vs.set j v))) := ⟨fun _ _ h => h, fun c o eb pb => by
          rw [upd_ne (by intro z; subst z; rw [e1] at eb; cases eb; exact pb)]; exact eb⟩
        obtain ⟨st4, g4⟩ := g3.write (c := .lst (xs.set j d)) (o := .lst (vs.set j v)) hn ⟨_, upd_same, RelDs.mon m _ _ (rs.set j rd)⟩
        exact q3 σ _ _ st4 g4 (er3.step g3 st4)
      · exact q3.elim
    · exact q3.elim
  · exact q3.elim
/-- a dict is written, in a statement -/
theorem p_dst (ok : Ok X CA G W C) {o i x : Ex} {l k v : Expr} {p p2 : Pos} (hs : notSl k = true) (ho : mE o C l = true) (hi : mE i C k = true) (hx : mE x C v = true) : PS X (.Assign [.Subscript l k p2] v p) (tS X.K CA G W (.dst o i x)) := by
  have hu : X.A.units + 1 < cLine := by have := ok.un; omega
  have sw : swapsWithSole [.Subscript l k p2] v p.line X.env = pure false := by
    cases hl : notLc v with
    | true => exact sw_of hl hx (some (.Subscript l k p2)) p.line X.env
    | false =>
      cases v with
      | ListComp _ _ _ _ => rfl
      | _ => cases hl
  refine PS.by_ (ps_dput hu (sE o ok ho).1 (sE i ok hi).1 (sE x ok hx).1 sw) ?_
  rintro Z σ H ⟨S, L, env, g, er, q⟩
  simp only [exS] at q
  refine ⟨S, L, env, g, er, (AftS.toS er g q).mono fun d S1 L1 H1 ⟨st, g1, q1⟩ v r => ⟨S1, L1, env, g1, er.step g st, (AftS.toS (er.step g st) g1 q1).mono fun d2 S2 L2 H2 ⟨st2, g2, q2⟩ v2 r2 =>
    ⟨S2, L2, env, g2, (er.step g st).step g1 st2, (AftS.toS ((er.step g st).step g1 st2) g2 q2).mono fun d3 S3 L3 H3 ⟨st3, g3, q3⟩ v3 r3 => ?_⟩⟩⟩
  have er3 := ((er.step g st).step g1 st2).step g2 st3
  have rd : RelD X.K L3 H3 d v := (r.step g1 st2).step g2 st3
  have r2' := r2.step g2 st3
  unfold dstR at q3
  cases d2 with
  | ref n =>
    dsimp only at q3
    simp only [RelD] at r2'
    obtain ⟨a, hn, rfl⟩ := r2'
    split at q3
    · rename_i kvs e
      obtain ⟨vs, e1, e2, e3⟩ := g3.cell n _ a e hn
      split at q3
      · rename_i kk hk
        split at q3
        · rename_i hz
          rw [key_rel hk r3]
          refine ⟨a, _, rfl, DPut.k e1 (by have := congrArg List.length e2; simp at this; rw [this]; exact small (Nat.le_of_lt hz)), ?_⟩
          obtain ⟨k1, k2⟩ := put_rel kk rd e2 e3
          have m : Mon L3 H3 L3 (upd H3 a (.dK (putK vs kk v))) := ⟨fun _ _ h => h, fun c o eb pb => by
            rw [upd_ne (by intro z; subst z; rw [e1] at eb; cases eb; exact pb)]; exact eb⟩
          obtain ⟨st4, g4⟩ := g3.write (c := .dK (putKD kvs kk d)) (o := .dK (putK vs kk v)) hn ⟨_, upd_same, k1, RelDs.mon m _ _ k2⟩
          exact q3 σ _ _ st4 g4 (er3.step g3 st4)
        · exact q3.elim
      · exact q3.elim
    · rename_i kvs e
      obtain ⟨vs, e1, e2, e3⟩ := g3.cell n _ a e hn
      split at q3
      · rename_i kk hk
        split at q3
        · rename_i hz
          obtain ⟨b, rfl, eb⟩ := keys_rel hk r3
          refine ⟨a, _, rfl, DPut.t e1 eb (by have := congrArg List.length e2; simp at this; rw [this]; exact small (Nat.le_of_lt hz)), ?_⟩
          obtain ⟨k1, k2⟩ := put_rel kk rd e2 e3
          have m : Mon L3 H3 L3 (upd H3 a (.dT (putK vs kk v))) := ⟨fun _ _ h => h, fun c o eb pb => by
            rw [upd_ne (by intro z; subst z; rw [e1] at eb; cases eb; exact pb)]; exact eb⟩
          obtain ⟨st4, g4⟩ := g3.write (c := .dT (putKD kvs kk d)) (o := .dT (putK vs kk v)) hn ⟨_, upd_same, k1, RelDs.mon m _ _ k2⟩
          exact q3 σ _ _ st4 g4 (er3.step g3 st4)
        · exact q3.elim
      · exact q3.elim
    · exact q3.elim
  | _ => exact q3.elim
end
end Lt
set_option maxHeartbeats 1000000
namespace Lt
open PySem PySem.Spec PyProof.Rows L2
section
variable {CA : Str → Addr} {G : Cxp} {W : WX} {S S' : Store} {L L1 M2 L' : List Addr} {H H1 H2 H' : Hp} {σ σ' : Sl} {e : Expr}
theorem p_for {X : Cx} {C : MC} (ok : Ok X CA G W C) (hcd : cold C = true) {t : Tg} {it : Lt.It} {b : List Lt.St} {tg i : Expr} {l : List Stmt} {p : Pos} (h0 : notSet i = true) (ht : mT C t tg = true) (hi : PI X tg i (tI X.K CA G W it)) (hb : PSs X l (tB X.K CA G W b)) :
    PS X (.For tg i l [] p) (tS X.K CA G W (.forS t it b)) := by
  refine PS.by_ (ps_for (ok.pass hcd) (ok.calm hcd) hi (g_ok ok ht) hb (set_of h0 X.env)) ?_
  rintro Z σ H ⟨S, L, env, g, er, q⟩
  simp only [exS] at q
  refine ⟨S, L, env, g, er, (AftS.toS er g q).mono fun j S1 L1 H1 ⟨st, g1, q1⟩ J P io p1 => ?_⟩
  have er1 := er.step g st
  let Wf : Nat → Nat → Sl → Hp → Prop := fun i m σ H => ∃ S L e, Good X.K CA S L H ∧ P L H ∧ EnvR X.K G.pin L H e σ ∧ i + m = j.n ∧ AftS X.K CA G.pin W L H (forGo t j (exB G b) m i e S) Z
  refine ⟨Wf, ⟨j.n, S1, L1, env, g1, p1, er1, by omega, q1⟩, ?_⟩
  rintro i m σ Hc ⟨S, L, env, g, p, er, em, q⟩
  cases m with
  | zero =>
    left
    simp only [forGo] at q
    split at q
    · rename_i hf
      have ei : i = j.n := by omega
      subst ei
      exact ⟨io.stop S L Hc g p hf, q σ L Hc Step.refl g er⟩
    · exact q.elim
  | succ k =>
    right
    simp only [forGo] at q
    split at q
    · exact q.elim
    · rename_i d hat
      split at q
      · exact q.elim
      · rename_i e1 hb1
        obtain ⟨hgo, hy⟩ := io.go i S L Hc d g p hat (by omega)
        refine ⟨hgo, Wf (i + 1) k, fun σ' H' w => ⟨k, Nat.lt_succ_self k, w⟩, fun x H' y => ?_⟩
        obtain ⟨st1, g1, rd⟩ := hy x H' y
        refine ⟨S, L, env, d, e1, g1, er.step g st1, rd, hb1, fun σ2 er2 so => ⟨S, L, e1, g1, er2, ?_⟩⟩
        have pm : ∀ {L2 : List Addr} {H2 : Hp}, Step L H' L2 H2 → P L2 H2 := fun {L2 H2} s2 => io.mon _ _ _ _ (io.mon _ _ _ _ p (st1.mon g)) (s2.mon g1)
        cases hr : exB G b e1 S with
        | nx e2 S2 =>
          rw [hr] at q
          exact fun σ' L2 H2 s2 g2 er3 => ⟨S2, L2, e2, g2, pm s2, er3, by omega, AftS.from (st1.trans s2) q⟩
        | brk e2 S2 =>
          rw [hr] at q
          exact fun σ' L2 H2 s2 g2 er3 => q σ' L2 H2 (st1.trans s2) g2 er3
        | ret d2 S2 =>
          rw [hr] at q
          exact fun v L2 H2 s2 g2 r => q v L2 H2 (st1.trans s2) g2 r
        | exc c e2 S2 =>
          rw [hr] at q
          exact fun σ' cls dd L2 H2 s2 g2 er3 x => q σ' cls dd L2 H2 (st1.trans s2) g2 er3 x
        | bad =>
          rw [hr] at q
          exact q
theorem p_whl {X : Cx} {C : MC} (ok : Ok X CA G W C) (hcd : cold C = true) {c : Ex} {b : List Lt.St} {t : Expr} {l : List Stmt} {p : Pos} (hc : PT X t (tT X.K CA G W c)) (hb : PSs X l (tB X.K CA G W b)) : PS X (.While t l [] p) (tS X.K CA G W (.whl c b)) := by
  refine PS.by_ (ps_while (ok.pass hcd) hc hb) ?_
  rintro Z σ H ⟨S, L, env, g, er, q⟩
  simp only [exS] at q
  let Wf : Nat → Sl → Hp → Prop := fun m σ H => ∃ S L e, Good X.K CA S L H ∧ EnvR X.K G.pin L H e σ ∧ AftS X.K CA G.pin W L H (whGo (ev G c) (exB G b) m e S) Z
  refine ⟨Wf, ⟨G.fuel, S, L, env, g, er, q⟩, ?_⟩
  rintro m σ Hc ⟨S, L, env, g, er, q⟩
  cases m with
  | zero => exact q.elim
  | succ k =>
    simp only [whGo] at q
    refine ⟨S, L, env, g, er, (AftS.toS er g q).mono fun d S1 L1 H1 ⟨st, g1, q1⟩ => ?_⟩
    split at q1
    · refine ⟨true, rfl, iteT ⟨Wf k, fun σ' H' w => ⟨k, Nat.lt_succ_self k, w⟩, S1, L1, env, g1, er.step g st, ?_⟩⟩
      cases hr : exB G b env S1 with
      | nx e2 S2 =>
        rw [hr] at q1
        exact fun σ' L2 H2 s2 g2 er3 => ⟨S2, L2, e2, g2, er3, AftS.from s2 q1⟩
      | brk e2 S2 => rw [hr] at q1; exact q1
      | ret d2 S2 => rw [hr] at q1; exact q1
      | exc c e2 S2 => rw [hr] at q1; exact q1
      | bad => rw [hr] at q1; exact q1
    · exact ⟨false, rfl, iteF (q1 σ L1 H1 Step.refl g1 (er.step g st))⟩
    · exact q1.elim
theorem mB_cons {C : MC} {x : Lt.St} {xs : List Lt.St} {ss : List Stmt} (h : mB (x :: xs) C ss = true) : ∃ s r, ss = s :: r ∧ mS x C s = true ∧ mB xs C r = true := by
  cases ss with
  | nil => simp only [mB] at h; cases h
  | cons s r =>
    simp only [mB, Bool.and_eq_true] at h
    exact ⟨s, r, rfl, h.1, h.2⟩
theorem mB_nil {C : MC} {ss : List Stmt} (h : mB [] C ss = true) : ss = [] := by
  cases ss with
  | nil => rfl
  | cons e r => simp only [mB] at h; cases h
mutual
theorem sK : ∀ (x : Ex) {X : Cx} {W : WX} {e : Expr}, kE x e = true → PE X e (tE X.K CA G W x)
  | .int i, X, W, e, h => by
    simp only [kE] at h
    obtain ⟨j, k, p, rfl, h⟩ := mInt_inv i h
    have h := of_decide_eq_true h
    subst h
    exact PE.by_ pe_int fun σ H Q ⟨S, L, env, g, er, q⟩ => Aft.int g (by simpa only [ev] using q)
  | .str s, X, W, e, h => by
    simp only [kE] at h
    obtain ⟨j, k, p, rfl, h⟩ := mStr_inv s h
    have h := of_decide_eq_true h
    subst h
    exact PE.by_ pe_str fun σ H Q ⟨S, L, env, g, er, q⟩ => Aft.now g (by simpa only [ev] using q) (by simp [RelD])
  | .bl b, X, W, e, h => by
    simp only [kE] at h
    obtain ⟨j, k, p, rfl, h⟩ := mBl_inv b h
    have h := of_decide_eq_true h
    subst h
    exact PE.by_ pe_bl fun σ H Q ⟨S, L, env, g, er, q⟩ => Aft.bl g (by simpa only [ev] using q)
  | .non, X, W, e, h => by
    simp only [kE] at h
    obtain ⟨k, p, rfl, _⟩ := mNon_inv h
    exact PE.by_ pe_non fun σ H Q ⟨S, L, env, g, er, q⟩ => Aft.now g (by simpa only [ev] using q) (by simp [RelD])
  | .tup es, X, W, e, h => by
    simp only [kE] at h
    obtain ⟨xs, k, p, rfl, h⟩ := mTup_inv _ h
    obtain ⟨h1, h2⟩ := ba h
    exact s_tup (sKs es h2) (of_decide_eq_true h1)
  | .lst es, X, W, e, h => by
    simp only [kE] at h
    obtain ⟨xs, p, rfl, h⟩ := mLst_inv _ h
    obtain ⟨h1, h2⟩ := ba h
    exact s_lst (sKs es h2) (of_decide_eq_true h1)
  | .var _, _, _, _, h => by simp only [kE] at h; cases h
  | .glo _, _, _, _, h => by simp only [kE] at h; cases h
  | .bin _ _ _, _, _, _, h => by simp only [kE] at h; cases h
  | .neg _, _, _, _, h => by simp only [kE] at h; cases h
  | .not _, _, _, _, h => by simp only [kE] at h; cases h
  | .and _ _, _, _, _, h => by simp only [kE] at h; cases h
  | .or _ _, _, _, _, h => by simp only [kE] at h; cases h
  | .cmp _ _ _, _, _, _, h => by simp only [kE] at h; cases h
  | .chn _ _ _ _ _, _, _, _, h => by simp only [kE] at h; cases h
  | .isN _, _, _, _, h => by simp only [kE] at h; cases h
  | .ntN _, _, _, _, h => by simp only [kE] at h; cases h
  | .ife _ _ _, _, _, _, h => by simp only [kE] at h; cases h
  | .idx _ _, _, _, _, h => by simp only [kE] at h; cases h
  | .slT _ _, _, _, _, h => by simp only [kE] at h; cases h
  | .slF _ _, _, _, _, h => by simp only [kE] at h; cases h
  | .slB _ _ _, _, _, _, h => by simp only [kE] at h; cases h
  | .rev _, _, _, _, h => by simp only [kE] at h; cases h
  | .call _ _, _, _, _, h => by simp only [kE] at h; cases h
  | .bi _ _, _, _, _, h => by simp only [kE] at h; cases h
  | .isI _ _, _, _, _, h => by simp only [kE] at h; cases h
  | .app _ _, _, _, _, h => by simp only [kE] at h; cases h
  | .ext _ _, _, _, _, h => by simp only [kE] at h; cases h
  | .clr _, _, _, _, h => by simp only [kE] at h; cases h
  | .isB _ _, _, _, _, h => by simp only [kE] at h; cases h
  | .chn4 _ _ _ _ _ _ _, _, _, _, h => by simp only [kE] at h; cases h
  | .any, _, _, _, h => by simp only [kE] at h; cases h
  | .chn5 _ _ _ _ _ _ _ _ _, _, _, _, h => by simp only [kE] at h; cases h
  | .ntB _ _, _, _, _, h => by simp only [kE] at h; cases h
  | .dic _, _, _, _, h => by simp only [kE] at h; cases h
  | .dgt _ _, _, _, _, h => by simp only [kE] at h; cases h
  | .din _ _ _, _, _, _, h => by simp only [kE] at h; cases h
  | .get1 _ _, _, _, _, h => by simp only [kE] at h; cases h
  | .get2 _ _ _, _, _, _, h => by simp only [kE] at h; cases h
  | .dpop _ _, _, _, _, h => by simp only [kE] at h; cases h
  | .ixo _ _, _, _, _, h => by simp only [kE] at h; cases h
  | .ins _ _ _, _, _, _, h => by simp only [kE] at h; cases h
  | .pop0 _, _, _, _, h => by simp only [kE] at h; cases h
  | .pop1 _ _, _, _, _, h => by simp only [kE] at h; cases h
  | .fld _ _ _, _, _, _, h => by simp only [kE] at h; cases h
  | .mth _ _ _ _ _, _, _, _, h => by simp only [kE] at h; cases h
  | .mk _ _ _, _, _, _, h => by simp only [kE] at h; cases h
  | .xis _ _, _, _, _, h => by simp only [kE] at h; cases h
  | .xat _, _, _, _, h => by simp only [kE] at h; cases h
  | .dsp _, _, _, _, h => by simp only [kE] at h; cases h
  | .lc _ _ _ _, _, _, _, h => by simp only [kE] at h; cases h
  | .lcI _ _ _ _ _, _, _, _, h => by simp only [kE] at h; cases h
theorem sKs : ∀ (xs : List Ex) {X : Cx} {W : WX} {es : List Expr}, kEs xs es = true → PA X es (tEs X.K CA G W xs)
  | [], X, W, es, h => by
    simp only [kEs] at h
    rw [List.isEmpty_iff.mp h]
    exact s_nil
  | x :: xs, X, W, es, h => by
    cases es with
    | nil => simp only [kEs] at h; cases h
    | cons e r =>
      simp only [kEs, Bool.and_eq_true] at h
      obtain ⟨⟨h1, h2⟩, h3⟩ := h
      exact s_cons (sK x h2) (sKs xs h3) (star_of h1 r X.env)
end
theorem Ok.suite {X : Cx} {C : MC} (ok : Ok X CA G W C) (i : Nat) (a : Addr) (oe : Obj) (pn : List (Addr × Obj)) (c : Exc) (o : Option (Addr × D)) (hz : Zc (.ref (CA c.cls)) (o.map (·.1)) oe) (hf : ∃ vs, oe.data = .fields vs) (hat : c.at_ = o.map (·.2)) :
    Ok (X.suite a ((a, oe) :: pn)) CA ⟨{ G.toCxt with exc := some c }, some (i, a, o)⟩ W0 (C.suite i) where
  cal := fun h => by cases h
  nm := ok.nm
  nd := ok.nd
  sc := ok.sc
  kind := ok.kind
  tk := takes0
  un := ok.un
  pas := fun h => by cases h
  free := ok.free
  fn := fun h => by cases h
  glo := ok.glo
  call := fun f n h => by cases h
  fl := fun y f h => by cases h
  ms := fun y m key n h => by cases h
  mks := fun y key n h => by cases h
  xc := fun x h => by cases h
  sb := ok.sb
  fr := fun h => by cases h
  stk := fun h => by cases h
  xo := fun x h => by cases h
  xi := ok.xi
  xf := ok.xf
  tc := fun h => by cases h
  xsc := fun x h => by cases h
  xoc := fun x h => by cases h
  hot := rfl
  hotx := fun j b o' h => by
    cases h
    exact ⟨X, oe, pn, c, rfl, hz, hf, rfl, hat⟩
theorem Ok.tr {X : Cx} {C : MC} (ok : Ok X CA G W C) {W' : WX} (hc0 : C.hs = none) (pn : List (Addr × Obj)) (xe : Value → Shared → Prop) (tk : Takes (X.tr pn xe) W') (pa : PassesOwn (model X.prog X.w) X.A X.env xe) : Ok (X.tr pn xe) CA G W' C where
  cal := ok.cal
  nm := ok.nm
  nd := ok.nd
  sc := ok.sc
  kind := ok.kind
  tk := tk
  un := ok.un
  pas := fun _ => pa
  free := ok.free
  fn := ok.fn
  glo := ok.glo
  call := ok.call
  fl := ok.fl
  ms := ok.ms
  mks := ok.mks
  xc := ok.xc
  sb := ok.sb
  fr := ok.fr
  stk := ok.stk
  xo := ok.xo
  xi := ok.xi
  xf := ok.xf
  tc := ok.tc
  xsc := ok.xsc
  xoc := ok.xoc
  hot := ok.hot
  hotx := fun i a o h => by
    have e := ok.hot
    rw [hc0, h] at e; cases e
theorem p_stf {X : Cx} {C : MC} (ok : Ok X CA G W C) {o x : Ex} {y f : Str} {l v : Expr} {p p2 : Pos} (h1 : C.fl y f = true) (ho : mE o C l = true) (hx : mE x C v = true) : PS X (.Assign [.Attribute l f p2] v p) (tS X.K CA G W (.stf o y f x)) := by
  obtain ⟨cl, na⟩ := ok.fl y f h1
  have sw : swapsWithSole [.Attribute l f p2] v p.line X.env = pure false := by
    cases hl : notLc v with
    | true => exact sw_of hl hx (some (.Attribute l f p2)) p.line X.env
    | false =>
      cases v with
      | ListComp _ _ _ _ => rfl
      | _ => cases hl
  refine PS.by_ (ps_fld (sE o ok ho).1 (sE x ok hx).1 sw) ?_
  rintro Z σ H ⟨S, L, env, g, er, q⟩
  simp only [exS] at q
  refine ⟨S, L, env, g, er, (AftS.toS er g q).mono fun d S1 L1 H1 ⟨st, g1, q1⟩ v1 r1 => ?_⟩
  have er1 := er.step g st
  refine ⟨S1, L1, env, g1, er1, (AftS.toS er1 g1 q1).mono fun d2 S2 L2 H2 ⟨st2, g2, q2⟩ v2 r2 => ?_⟩
  have er2 := er1.step g1 st2
  unfold stfR at q2
  split at q2
  · split at q2
    · rename_i n _ y' fs hi
      split at q2
      · rename_i hy
        obtain ⟨hy, hlen⟩ := hy
        subst hy
        simp only [RelD] at r2
        obtain ⟨b, hb, rfl⟩ := r2
        obtain ⟨dx, gs, e1, e2, e3, r3⟩ := getI_rel g2 hi hb
        have hgl : gs.length < 1000 := by
          have := congrArg List.length e3
          simp at this
          omega
        refine ⟨b, _, dx, gs, rfl, e1, cl, na, hgl, ?_⟩
        obtain ⟨k1, k2⟩ := flds_put (X := X) f e3 r3 (r1.step g1 st2)
        have m : Mon L2 H2 L2 (upd H2 b (.ins (CA y') dx (putF f v1 gs))) := ⟨fun _ _ h => h, fun c o ec pc => by
          rw [upd_ne (by intro z; subst z; rw [e1] at ec; cases ec; exact pc)]; exact ec⟩
        have hdb : dx ≠ b := fun z => by rw [z, e1] at e2; cases e2
        obtain ⟨st3, g3⟩ := g2.write (c := .ins y' (putD f d fs)) (o := .ins (CA y') dx (putF f v1 gs)) hb ⟨dx, _, upd_same, by rw [upd_ne hdb]; exact e2, k1, RelDs.mon m _ _ k2⟩
        exact q2 σ L2 _ st3 g3 (er2.step g2 st3)
      · exact q2.elim
    · exact q2.elim
  · exact q2.elim
theorem p_rai {X : Cx} {C : MC} (ok : Ok X CA G W C) {y m : Str} {q p2 p3 p : Pos} {j : Nat} (h1 : gloB C.sc y = true) (h2 : nmOk y = true) (h3 : C.xs y = true) :
    PS X (.Raise (some (.Call (.Name y q) [.Constant (.str m) j p2] [] p3)) none p) (tS X.K CA G W (.rai y)) := by
  obtain ⟨x1, x2, x3, x4⟩ := ok.xc y h3
  refine PS.by_ (ps_raise (ok.cal (ok.xsc _ h3)) ok.tk (pmk_own PySem.F.excBase_ValueError x2 x1 x3 x4 (gl_of ok h1) (nm_of h2).1)) ?_
  rintro Z σ H ⟨S, L, env, g, er, q⟩
  simp only [exS] at q
  exact q σ _ none L H Step.refl g er ⟨rfl, rfl⟩
theorem p_try {X : Cx} {C : MC} {b : List Lt.St} (ok : Ok X CA G W C) (hb0 : ∀ {X : Cx} {W : WX} (ok : Ok X CA G W C) {ss : List Stmt}, mB b C ss = true → PSs X ss (tB X.K CA G W b)) {y : Str} {a : Ex} {ss : List Stmt} {v : Expr} {np rp p2 p : Pos} (ht : C.top = true) (h1 : gloB C.sc y = true) (h2 : nmOk y = true) (h3 : C.xs y = true) (hb : mB b C ss = true) (hv : kE a v = true) :
    PS X (.Try ss [.ExceptHandler (some (.Name y np)) none [.Return (some v) rp] p2] [] [] p) (tS X.K CA G W (.tryC b y a)) := by
  obtain ⟨x1, _, _, _⟩ := ok.xc y h3
  refine PS.by_ (ps_try_only (c := .ref (CA y)) (tb := fun W' => tB X.K CA G W' b) (ts := fun _ _ _ => tB X.K CA G W0 [.ret a]) (Wout := W) (ok.stk ht) (ok.fr ht) ⟨gl_of ok h1, (nm_of h2).1, .inl x1⟩ ok.tk (fun W' pn xe tk pa => hb0 (ok.tr (ok.tc ht) pn xe tk pa) hb) fun a' oe cls d pn hz hf => ?_) ?_
  · refine PSs.by_ (pss_cons (ps_ret (sK (X := X.suite a' ((a', oe) :: pn)) (W := W0) (G := G) (CA := CA) a hv)) pss_nil) ?_
    rintro Z σ H ⟨S, L, env, g, er, q⟩
    simp only [exB, exS] at q
    refine ⟨S, L, env, g, er, ?_⟩
    cases hr : ev G a env S with
    | ok d S1 =>
      rw [hr] at q
      exact fun L1 H1 st g1 v r => q v L1 H1 st g1 r
    | exc c S1 =>
      rw [hr] at q
      exact fun cls' dd L1 H1 st g1 x => q σ cls' dd L1 H1 st g1 (er.step g st) x
    | bad => rw [hr] at q; exact q
  · rintro Z σ H ⟨S, L, env, g, er, q⟩
    simp only [exS] at q
    refine ⟨S, L, env, g, er, ?_⟩
    cases hr : exB G b env S with
    | nx e2 S2 => rw [hr] at q; exact q
    | ret d S2 => rw [hr] at q; exact q
    | brk e2 S2 => rw [hr] at q; exact q
    | bad => rw [hr] at q; exact q
    | exc c e2 S2 =>
      rw [hr] at q
      simp only at q
      intro σ' cls dd L' H' st g' er' x
      cases hs : G.sub c.cls y with
      | none => rw [hs] at q; exact q.elim
      | some bb =>
        rw [hs] at q
        refine ⟨bb, ?_, fun hbt a' ha' => ?_, fun hbf => ?_⟩
        · rw [x.1]; exact ok.sb _ _ _ hs
        · subst hbt
          simp only at q
          refine ⟨S2, L', e2, g', er', ?_⟩
          simp only [exB, exS]
          cases hv2 : ev G a e2 S2 with
          | ok d S3 =>
            rw [hv2] at q
            exact fun v L2 H2 st2 g2 r => q v L2 H2 (st.trans st2) g2 r
          | exc c S3 => rw [hv2] at q; exact q.elim
          | bad => rw [hv2] at q; exact q.elim
        · subst hbf
          exact q σ' cls dd L' H' st g' er' x
theorem p_raiA {X : Cx} {C : MC} (ok : Ok X CA G W C) {y : Str} {x : Ex} {a : Expr} {q p3 p : Pos} (h1 : gloB C.sc y = true) (h2 : nmOk y = true) (h3 : C.xo y = true) (h4 : notSt a = true) (ha : mE x C a = true) :
    PS X (.Raise (some (.Call (.Name y q) [a] [] p3)) none p) (tS X.K CA G W (.raiA y x)) := by
  obtain ⟨fI, k, fd, ps, sp, T, iC, tI, F, hr, hb, hm, hsp⟩ := ok.xo y h3
  refine PS.by_ (ps_raise (ok.cal (ok.xoc _ h3)) ok.tk (pmk_oex (dvs := []) T iC tI F hr hb .nil (fun pins σ H s e s' I hc => ?_) (gl_of ok h1) hm (pa_cons (sE x ok ha).1 pa_nil (star_of h4 [] X.env)) (nm_of h2).1 (star_of h4 [] X.env) rfl)) ?_
  · obtain ⟨_, _, _, _, _, _, _, _, _, _, _, _, z⟩ := hc
    exact z.elim
  rintro Z σ H ⟨S, L, env, g, er, q⟩
  simp only [exS] at q
  refine ⟨S, L, env, g, er, (AftS.toS er g q).mono fun d S1 L1 H1 ⟨st, g1, q1⟩ v r => ⟨by simp, fun b hb1 => ?_⟩⟩
  refine hsp b v _ _ _ upd_same fun dx H' hdx hne he => ?_
  subst he
  have hdx1 : H1 dx = none := by rw [upd_ne hne] at hdx; exact hdx
  refine ⟨rfl, dx, _, upd_same, by rw [upd_ne hne]; exact upd_same, hdx1, ?_⟩
  have eH : upd (del (upd (upd (upd H1 b (exo b (CA y) none)) dx (exd dx [("at", v)])) b (exo b (CA y) (some dx))) b) dx (.xd [("at", v)]) = upd H1 dx (.xd [("at", v)]) := by
    funext z
    by_cases z1 : z = dx
    · subst z1; rw [upd_same, upd_same]
    · rw [upd_ne z1, upd_ne z1]
      by_cases z2 : z = b
      · subst z2; rw [del_same, hb1]
      · rw [del_ne z2, upd_ne z2, upd_ne z1, upd_ne z2]
  rw [eH]
  obtain ⟨st2, g2⟩ := g1.side (o := .xd [("at", v)]) hdx1
  exact q1 σ _ _ _ _ st2 g2 ((er.step g st).step g1 st2) ⟨rfl, dx, v, rfl, upd_same, r.step g1 st2⟩
theorem suite_key {X : Cx} {su : List Lt.St} {i : Nat} {c : Exc} {e2 : Lt.Env} {S2 : Store} {cls : Value} {dd : Option Addr} {Z : Ends} (hnop : G.pin = none) (hi : i < e2.length) (st : Step L H L' H') (g' : Good X.K CA S2 L' H') (er' : EnvR X.K G.pin L' H' e2 σ') (x : ExR X.K CA L' H' c cls dd)
    (q : AftS X.K CA G.pin W L H (suR i (exB { G.toCxt with exc := some c } su (e2.set i none) S2)) Z) (a' : Addr) : ∃ (c : Exc) (o : Option (Addr × D)), cls = .ref (CA c.cls) ∧ dd = o.map (·.1) ∧ c.at_ = o.map (·.2) ∧ tB X.K CA ⟨{ G.toCxt with exc := some c }, some (i, a', o)⟩ W0 su { nx := fun σ' H' => Z.nx (σ'.set i none) H', rt := Z.rt, bk := fun σ' H' => Z.bk (σ'.set i none) H', ct := fun σ' H' => Z.ct (σ'.set i none) H' } (σ'.set i (some (.ref a'))) H' := by
  have hl := er'.len
  have key : ∀ o : Option (Addr × D), (∀ x d, o = some (x, d) → ∃ v, H' x = some (.xd [("at", v)]) ∧ RelD X.K L' H' d v) → tB X.K CA ⟨{ G.toCxt with exc := some c }, some (i, a', o)⟩ W0 su { nx := fun σ' H' => Z.nx (σ'.set i none) H', rt := Z.rt, bk := fun σ' H' => Z.bk (σ'.set i none) H', ct := fun σ' H' => Z.ct (σ'.set i none) H' } (σ'.set i (some (.ref a'))) H' := by
    intro o ho
    refine ⟨S2, L', e2.set i none, g', ⟨by simp [hl], fun j d hj => ?_, fun j b o' he => ?_⟩, ?_⟩
    · by_cases hij : j = i
      · subst hij
        rw [List.getElem?_set_self hi] at hj; cases hj
      · rw [List.getElem?_set_ne (Ne.symm hij)] at hj
        obtain ⟨v, e1, r1⟩ := er'.has j d hj
        exact ⟨v, by rw [List.getElem?_set_ne (Ne.symm hij)]; exact e1, r1⟩
    · cases he
      exact ⟨List.getElem?_set_self (by rw [← hl]; exact hi), List.getElem?_set_self hi, ho⟩
    · have gone : ∀ {e3 : Lt.Env} {σ3 : Sl} {L3 : List Addr} {H3 : Hp}, EnvR X.K (some (i, a', o)) L3 H3 e3 σ3 → EnvR X.K G.pin L3 H3 (e3.set i none) (σ3.set i none) := by
        intro e3 σ3 L3 H3 er3
        refine ⟨by simp [er3.len], fun j d hj => ?_, fun j b o' he => by rw [hnop] at he; cases he⟩
        by_cases hij : j = i
        · subst hij
          by_cases hlt : j < e3.length
          · rw [List.getElem?_set_self hlt] at hj; cases hj
          · rw [List.getElem?_eq_none (by simpa using hlt)] at hj; cases hj
        · rw [List.getElem?_set_ne (Ne.symm hij)] at hj
          obtain ⟨v, e1, r1⟩ := er3.has j d hj
          exact ⟨v, by rw [List.getElem?_set_ne (Ne.symm hij)]; exact e1, r1⟩
      revert q
      show AftS X.K CA G.pin W L H (suR i (exB { G.toCxt with exc := some c } su (e2.set i none) S2)) Z → AftS X.K CA _ W0 L' H' (exB { G.toCxt with exc := some c } su (e2.set i none) S2) _
      cases exB { G.toCxt with exc := some c } su (e2.set i none) S2 with
      | nx e3 S3 => exact fun q σ3 L3 H3 st3 g3 er3 => q _ L3 H3 (st.trans st3) g3 (gone er3)
      | ret d S3 => exact fun q v L3 H3 st3 g3 r => q v L3 H3 (st.trans st3) g3 r
      | brk e3 S3 => exact fun q σ3 L3 H3 st3 g3 er3 => q _ L3 H3 (st.trans st3) g3 (gone er3)
      | exc c3 e3 S3 => exact fun q => q.elim
      | bad => exact fun q => q.elim
  obtain ⟨x1', x2⟩ := x
  cases hat : c.at_ with
  | none =>
    rw [hat] at x2
    exact ⟨c, none, x1', x2, hat, key none fun x d h => by cases h⟩
  | some d =>
    rw [hat] at x2
    obtain ⟨xd, v, e1, e2', r⟩ := x2
    exact ⟨c, some (xd, d), x1', e1, hat, key _ fun x' d' h => by cases h; exact ⟨v, e2', r⟩⟩
theorem p_tryA {X : Cx} {C : MC} {b su : List Lt.St} (ok : Ok X CA G W C) (hb0 : ∀ {X : Cx} {W : WX} (ok : Ok X CA G W C) {ss : List Stmt}, mB b C ss = true → PSs X ss (tB X.K CA G W b)) (hs0 : ∀ {X : Cx} {G : Cxp} {W : WX} {C : MC} (ok : Ok X CA G W C) {ss : List Stmt}, mB su C ss = true → PSs X ss (tB X.K CA G W su))
    {y n : Str} {i : Nat} {ss : List Stmt} {b0 : Stmt} {sus : List Stmt} {np p2 p : Pos} (ht : C.top = true) (h1 : gloB C.sc y = true) (h2 : nmOk y = true) (h3 : (C.xs y || C.xo y) = true) (h4 : slotB C i n = true) (h5 : locB C.sc n = true) (hb : mB b C ss = true) (hsu : mB su (C.suite i) (b0 :: sus) = true) :
    PS X (.Try ss [.ExceptHandler (some (.Name y np)) (some n) (b0 :: sus) p2] [] [] p) (tS X.K CA G W (.tryA b y i su)) := by
  have x1 : X.mg y = some (.ref (CA y)) := by
    rw [Bool.or_eq_true] at h3
    rcases h3 with h3 | h3
    · exact (ok.xc y h3).1
    · obtain ⟨_, _, _, _, _, _, _, _, _, _, _, hm, _⟩ := ok.xo y h3
      exact hm
  have hnop : G.pin = none := by
    have e := ok.hot
    rw [ok.tc ht] at e
    exact Option.map_eq_none_iff.mp e.symm
  refine PS.by_ (ps_try_as (c := .ref (CA y)) (i := i) (tb := fun W' => tB X.K CA G W' b) (ts := fun a cls d Z σ H => ∃ (c : Exc) (o : Option (Addr × D)), cls = .ref (CA c.cls) ∧ d = o.map (·.1) ∧ c.at_ = o.map (·.2) ∧ tB X.K CA ⟨{ G.toCxt with exc := some c }, some (i, a, o)⟩ W0 su Z σ H) (Wout := W)
    (ok.stk ht) (ok.fr ht) (by rw [ok.nm]; exact ok.nd) (by rw [ok.nm]; exact slot_of h4) (by show X.env.scope.names.lookup n = _; rw [ok.sc]; exact loc_of h5) ⟨gl_of ok h1, (nm_of h2).1, .inl x1⟩ ok.tk (fun W' pn xe tk pa => hb0 (ok.tr (ok.tc ht) pn xe tk pa) hb) fun a' oe cls d pn hz hf => ?_) ?_
  · refine ⟨fun pins s σ H D I q => ?_⟩
    obtain ⟨c, o, rfl, rfl, hat, q⟩ := q
    exact (hs0 (ok.suite i a' oe pn c o hz hf hat) hsu).run pins s σ H D I q
  · rintro Z σ H ⟨S, L, env, g, er, q⟩
    simp only [exS] at q
    refine ⟨S, L, env, g, er, ?_⟩
    cases hr : exB G b env S with
    | nx e2 S2 => rw [hr] at q; exact q
    | ret d S2 => rw [hr] at q; exact q
    | brk e2 S2 => rw [hr] at q; exact q
    | bad => rw [hr] at q; exact q
    | exc c e2 S2 =>
      rw [hr] at q
      simp only at q
      intro σ' cls dd L' H' st g' er' x
      cases hs : G.sub c.cls y with
      | none => rw [hs] at q; exact q.elim
      | some bb =>
        rw [hs] at q
        refine ⟨bb, ?_, fun hbt a' ha' => ?_, fun hbf => ?_⟩
        · rw [x.1]; exact ok.sb _ _ _ hs
        · subst hbt
          simp only at q
          split at q
          · rename_i hi
            exact suite_key hnop hi st g' er' x q a'
          · exact q.elim
        · subst hbf
          exact q σ' cls dd L' H' st g' er' x
theorem p_try2 {X : Cx} {C : MC} {b su su2 : List Lt.St} (ok : Ok X CA G W C) (hb0 : ∀ {X : Cx} {W : WX} (ok : Ok X CA G W C) {ss : List Stmt}, mB b C ss = true → PSs X ss (tB X.K CA G W b)) (hs0 : ∀ {X : Cx} {G : Cxp} {W : WX} {C : MC} (ok : Ok X CA G W C) {ss : List Stmt}, mB su C ss = true → PSs X ss (tB X.K CA G W su))
    (hs02 : ∀ {X : Cx} {G : Cxp} {W : WX} {C : MC} (ok : Ok X CA G W C) {ss : List Stmt}, mB su2 C ss = true → PSs X ss (tB X.K CA G W su2))
    {y n y2 n2 : Str} {i i2 : Nat} {ss : List Stmt} {b0 b02 : Stmt} {sus sus2 : List Stmt} {np p2 np2 p3 p : Pos} (ht : C.top = true) (h1 : gloB C.sc y = true) (h2 : nmOk y = true) (h3 : (C.xs y || C.xo y) = true) (h4 : slotB C i n = true) (h5 : locB C.sc n = true)
    (k1 : gloB C.sc y2 = true) (k2 : nmOk y2 = true) (k3 : (C.xs y2 || C.xo y2) = true) (k4 : slotB C i2 n2 = true) (k5 : locB C.sc n2 = true) (hb : mB b C ss = true) (hsu : mB su (C.suite i) (b0 :: sus) = true) (hsu2 : mB su2 (C.suite i2) (b02 :: sus2) = true) :
    PS X (.Try ss [.ExceptHandler (some (.Name y np)) (some n) (b0 :: sus) p2, .ExceptHandler (some (.Name y2 np2)) (some n2) (b02 :: sus2) p3] [] [] p) (tS X.K CA G W (.try2 b y i su y2 i2 su2)) := by
  have glob : ∀ z, (C.xs z || C.xo z) = true → X.mg z = some (.ref (CA z)) := fun z h => by
    rw [Bool.or_eq_true] at h
    rcases h with h | h
    · exact (ok.xc z h).1
    · obtain ⟨_, _, _, _, _, _, _, _, _, _, _, hm, _⟩ := ok.xo z h
      exact hm
  have hnop : G.pin = none := by
    have e := ok.hot
    rw [ok.tc ht] at e
    exact Option.map_eq_none_iff.mp e.symm
  have suit : ∀ {z : Str} {i : Nat} {su : List Lt.St} {b0 : Stmt} {sus : List Stmt} (hs0 : ∀ {X : Cx} {G : Cxp} {W : WX} {C : MC} (ok : Ok X CA G W C) {ss : List Stmt}, mB su C ss = true → PSs X ss (tB X.K CA G W su)), mB su (C.suite i) (b0 :: sus) = true → ∀ (a : Addr) (oe : Obj) (cls : Value) (d : Option Addr) (pn : List (Addr × Obj)), Zc cls d oe → (∃ vs, oe.data = .fields vs) → PSs (X.suite a ((a, oe) :: pn)) (b0 :: sus) (fun Z σ H => ∃ (c : Exc) (o : Option (Addr × D)), cls = .ref (CA c.cls) ∧ d = o.map (·.1) ∧ c.at_ = o.map (·.2) ∧ tB X.K CA ⟨{ G.toCxt with exc := some c }, some (i, a, o)⟩ W0 su Z σ H) := by
    intro z i su b0 sus hs0 hsu a' oe cls d pn hz hf
    refine ⟨fun pins s σ H D I q => ?_⟩
    obtain ⟨c, o, rfl, rfl, hat, q⟩ := q
    exact (hs0 (ok.suite i a' oe pn c o hz hf hat) hsu).run pins s σ H D I q
  refine PS.by_ (ps_try_nam (tb := fun W' => tB X.K CA G W' b) (l := [(i, .ref (CA y), fun a cls d Z σ H => ∃ (c : Exc) (o : Option (Addr × D)), cls = .ref (CA c.cls) ∧ d = o.map (·.1) ∧ c.at_ = o.map (·.2) ∧ tB X.K CA ⟨{ G.toCxt with exc := some c }, some (i, a, o)⟩ W0 su Z σ H), (i2, .ref (CA y2), fun a cls d Z σ H => ∃ (c : Exc) (o : Option (Addr × D)), cls = .ref (CA c.cls) ∧ d = o.map (·.1) ∧ c.at_ = o.map (·.2) ∧ tB X.K CA ⟨{ G.toCxt with exc := some c }, some (i2, a, o)⟩ W0 su2 Z σ H)]) (Wout := W)
    (ok.stk ht) (ok.fr ht) (by rw [ok.nm]; exact ok.nd) ok.tk (fun W' pn xe tk pa => hb0 (ok.tr (ok.tc ht) pn xe tk pa) hb)
    (.cons (by rw [ok.nm]; exact slot_of h4) (by show X.env.scope.names.lookup n = _; rw [ok.sc]; exact loc_of h5) ⟨gl_of ok h1, (nm_of h2).1, .inl (glob y h3)⟩ (suit (z := y) hs0 hsu)
      (.cons (by rw [ok.nm]; exact slot_of k4) (by show X.env.scope.names.lookup n2 = _; rw [ok.sc]; exact loc_of k5) ⟨gl_of ok k1, (nm_of k2).1, .inl (glob y2 k3)⟩ (suit (z := y2) hs02 hsu2) .nil))) ?_
  rintro Z σ H ⟨S, L, env, g, er, q⟩
  simp only [exS] at q
  refine ⟨S, L, env, g, er, ?_⟩
  cases hr : exB G b env S with
  | nx e2 S2 => rw [hr] at q; exact q
  | ret d S2 => rw [hr] at q; exact q
  | brk e2 S2 => rw [hr] at q; exact q
  | bad => rw [hr] at q; exact q
  | exc c e2 S2 =>
    rw [hr] at q
    simp only at q
    intro σ' cls dd L' H' st g' er' x
    cases hs : G.sub c.cls y with
    | none => rw [hs] at q; exact q.elim
    | some bb =>
      rw [hs] at q
      refine ⟨bb, ?_, fun hbt a' ha' => ?_, fun hbf => ?_⟩
      · rw [x.1]; exact ok.sb _ _ _ hs
      · subst hbt
        simp only at q
        split at q
        · rename_i hi
          exact suite_key hnop hi st g' er' x q a'
        · exact q.elim
      · subst hbf
        simp only at q
        cases hs2 : G.sub c.cls y2 with
        | none => rw [hs2] at q; exact q.elim
        | some b2 =>
          rw [hs2] at q
          refine ⟨b2, ?_, fun hbt a' ha' => ?_, fun hbf => ?_⟩
          · rw [x.1]; exact ok.sb _ _ _ hs2
          · subst hbt
            simp only at q
            split at q
            · rename_i hi
              exact suite_key hnop hi st g' er' x q a'
            · exact q.elim
          · subst hbf
            exact q σ' cls dd L' H' st g' er' x
mutual
theorem sS : ∀ (x : Lt.St) {X : Cx} {G : Cxp} {W : WX} {C : MC} (ok : Ok X CA G W C) {s : Stmt}, mS x C s = true → PS X s (tS X.K CA G W x)
  | .asg t x, X, G, W, C, ok, s, h => by
    obtain ⟨tg, v, p, rfl, h⟩ := qAsg_inv C t _ h
    obtain ⟨h, h3⟩ := ba h
    obtain ⟨h1, h2⟩ := ba h
    exact p_asg ok h1 h2 h3
  | .par i j a b, X, G, W, C, ok, s, h => by
    obtain ⟨x, px, y, py, kt, pt, l, r, k2, pt2, p, rfl, h⟩ := qPar_inv C i j _ _ h
    obtain ⟨h, h8⟩ := ba h
    obtain ⟨h, h7⟩ := ba h
    obtain ⟨h, h6⟩ := ba h
    obtain ⟨h, h5⟩ := ba h
    obtain ⟨h, h4⟩ := ba h
    obtain ⟨h, h3⟩ := ba h
    obtain ⟨h, h2⟩ := ba h
    obtain ⟨hcd, h1⟩ := ba h
    exact p_par ok hcd h1 h2 (of_decide_eq_true h3) h4 h5 h6 h7 h8
  | .sub o i x, X, G, W, C, ok, s, h => by
    obtain ⟨l, k, p2, v, p, rfl, h⟩ := qSub_inv _ _ _ h
    obtain ⟨h, h4⟩ := ba h
    obtain ⟨h, h3⟩ := ba h
    obtain ⟨h1, h2⟩ := ba h
    exact p_sub ok h1 h2 h3 h4
  | .exp x, X, G, W, C, ok, s, h => by
    obtain ⟨v, p, rfl, h⟩ := qExp_inv _ h
    obtain ⟨h1, h2⟩ := ba h
    refine PS.by_ (ps_expr (sE x ok h2).1 (sw_of h1 h2 none p.line X.env)) ?_
    rintro Z σ H ⟨S, L, env, g, er, q⟩
    simp only [exS] at q
    exact ⟨S, L, env, g, er, (AftS.toS er g q).mono fun d S1 L1 H1 ⟨st, g1, q1⟩ v r => q1 σ L1 H1 Step.refl g1 (er.step g st)⟩
  | .ite c a b, X, G, W, C, ok, s, h => by
    obtain ⟨t, l, r, p, rfl, h⟩ := qIte_inv _ _ _ h
    obtain ⟨h, h3⟩ := ba h
    obtain ⟨h1, h2⟩ := ba h
    obtain ⟨h0, h1⟩ := ba h1
    refine PS.by_ (ps_if ((sE c ok h1).2 h0).1 (sB a ok h2) (sB b ok h3)) ?_
    rintro Z σ H ⟨S, L, env, g, er, q⟩
    simp only [exS] at q
    refine ⟨S, L, env, g, er, (AftS.toS er g q).mono fun d S1 L1 H1 ⟨st, g1, q1⟩ => ?_⟩
    split at q1
    · exact ⟨true, rfl, iteT ⟨S1, L1, env, g1, er.step g st, q1⟩⟩
    · exact ⟨false, rfl, iteF ⟨S1, L1, env, g1, er.step g st, q1⟩⟩
    · exact q1.elim
  | .forS t it b, X, G, W, C, ok, s, h => by
    obtain ⟨tg, i, l, p, rfl, h⟩ := qFor_inv C t _ _ _ h
    obtain ⟨h, h5⟩ := ba h
    obtain ⟨h, h4⟩ := ba h
    obtain ⟨h, h3⟩ := ba h
    obtain ⟨h, h2⟩ := ba h
    obtain ⟨hcd, h1⟩ := ba h
    exact p_for ok hcd h1 h3 (sI it ok (nd_of h2) h4) (sB b ok h5)
  | .whl c b, X, G, W, C, ok, s, h => by
    obtain ⟨t, l, p, rfl, h⟩ := qWhl_inv _ _ _ h
    obtain ⟨h, h2⟩ := ba h
    obtain ⟨hcd, h1⟩ := ba h
    obtain ⟨h0, h1⟩ := ba h1
    exact p_whl ok hcd ((sE c ok h1).2 h0).1 (sB b ok h2)
  | .ret x, X, G, W, C, ok, s, h => by
    obtain ⟨v, p, rfl, h⟩ := qRet_inv _ h
    refine PS.by_ (ps_ret (sE x ok h).1) ?_
    rintro Z σ H ⟨S, L, env, g, er, q⟩
    simp only [exS] at q
    exact ⟨S, L, env, g, er, (AftS.toS er g q).mono fun d S1 L1 H1 ⟨st, g1, q1⟩ v r => q1 v L1 H1 Step.refl g1 r⟩
  | .retN, X, G, W, C, ok, s, h => by
    obtain ⟨p, rfl, _⟩ := qRetN_inv h
    refine PS.by_ ps_retN ?_
    rintro Z σ H ⟨S, L, env, g, er, q⟩
    simp only [exS] at q
    exact q .non L H Step.refl g (by simp [RelD])
  | .brk, X, G, W, C, ok, s, h => by
    obtain ⟨p, rfl, _⟩ := qBrk_inv h
    refine PS.by_ ps_break ?_
    rintro Z σ H ⟨S, L, env, g, er, q⟩
    simp only [exS] at q
    exact q σ L H Step.refl g er
  | .pass, X, G, W, C, ok, s, h => by
    obtain ⟨p, rfl, _⟩ := qPass_inv h
    refine PS.by_ ps_pass ?_
    rintro Z σ H ⟨S, L, env, g, er, q⟩
    simp only [exS] at q
    exact q σ L H Step.refl g er
  | .stf o y f x, X, G, W, C, ok, s, h => by
    obtain ⟨l, m, p2, v, p, rfl, h⟩ := qStf_inv C y f _ _ h
    obtain ⟨h, h4⟩ := ba h
    obtain ⟨h, h3⟩ := ba h
    obtain ⟨h1, h2⟩ := ba h
    have h1 := of_decide_eq_true h1
    subst h1
    exact p_stf ok h2 h3 h4
  | .any, X, G, W, C, ok, s, h => by
    refine ⟨fun pins s σ H D I ⟨S, L, env, g, er, q⟩ => ?_⟩
    simp only [exS] at q
    exact q.elim
  | .dst o i x, X, G, W, C, ok, s, h => by
    obtain ⟨l, k, p2, v, p, rfl, h⟩ := qSub_inv _ _ _ h
    obtain ⟨h, h4⟩ := ba h
    obtain ⟨h, h3⟩ := ba h
    obtain ⟨h1, h2⟩ := ba h
    exact p_dst ok h1 h2 h3 h4
  | .rai y, X, G, W, C, ok, s, h => by
    obtain ⟨x, q, m, j, p2, p3, p, rfl, h⟩ := qRai_inv C y h
    obtain ⟨h, h4⟩ := ba h
    obtain ⟨h, h3⟩ := ba h
    obtain ⟨h1, h2⟩ := ba h
    have h1 := of_decide_eq_true h1
    subst h1
    exact p_rai ok h2 h3 h4
  | .tryC b y a, X, G, W, C, ok, s, h => by
    obtain ⟨ss, x, np, v, rp, p2, p, rfl, h⟩ := qTry_inv C y _ _ h
    obtain ⟨h, h7⟩ := ba h
    obtain ⟨h, h6⟩ := ba h
    obtain ⟨h, h5⟩ := ba h
    obtain ⟨h, h4⟩ := ba h
    obtain ⟨h, h3⟩ := ba h
    obtain ⟨h1, h2⟩ := ba h
    have h2 := of_decide_eq_true h2
    subst h2
    exact p_try ok (fun {_ _} ok {_} h => sB b ok h) h1 h3 h4 h5 h6 h7
  | .raiA y a, X, G, W, C, ok, s, h => by
    obtain ⟨x, q, l, p3, p, rfl, h⟩ := qRaA_inv C y _ h
    obtain ⟨h, h6⟩ := ba h
    obtain ⟨h, h5⟩ := ba h
    obtain ⟨h, h4⟩ := ba h
    obtain ⟨h, h3⟩ := ba h
    obtain ⟨h1, h2⟩ := ba h
    have h1 := of_decide_eq_true h1
    subst h1
    exact p_raiA ok h2 h3 h4 h5 h6
  | .tryA b y i su, X, G, W, C, ok, s, h => by
    obtain ⟨ss, x, np, n, b0, sus, p2, p, rfl, h⟩ := qTrA_inv C y i _ _ h
    obtain ⟨h, h9⟩ := ba h
    obtain ⟨h, h8⟩ := ba h
    obtain ⟨h, h7⟩ := ba h
    obtain ⟨h, h6⟩ := ba h
    obtain ⟨h, h5⟩ := ba h
    obtain ⟨h, h4⟩ := ba h
    obtain ⟨h, h3⟩ := ba h
    obtain ⟨h1, h2⟩ := ba h
    have h2 := of_decide_eq_true h2
    subst h2
    exact p_tryA ok (fun {_ _} ok {_} h => sB b ok h) (fun {_ _ _ _} ok {_} h => sB su ok h) h1 h3 h4 h5 h6 h7 h8 h9
  | .par3 i j k a b c, X, G, W, C, ok, s, h => by
    obtain ⟨x, px, y, py, z, pz, kt, pt, l, r, m, k2, pt2, p, rfl, h⟩ := qPa3_inv C i j k _ _ _ h
    obtain ⟨h, h14⟩ := ba h
    obtain ⟨h, h13⟩ := ba h
    obtain ⟨h, h12⟩ := ba h
    obtain ⟨h, h11⟩ := ba h
    obtain ⟨h, h10⟩ := ba h
    obtain ⟨h, h9⟩ := ba h
    obtain ⟨h, h8⟩ := ba h
    obtain ⟨h, h7⟩ := ba h
    obtain ⟨h, h6⟩ := ba h
    obtain ⟨h, h5⟩ := ba h
    obtain ⟨h, h4⟩ := ba h
    obtain ⟨h, h3⟩ := ba h
    obtain ⟨hcd, h2⟩ := ba h
    exact p_par3 ok hcd h2 h3 h4 (of_decide_eq_true h5) (of_decide_eq_true h6) (of_decide_eq_true h7) h8 h9 h10 h11 h12 h13 h14
  | .try2 b y i su y2 i2 su2, X, G, W, C, ok, s, h => by
    obtain ⟨ss, x, np, n, b0, sus, p2, x2, np2, n2, b02, sus2, p3, p, rfl, h⟩ := qTr2_inv C y i y2 i2 _ _ _ h
    obtain ⟨h, h16⟩ := ba h
    obtain ⟨h, h15⟩ := ba h
    obtain ⟨h, h14⟩ := ba h
    obtain ⟨h, h13⟩ := ba h
    obtain ⟨h, h12⟩ := ba h
    obtain ⟨h, h11⟩ := ba h
    obtain ⟨h, h10⟩ := ba h
    obtain ⟨h, h9⟩ := ba h
    obtain ⟨h, h8⟩ := ba h
    obtain ⟨h, h7⟩ := ba h
    obtain ⟨h, h6⟩ := ba h
    obtain ⟨h, h5⟩ := ba h
    obtain ⟨h, h4⟩ := ba h
    obtain ⟨h, h3⟩ := ba h
    obtain ⟨h1, h2⟩ := ba h
    have h2 := of_decide_eq_true h2
    have h8 := of_decide_eq_true h8
    subst h2 h8
    exact p_try2 ok (fun {_ _} ok {_} h => sB b ok h) (fun {_ _ _ _} ok {_} h => sB su ok h) (fun {_ _ _ _} ok {_} h => sB su2 ok h) h1 h3 h4 h5 h6 h7 h9 h10 h11 h12 h13 h14 h15 h16
theorem sB : ∀ (xs : List Lt.St) {X : Cx} {G : Cxp} {W : WX} {C : MC} (ok : Ok X CA G W C) {ss : List Stmt}, mB xs C ss = true → PSs X ss (tB X.K CA G W xs)
  | [], X, G, W, C, ok, ss, h => by
    rw [mB_nil h]
    refine PSs.by_ pss_nil ?_
    rintro Z σ H ⟨S, L, env, g, er, q⟩
    simp only [exB] at q
    exact q σ L H Step.refl g er
  | x :: xs, X, G, W, C, ok, ss, h => by
    obtain ⟨s, r, rfl, h1, h2⟩ := mB_cons h
    refine PSs.by_ (pss_cons (sS x ok h1) (sB xs ok h2)) ?_
    rintro Z σ H ⟨S, L, env, g, er, q⟩
    simp only [exB] at q
    refine ⟨S, L, env, g, er, ?_⟩
    cases hr : exS G x env S with
    | nx e2 S2 =>
      rw [hr] at q
      exact fun σ' L2 H2 s2 g2 er3 => ⟨S2, L2, e2, g2, er3, AftS.from s2 q⟩
    | brk e2 S2 => rw [hr] at q; exact q
    | ret d2 S2 => rw [hr] at q; exact q
    | exc c e2 S2 => rw [hr] at q; exact q
    | bad => rw [hr] at q; exact q
end
end
end Lt
set_option maxHeartbeats 1000000
namespace Lt
open PySem PySem.Spec PyProof.Rows L2
def plainA (a : Arguments) (ps : List Str) : Bool := a.posonlyargs.isEmpty && a.vararg.isNone && a.kwonlyargs.isEmpty && a.kwarg.isNone && decide (a.args.map (·.arg) = ps) && decide (ps.length ≤ 9)
def fnKind (k : ScopeKind) : Bool := match k with
  | .function => true
  | _ => false
def parB (sc : Scope) (x : Str) : Bool := match sc.names.lookup x with
  | some .local => true
  | some .cell => true
  | _ => false
def nofB (q : Str × NameKind) : Bool := match q.2 with
  | .free => false
  | _ => true
def ndB : List Str → Bool
  | [] => true
  | x :: r => !(r.any fun y => decide (y = x)) && ndB r
def scB (N ps : List Str) (sc : Scope) : Bool := fnKind sc.kind && !sc.isCoroutine && !sc.isGenerator && ndB N && decide (N.take ps.length = ps) && ps.all (parB sc) && sc.names.all nofB
def xsOf (P : Prog) (x : Str) : Bool := P.subs.any fun p => decide (p.1 = x)
def hasS (l : List Str) (x : Str) : Bool := l.any fun y => decide (y = x)
def xoOf (P : Prog) (x : Str) : Bool := P.sub2.any fun p => decide (p.1 = x)
def flOf (P : Prog) (y f : Str) : Bool := match P.kl.lookup y with
  | some (fs, _) => hasS fs f
  | none => false
/-- so many written arguments are enough -/
def okN (m : Def) (n : Nat) : Bool := decide (n ≤ m.ps.length) && decide (m.ps.length ≤ n + m.dfl.length)
def arityN (P : Prog) (key : Str) (n : Nat) : Bool := match P.defs.lookup key with
  | some m => okN m n
  | none => false
def arity (P : Prog) (key : Str) (n : Nat) : Bool := match P.defs.lookup key with
  | some m => decide (m.ps.length = n)
  | none => false
def keyOf (P : Prog) (y m : Str) : Option Str := match P.kl.lookup y with
  | some (_, ms) => ms.lookup m
  | none => none
def msOf (P : Prog) (y m key : Str) (n : Nat) : Bool := decide (keyOf P y m = some key) && arityN P key (n + 1)
def mksOf (P : Prog) (y key : Str) (n : Nat) : Bool := decide (keyOf P y "__init__" = some key) && arity P key (n + 1)
/-- where a def stands -/
def atIn (key y : Str) : List (Str × Str) → Option (Str × Option Str)
  | [] => none
  | q :: r => if q.2 = key then some (y, some q.1) else atIn key y r
def atKl (key : Str) : List (Str × List Str × List (Str × Str)) → Option (Str × Option Str)
  | [] => none
  | q :: r => match atIn key q.1 q.2.2 with
    | some a => some a
    | none => atKl key r
def atOf (P : Prog) (f : Str) : Str × Option Str := match atKl f P.kl with
  | some a => a
  | none => (f, none)
def eqAt (a b : Str × Option Str) : Bool := decide (a.1 = b.1) && (match a.2, b.2 with
  | none, none => true
  | some x, some y => decide (x = y)
  | _, _ => false)
def atB (a : Str × Option Str) (d : He.DefD) : Bool := eqAt d.at_ a
def fsOf (P : Prog) (f : Str) (n : Nat) : Bool := eqAt (atOf P f) (f, none) && match P.defs.lookup f with
  | some m => okN m n
  | none => false
def dvB : D → He.Dv → Bool
  | .int i, .int j => decide (i = j)
  | .bl b, .bl c => b == c
  | .non, .non => true
  | .str s, .str z => decide (s = z)
  | _, _ => false
def dflM (m : Def) (d : He.DefD) : Bool := match m.dfl, d.dfl with
  | [], [] => true
  | [x], [y] => dvB x y && decide (1 ≤ m.ps.length)
  | _, _ => false
def defB (P : Prog) (m : Def) (d : He.DefD) : Bool := dflM m d && d.kwd.isEmpty && plainA d.params m.ps && scB m.ns m.ps d.scope && mB m.body ⟨m.ns, d.scope, true, fsOf P, xsOf P, flOf P, msOf P, mksOf P, xoOf P, none⟩ d.body
def tabB (P : Prog) : List (Str × Def) → List He.DefD → Bool
  | [], _ => true
  | _ :: _, [] => false
  | p :: ps, d :: ds => if atB (atOf P p.1) d = true then defB P p.2 d && tabB P ps ds else tabB P (p :: ps) ds
def hasGlo (fa : List He.Fa) (x : Str) : Bool := fa.any fun a => match a with
  | .glo y => decide (y = x)
  | _ => false
def hasFree (fa : List He.Fa) (x : Str) : Bool := fa.any fun a => match a with
  | .free y => decide (y = x)
  | _ => false
def hasInt (fa : List He.Fa) (x : Str) (i : Int) : Bool := fa.any fun a => match a with
  | .int y j => decide (y = x) && decide (j = i)
  | _ => false
def hasStr (fa : List He.Fa) (x z : Str) : Bool := fa.any fun a => match a with
  | .str y w => decide (y = x) && decide (w = z)
  | _ => false
def gloB1 (fa : List He.Fa) (q : Str × D) : Bool := match q.2 with
  | .int i => hasInt fa q.1 i
  | .str z => hasStr fa q.1 z
  | .frt _ => hasGlo fa q.1
  | _ => false
def relStr : List D → List Value → Bool
  | [], [] => true
  | .str s :: r, .str z _ :: q => decide (s = z) && relStr r q
  | _, _ => false
def tupB (K : PySem.W.Frag) (a : Addr) (xs : List D) : Bool := match K.lookup a with
  | some ⟨.type c, _, .seq its _, _⟩ => decide (c = "tuple") && (decide (its.size ≤ 1000) && relStr xs its.toList)
  | _ => false
def glP (P : Prog) (K : PySem.W.Frag) : Bool := P.glob.all fun q => match q.2 with
  | .frt xs => tupB K (He.ga K q.1) xs
  | _ => true
def excCB (K : PySem.W.Frag) (D : Addr) : Bool := decide (PySem.W.findIn K (.ref D) "__getattribute__" = some (some (.builtin "BaseException.__getattribute__"))) && (decide (PySem.W.findIn K (.ref D) "__getattr__" = some none) && (decide (PySem.W.subIn K (.ref D) (.type "BaseException") = some true) && (PySem.W.hasDictIn K D && (decide (PySem.W.findIn K (.ref D) "__class__" = some (some (.builtin "object.__class__"))) && (decide (PySem.W.specialIn K (.builtin "object.__class__") "__get__" = some (some (.builtin "getset_descriptor.__get__"))) && (decide (PySem.W.takesIn K (.builtin "object.__class__") = some true) && decide (PySem.W.mroIn K D (.type "object") = some true)))))))
theorem excCB_ok {K : PySem.W.Frag} {D : Addr} (h : excCB K D = true) : ExcC K D := by
  obtain ⟨h1, h⟩ := ba h
  obtain ⟨h2, h⟩ := ba h
  obtain ⟨h3, h⟩ := ba h
  obtain ⟨h4, h⟩ := ba h
  obtain ⟨h5, h⟩ := ba h
  obtain ⟨h6, h⟩ := ba h
  obtain ⟨h7, h8⟩ := ba h
  exact ⟨of_decide_eq_true h1, of_decide_eq_true h2, of_decide_eq_true h3, h4, of_decide_eq_true h5, of_decide_eq_true h6, of_decide_eq_true h7, of_decide_eq_true h8⟩
def clsB (K : PySem.W.Frag) (D : Addr) (q : Str × Bool) : Bool := if q.1 = ("ValueError" : Str) then decide (PySem.W.kitOne K (.ref D) (.type "ValueError") = some q.2) else decide (PySem.W.kitOne K (.ref D) (.ref (He.ga K q.1)) = some q.2)
def isxB (K : PySem.W.Frag) (p : Str × List (Str × Bool)) : Bool := excCB K (He.ga K p.1) && (xfB K (He.ga K p.1) && (decide (PySem.W.findIn K (.ref (He.ga K p.1)) "at" = some none) && p.2.all (clsB K (He.ga K p.1))))
def oexB (K : PySem.W.Frag) (C : Addr) : Bool := match K.lookup C with
  | some ⟨.type "type", _, .cls cd, sl⟩ => (match cd.mro, sl.toList with
    | .ref C' :: bm, [_, _, _, _, some (.builtin n), _] => C' == C && n == "ValueError.__new__" && !cd.hasDel && cd.hasDict && PySem.HandSPX.refsVE bm
    | _, _ => false)
  | _ => false
theorem oexB_ok {K : PySem.W.Frag} {C : Addr} (q : oexB K C = true) : ∃ nm qn N bs bm sn sub ab col dd k0 k1 k2 k3 k5, K.lookup C = some (excClassObj nm qn C N bs bm true sn sub ab col dd k0 k1 k2 k3 k5 "ValueError.__new__") ∧ PySem.HandSPX.refsVE bm = true := by
  unfold oexB at q
  split at q
  · rename_i dd cd sl ho
    split at q
    · rename_i C' bm k0 k1 k2 k3 n k5 hm hs
      simp only [Bool.and_eq_true, beq_iff_eq, Bool.not_eq_true'] at q
      obtain ⟨⟨⟨⟨rfl, rfl⟩, hdel⟩, hdd⟩, ht⟩ := q
      obtain ⟨nm, bs, mro, ns, qn, hd, sn, sub, ab, col, del⟩ := cd
      dsimp only at hm hdel hdd
      subst hm hdel hdd
      have hsl : sl = #[k0, k1, k2, k3, some (.builtin "ValueError.__new__"), k5] := by
        obtain ⟨l⟩ := sl
        simp only at hs
        rw [hs]
      subst hsl
      exact ⟨nm, qn, ns, bs, bm, sn, sub, ab, col, dd, k0, k1, k2, k3, k5, ho, ht⟩
    · cases q
  · cases q
def sub2B (K : PySem.W.Frag) (p : Str × List (Str × Bool)) : Bool := oexB K (He.ga K p.1) && (decide (PySem.W.findIn K (.ref (He.ga K p.1)) "__setattr__" = some (some (.builtin "object.__setattr__"))) && (decide (PySem.W.subIn K (.ref (He.ga K p.1)) (.type "BaseException") = some true) && (decide (PySem.W.typeIn K (.ref (He.ga K p.1)) = some (.type "type")) && (PySem.W.keepIn K (.ref (He.ga K p.1)) && (decide (PySem.W.findIn K (.ref (He.ga K p.1)) "__init__" = some (some (.ref (He.fAd K (p.1, some "__init__"))))) && (decide (PySem.W.typeIn K (.ref (He.fAd K (p.1, some "__init__"))) = some (.type "function")) && (decide (PySem.W.findIn K (.ref (He.ga K p.1)) "at" = some none) && p.2.all fun q => decide (PySem.W.exmOne K (.ref (He.ga K p.1)) (.ref (He.ga K q.1)) = some q.2))))))))
def exP (P : Prog) (K : PySem.W.Frag) : Bool := glP P K && (P.isx.all (isxB K) && P.sub2.all (sub2B K))
def visS (sc : Scope) (x : Str) : Bool := match sc.names.lookup x with
  | some .local => true
  | some .cell => true
  | some .free => true
  | _ => false
/-- __init__ of an error with a field -/
def initS (sc : Scope) (a b : Str) (l : List Stmt) : Bool := match l with
  | [.Assign [.Attribute (.Name x _) f _] (.Name y _) _] => decide (x = a) && decide (y = b) && decide (f = ("at" : Str)) && visS sc a && visS sc b && nmOk a && nmOk b
  | _ => false
def initB (d : He.DefD) : Bool := d.dfl.isEmpty && d.kwd.isEmpty && (match d.params.args.map (·.arg) with
  | [a, b] => plainA d.params [a, b] && scB [a, b] [a, b] d.scope && initS d.scope a b d.body
  | _ => false)
abbrev AlL : Type := He.AlD × Bool
def obsL (n : Nat) (fa : List He.Fa) (fn : List He.DefD) (ex : PySem.W.Frag → Bool) (g : Addr → Option Obj) : AlL := (He.obsD fa fn (He.frG g (He.asD g n)), ex (He.frG g (He.asD g n)))
def hookL (n : Nat) (fa : List He.Fa) (fn : List He.DefD) (ex : PySem.W.Frag → Bool) : PySem.W.Hook where
  α := AlL
  obs := fun s => obsL n fa fn ex s.heap.get?
  val := fun _ => (He.valD fn, true)
  says := fun _ h => ∃ K : PySem.W.Frag, K.In h ∧ He.SaysD fa fn K ∧ ex K = true
  of := fun _ _ e => ⟨_, He.frG_in, congrArg (fun z : AlL => z.1) e, congrArg (fun z : AlL => z.2) e⟩
  keeps := fun _ _ _ ⟨K, hK, c, d⟩ k => ⟨K, PySem.W.Frag.In.keeps hK k, c, d⟩
theorem obsL_eq {n : Nat} {fa : List He.Fa} {fn : List He.DefD} {ex : PySem.W.Frag → Bool} {g : Addr → Option Obj} {s : Shared} (h : ∀ a, g a = s.heap.get? a) : obsL n fa fn ex g = (hookL n fa fn ex).obs s := by
  have e : g = s.heap.get? := funext h
  rw [e] <;> rfl
theorem relStr_ok {K : PySem.W.Frag} : ∀ {xs : List D} {us : List Value}, relStr xs us = true → ∃ vs, Vals vs us ∧ ∀ L H, RelDs K L H xs vs
  | [], [], _ => ⟨[], .nil, fun _ _ => RelDs.nil⟩
  | [], _ :: _, h => by cases h
  | x :: r, [], h => by cases x <;> cases h
  | x :: r, u :: q, h => by
    unfold relStr at h
    split at h
    · rename_i e _; cases e
    · rename_i s r' z t q' e1 e2
      cases e1; cases e2
      obtain ⟨h1, h2⟩ := ba h
      have := of_decide_eq_true h1
      subst this
      obtain ⟨vs, v1, v2⟩ := relStr_ok (K := K) h2
      exact ⟨.str s :: vs, .cons ⟨t, rfl⟩ v1, fun L H => RelDs.cons (by simp [RelD]) (v2 L H)⟩
    · cases h
theorem tupB_ok {K : PySem.W.Frag} {a : Addr} {xs : List D} (h : tupB K a xs = true) (L : List Addr) (H : Hp) : RelD K L H (.frt xs) (.ref a) := by
  unfold tupB at h
  split at h
  · rename_i c od its n osl e
    obtain ⟨h1, h2⟩ := ba h
    obtain ⟨h2, h3⟩ := ba h2
    have := of_decide_eq_true h1
    subst this
    obtain ⟨vs, v1, v2⟩ := relStr_ok (K := K) h3
    simp only [RelD]
    exact ⟨a, vs, rfl, ⟨_, its, n, e, rfl, rfl, Nat.le_trans (of_decide_eq_true h2) (by rw [sizeLine_eq]; decide), v1⟩, v2 L H⟩
  · cases h
def hasExc (fa : List He.Fa) (x : Str) : Bool := fa.any fun a => match a with
  | .exc y => decide (y = x)
  | _ => false
def hasExm (fa : List He.Fa) (x y : Str) (b : Bool) : Bool := fa.any fun a => match a with
  | .exm z w c => decide (z = x) && decide (w = y) && (c == b)
  | _ => false
def subB (fa : List He.Fa) (p : Str × List (Str × Bool)) : Bool := hasGlo fa p.1 && hasExc fa p.1 && p.2.all fun q => hasExm fa p.1 q.1 q.2
def hasCls (fa : List He.Fa) (x : Str) : Bool := fa.any fun a => match a with
  | .cls y => decide (y = x)
  | _ => false
def hasMkr (fa : List He.Fa) (x : Str) : Bool := fa.any fun a => match a with
  | .mkr y => decide (y = x)
  | _ => false
def hasNoat (fa : List He.Fa) (x f : Str) : Bool := fa.any fun a => match a with
  | .noat y g => decide (y = x) && decide (g = f)
  | _ => false
def hasMeth (fa : List He.Fa) (x f : Str) : Bool := fa.any fun a => match a with
  | .meth y g => decide (y = x) && decide (g = f)
  | _ => false
def klB (P : Prog) (fa : List He.Fa) (q : Str × List Str × List (Str × Str)) : Bool := hasGlo fa q.1 && hasCls fa q.1 && hasMkr fa q.1 && q.2.1.all (hasNoat fa q.1) && q.2.2.all fun r => hasMeth fa q.1 r.1 && eqAt (atOf P r.2) (q.1, some r.1)
def isxF (fa : List He.Fa) (p : Str × List (Str × Bool)) : Bool := p.2.all fun q => if q.1 = ("ValueError" : Str) then hasFree fa q.1 else hasGlo fa q.1
def sub2F (fa : List He.Fa) (fn : List He.DefD) (p : Str × List (Str × Bool)) : Bool := hasGlo fa p.1 && fn.any fun d => eqAt d.at_ (p.1, some "__init__") && initB d
def allB (P : Prog) (fa : List He.Fa) (fn : List He.DefD) : Bool := (P.isx.all (isxF fa) && P.sub2.all (sub2F fa fn)) && (tabB P P.defs fn && P.defs.all (fun p => hasGlo fa p.1 || (atOf P p.1).2.isSome) && P.kl.all (klB P fa) && bltN.all (hasFree fa) && P.glob.all (gloB1 fa) && P.subs.all (subB fa))
section
variable {P : Prog} {fa : List He.Fa} {fn : List He.DefD} {K : PySem.W.Frag} {h : Heap} {mg : Str → Option Value}
theorem lookup_mem {α : Type} {l : List (Str × α)} {x : Str} {a : α} (e : l.lookup x = some a) : (x, a) ∈ l := PySem.mem_of_lookup e
theorem mem_facts (c : He.SaysD fa fn K) {f : He.Fa} (hf : f ∈ fa) : f.ok K = true := by
  obtain ⟨i, hi, e⟩ := List.mem_iff_getElem.mp hf
  exact c.fact i (f := f) (by rw [List.getElem?_eq_getElem hi, e])
theorem mem_defs (c : He.SaysD fa fn K) {d : He.DefD} (hd : d ∈ fn) : ∃ fd, FunD K d.name d.qual d.params d.body d.scope (d.dvs K) (d.kws K) (He.fAd K d.at_) fd := by
  obtain ⟨i, hi, e⟩ := List.mem_iff_getElem.mp hd
  exact c.def_ i (d := d) (by rw [List.getElem?_eq_getElem hi, e])
theorem glo_has (X : K.In h) (G : h.Ns mainGlobals mg) (c : He.SaysD fa fn K) {x : Str} (b : hasGlo fa x = true) : mg x = some (.ref (He.ga K x)) := by
  obtain ⟨f, hf, e⟩ := List.any_eq_true.mp b
  split at e
  · have := of_decide_eq_true e
    subst this
    exact He.glo_ok X G (mem_facts c hf)
  · cases e
theorem free_has (X : K.In h) (G : h.Ns mainGlobals mg) (c : He.SaysD fa fn K) {x : Str} (b : hasFree fa x = true) : mg x = none := by
  obtain ⟨f, hf, e⟩ := List.any_eq_true.mp b
  split at e
  · have := of_decide_eq_true e
    subst this
    exact He.free_ok X G (mem_facts c hf)
  · cases e
theorem gloB1_ok (X : K.In h) (G : h.Ns mainGlobals mg) (c : He.SaysD fa fn K) {q : Str × D} (b : gloB1 fa q = true) (b2 : ∀ xs, q.2 = .frt xs → tupB K (He.ga K q.1) xs = true) : ∃ v u, mg q.1 = some u ∧ RelV v u ∧ ∀ L H, RelD K L H q.2 v := by
  unfold gloB1 at b
  split at b
  · rename_i i e
    obtain ⟨f, hf, e1⟩ := List.any_eq_true.mp b
    split at e1
    · obtain ⟨e2, e3⟩ := ba e1
      have := of_decide_eq_true e2
      have := of_decide_eq_true e3
      subst_vars
      obtain ⟨t, ht⟩ := He.int_ok X G (mem_facts c hf)
      exact ⟨.int _, _, ht, ⟨t, rfl⟩, fun L H => by rw [e]; simp [RelD]⟩
    · cases e1
  · rename_i z e
    obtain ⟨f, hf, e1⟩ := List.any_eq_true.mp b
    split at e1
    · obtain ⟨e2, e3⟩ := ba e1
      have := of_decide_eq_true e2
      have := of_decide_eq_true e3
      subst_vars
      obtain ⟨t, ht⟩ := He.str_ok X G (mem_facts c hf)
      exact ⟨.str _, _, ht, ⟨t, rfl⟩, fun L H => by rw [e]; simp [RelD]⟩
    · cases e1
  · rename_i xs e
    exact ⟨.ref (He.ga K q.1), _, glo_has X G c b, rfl, fun L H => by rw [e]; exact tupB_ok (b2 xs e) L H⟩
  · cases b
theorem exc_has (c : He.SaysD fa fn K) {x : Str} (b : hasExc fa x = true) : (He.Fa.exc x).ok K = true := by
  obtain ⟨f, hf, e⟩ := List.any_eq_true.mp b
  split at e
  · have := of_decide_eq_true e
    subst this
    exact mem_facts c hf
  · cases e
theorem exm_has (c : He.SaysD fa fn K) {x y : Str} {z : Bool} (b : hasExm fa x y z = true) : PySem.W.exmOne K (.ref (He.ga K x)) (.ref (He.ga K y)) = some z := by
  obtain ⟨f, hf, e⟩ := List.any_eq_true.mp b
  split at e
  · obtain ⟨e, e3⟩ := ba e
    obtain ⟨e1, e2⟩ := ba e
    have := of_decide_eq_true e1
    have := of_decide_eq_true e2
    have := eq_of_beq e3
    subst_vars
    exact of_decide_eq_true (mem_facts c hf)
  · cases e
theorem nd_ok : ∀ {N : List Str}, ndB N = true → N.Nodup
  | [], _ => List.nodup_nil
  | x :: r, e => by
    unfold ndB at e
    obtain ⟨e1, e2⟩ := ba e
    refine List.nodup_cons.mpr ⟨fun hm => ?_, nd_ok e2⟩
    have : (r.any fun y => decide (y = x)) = true := List.any_eq_true.mpr ⟨x, hm, by simp⟩
    rw [this] at e1
    cases e1
theorem sc_ok {N ps : List Str} {sc : Scope} (e : scB N ps sc = true) : FnScope N ps sc := by
  unfold scB at e
  obtain ⟨e, e7⟩ := ba e
  obtain ⟨e, e6⟩ := ba e
  obtain ⟨e, e5⟩ := ba e
  obtain ⟨e, e4⟩ := ba e
  obtain ⟨e, e3⟩ := ba e
  obtain ⟨e1, e2⟩ := ba e
  refine ⟨?_, by simpa using e2, by simpa using e3, nd_ok e4, of_decide_eq_true e5, fun x hx => ?_, fun y hy z => ?_⟩
  · unfold fnKind at e1
    split at e1
    · assumption
    · cases e1
  · have := List.all_eq_true.mp e6 x hx
    unfold parB at this
    split at this
    · exact .inl (by assumption)
    · exact .inr (by assumption)
    · cases this
  · have := List.all_eq_true.mp e7 y hy
    unfold nofB at this
    rw [z] at this
    cases this
theorem eqAt_ok {a b : Str × Option Str} (h : eqAt a b = true) : a = b := by
  unfold eqAt at h
  obtain ⟨h1, h2⟩ := ba h
  obtain ⟨a1, a2⟩ := a
  obtain ⟨b1, b2⟩ := b
  have h1 := of_decide_eq_true h1
  simp only at h1 h2
  subst h1
  cases a2 <;> cases b2 <;> first | rfl | (cases h2; done) | (rw [of_decide_eq_true h2])
theorem cls_has (c : He.SaysD fa fn K) {x : Str} (b : hasCls fa x = true) : Cls K (He.ga K x) := by
  obtain ⟨f, hf, e⟩ := List.any_eq_true.mp b
  split at e
  · have := of_decide_eq_true e
    subst this
    exact He.cls_ok (mem_facts c hf)
  · cases e
theorem mkr_has (c : He.SaysD fa fn K) {x : Str} (b : hasMkr fa x = true) : Mk K (He.ga K x) (He.ma K (He.ga K x) "__init__") := by
  obtain ⟨f, hf, e⟩ := List.any_eq_true.mp b
  split at e
  · have := of_decide_eq_true e
    subst this
    exact He.mkr_ok (mem_facts c hf)
  · cases e
theorem noat_has (c : He.SaysD fa fn K) {x g : Str} (b : hasNoat fa x g = true) : NoAttr K (He.ga K x) g := by
  obtain ⟨f, hf, e⟩ := List.any_eq_true.mp b
  split at e
  · obtain ⟨e1, e2⟩ := ba e
    have := of_decide_eq_true e1
    have := of_decide_eq_true e2
    subst_vars
    exact He.noat_ok (mem_facts c hf)
  · cases e
theorem meth_has (c : He.SaysD fa fn K) {x g : Str} (b : hasMeth fa x g = true) : Meth K (He.ga K x) g (He.ma K (He.ga K x) g) := by
  obtain ⟨f, hf, e⟩ := List.any_eq_true.mp b
  split at e
  · obtain ⟨e1, e2⟩ := ba e
    have := of_decide_eq_true e1
    have := of_decide_eq_true e2
    subst_vars
    exact He.meth_ok (mem_facts c hf)
  · cases e
theorem hasS_ok {l : List Str} {x : Str} (h : hasS l x = true) : x ∈ l := by
  obtain ⟨y, hy, e⟩ := List.any_eq_true.mp h
  rw [← of_decide_eq_true e]; exact hy
/-- a method's class -/
theorem key_ok (hk : P.kl.all (klB P fa) = true) {y m key : Str} (h : keyOf P y m = some key) : ∃ fs ms, (y, fs, ms) ∈ P.kl ∧ hasCls fa y = true ∧ hasGlo fa y = true ∧ hasMkr fa y = true ∧ hasMeth fa y m = true ∧ atOf P key = (y, some m) := by
  unfold keyOf at h
  split at h
  · rename_i fs ms e
    have hm := lookup_mem e
    have hb := List.all_eq_true.mp hk _ hm
    unfold klB at hb
    obtain ⟨hb, b5⟩ := ba hb
    obtain ⟨hb, b4⟩ := ba hb
    obtain ⟨hb, b3⟩ := ba hb
    obtain ⟨b1, b2⟩ := ba hb
    obtain ⟨c1, c2⟩ := ba (List.all_eq_true.mp b5 _ (lookup_mem h))
    exact ⟨fs, ms, hm, b2, b1, b3, c1, eqAt_ok c2⟩
  · cases h
theorem tab_ok : ∀ {ps : List (Str × Def)} {ds : List He.DefD}, tabB P ps ds = true → ∀ p ∈ ps, ∃ d ∈ ds, d.at_ = atOf P p.1 ∧ defB P p.2 d = true
  | [], _, _, p, hp => by cases hp
  | q :: ps, [], e, p, hp => by cases e
  | q :: ps, d :: ds, e, p, hp => by
    unfold tabB at e
    split at e
    · rename_i ha
      obtain ⟨e1, e2⟩ := ba e
      rcases List.mem_cons.mp hp with rfl | hp
      · exact ⟨d, List.mem_cons_self .., eqAt_ok ha, e1⟩
      · obtain ⟨d', hd, r⟩ := tab_ok e2 p hp
        exact ⟨d', List.mem_cons_of_mem _ hd, r⟩
    · obtain ⟨d', hd, r⟩ := tab_ok e p hp
      exact ⟨d', List.mem_cons_of_mem _ hd, r⟩
theorem zip_look : ∀ {ps : List Str} {us : List Value}, ps.Nodup → us.length = ps.length → ∀ n ∈ ps, ∃ u, (ps.zip us).lookup n = some u
  | [], _, _, _, n, h => by cases h
  | p :: ps, [], _, hl, n, h => by simp at hl
  | p :: ps, u :: us, nd, hl, n, h => by
    rw [List.zip_cons_cons, List.lookup_cons]
    by_cases e : n = p
    · subst e; simp
    · have e2 : (n == p) = false := by simpa using e
      rw [e2]
      refine zip_look (List.nodup_cons.mp nd).2 (by simpa using hl) n ?_
      rcases List.mem_cons.mp h with h | h
      · exact absurd h e
      · exact h
theorem fm_congr {α β : Type} {f g : α → Option β} : ∀ {l : List α}, (∀ x ∈ l, f x = g x) → l.filterMap f = l.filterMap g
  | [], _ => rfl
  | x :: l, h => by
    rw [List.filterMap_cons, List.filterMap_cons, h x (List.mem_cons_self ..), fm_congr fun y hy => h y (List.mem_cons_of_mem _ hy)]
theorem zip_all : ∀ {ps : List Str} {us : List Value}, ps.Nodup → us.length = ps.length → ps.filterMap (fun n => ((ps.zip us).lookup n).map (n, ·)) = ps.zip us
  | [], _, _, _ => by simp
  | p :: ps, [], _, hl => by simp at hl
  | p :: ps, u :: us, nd, hl => by
    have nd1 := List.nodup_cons.mp nd
    rw [List.zip_cons_cons, List.filterMap_cons]
    simp only [List.lookup_cons, beq_self_eq_true, Option.map_some]
    congr 1
    refine Eq.trans ?_ (zip_all nd1.2 (by simpa using hl))
    refine fm_congr fun n hn => ?_
    have e2 : (n == p) = false := by
      have : n ≠ p := fun e => nd1.1 (e ▸ hn)
      simpa using this
    show Option.map _ (match n == p with | true => some u | false => _) = _
    rw [e2]
theorem plain_binds {x qual : Str} {params : Arguments} {body : List Stmt} {sc : Scope} {ps : List Str} (e : plainA params ps = true) (nd : ps.Nodup) (kV doc pm : Value) (an : Option Addr) (cdv ct : Value) (us : List Value) (hl : us.length = ps.length) :
    bindArgs (PySem.W.fnOf x qual params body sc .none kV doc pm an cdv ct) ⟨us, []⟩ = pure (ps.zip us) := by
  unfold plainA at e
  obtain ⟨e, e6⟩ := ba e
  obtain ⟨e, e5⟩ := ba e
  obtain ⟨e, e4⟩ := ba e
  obtain ⟨e, e3⟩ := ba e
  obtain ⟨e1, e2⟩ := ba e
  obtain ⟨po, ar, va, ko, kd, ka, df⟩ := params
  have h5 := of_decide_eq_true e5
  have h6 := of_decide_eq_true e6
  clear e5 e6
  simp only at e1 e2 e3 e4 h5
  cases po with
  | cons _ _ => cases e1
  | nil =>
  cases va with
  | some _ => cases e2
  | none =>
  cases ko with
  | cons _ _ => cases e3
  | nil =>
  cases ka with
  | some _ => cases e4
  | none =>
  have hp : (ar.map (·.arg)).Nodup := h5 ▸ nd
  subst h5
  have e0 : seqItems? Value.none = pure none := rfl
  have hz := zip_look hp hl
  have hf := zip_all hp hl
  simp only [List.length_map] at hl
  have hm : ∀ j, ((ar.map (·.arg)).take j).filter (fun n => (((ar.map (·.arg)).zip us).lookup n).isNone) = [] := fun j => by
    rw [List.filter_eq_nil_iff]
    intro n hn
    obtain ⟨u, e⟩ := hz n (List.mem_of_mem_take hn)
    rw [e]
    simp
  rw [List.filterMap_map] at hf
  unfold bindArgs PySem.W.fnOf
  simp [e0, hl]
  rw [if_neg]
  · rw [hf]
  · simp only [List.map_nil, List.nil_append]
    rw [hm]
    simp
theorem zip_look2 : ∀ {ps : List Str} {us : List Value}, ps.Nodup → ∀ (i : Nat) (n : Str), ps[i]? = some n → (ps.zip us).lookup n = us[i]?
  | [], _, _, i, n, h => by simp at h
  | p :: ps, [], _, i, n, h => by simp
  | p :: ps, u :: us, nd, i, n, h => by
    have nd1 := List.nodup_cons.mp nd
    rw [List.zip_cons_cons, List.lookup_cons]
    cases i with
    | zero => simp at h; subst h; simp
    | succ i =>
      simp at h
      have e2 : (n == p) = false := by
        have : n ≠ p := fun e => nd1.1 (e ▸ List.mem_of_getElem? h)
        simpa using this
      rw [e2]
      simpa using zip_look2 nd1.2 i n h
theorem plain_binds1 {x qual : Str} {params : Arguments} {body : List Stmt} {sc : Scope} {ps : List Str} (e : plainA params ps = true) (nd : ps.Nodup) (T : Addr) (kV doc pm : Value) (an : Option Addr) (cdv ct : Value) (us its : List Value) (j : Nat) (hj : j ≤ 1) (hp : 1 ≤ ps.length) (h1 : its.length = 1) (hl : us.length + (1 - j) = ps.length) :
    ∃ k, bindArgs (PySem.W.fnOf x qual params body sc (.ref T) kV doc pm an cdv ct) ⟨us, []⟩ = seqItems? (.ref T) >>= k ∧ k (some its.toArray) = pure (ps.zip (us ++ its.drop j)) := by
  unfold plainA at e
  obtain ⟨e, e6⟩ := ba e
  obtain ⟨e, e5⟩ := ba e
  obtain ⟨e, e4⟩ := ba e
  obtain ⟨e, e3⟩ := ba e
  obtain ⟨e1, e2⟩ := ba e
  obtain ⟨po, ar, va, ko, kd, ka, df⟩ := params
  have h5 := of_decide_eq_true e5
  clear e5 e6
  simp only at e1 e2 e3 e4 h5
  cases po with
  | cons _ _ => cases e1
  | nil =>
  cases va with
  | some _ => cases e2
  | none =>
  cases ko with
  | cons _ _ => cases e3
  | nil =>
  cases ka with
  | some _ => cases e4
  | none =>
  obtain ⟨d, rfl⟩ : ∃ d, its = [d] := by
    cases its with
    | nil => cases h1
    | cons d r => cases r with
      | nil => exact ⟨d, rfl⟩
      | cons _ _ => simp at h1
  clear e1 e2 e3 e4 h1
  subst h5
  unfold bindArgs PySem.W.fnOf
  simp
  refine ⟨_, rfl, ?_⟩
  have hz := zip_look2 (ps := ar.map (·.arg)) (us := us) nd
  have hla : ¬ ar.length < us.length := by simp at hl; omega
  have hg : (ar.map (·.arg)).length - 1 ≤ us.length := by omega
  rw [if_neg hla]
  simp
  simp only [List.length_map] at hp hl hg
  have q1 : 1 - ar.length = 0 := by omega
  have q2 : ar.length - (1 - (1 - ar.length)) = ar.length - 1 := by omega
  have hf : List.filter (fun n => (List.lookup n ((List.map (fun x => x.arg) ar).zip us)).isNone) (List.take (ar.length - 1) (List.map (fun x => x.arg) ar)) = [] := by
    rw [List.filter_eq_nil_iff]
    intro n hn
    obtain ⟨i, hi, e⟩ := List.getElem_of_mem hn
    simp at hi
    have e3 : (List.map (fun x => x.arg) ar)[i]? = some n := by
      rw [← e, List.getElem_take]
      simp [show i < ar.length by omega]
    rw [hz i n e3]
    simp [show i < us.length by omega]
  have hfm : ∀ ws : List Value, ws.length = ar.length → ar.filterMap ((fun n => Option.map (fun x => (n, x)) (List.lookup n ((List.map (fun x => x.arg) ar).zip ws))) ∘ fun x => x.arg) = (List.map (fun x => x.arg) ar).zip ws := fun ws hw => by
    have := zip_all (ps := List.map (fun x => x.arg) ar) (us := ws) nd (by simpa using hw)
    rw [List.filterMap_map] at this
    exact this
  simp only [q1, q2, List.map_nil, List.nil_append, List.length_map, List.length_drop, List.size_toArray, List.length_cons, List.length_nil, Nat.zero_add, List.drop_zero]
  simp only [Nat.sub_zero, hf]
  simp
  obtain ⟨N0, z, hN⟩ : ∃ N0 z, List.map (fun x : Arg => x.arg) ar = N0 ++ [z] := by
    refine ⟨(List.map (fun x : Arg => x.arg) ar).dropLast, (List.map (fun x : Arg => x.arg) ar).getLast (by intro e; simp at e; subst e; simp at hp), ?_⟩
    rw [List.dropLast_concat_getLast]
  have hN0 : N0.length = ar.length - 1 := by
    have := congrArg List.length hN
    simp at this; omega
  have hzl := hz (ar.length - 1) z (by rw [hN, ← hN0]; simp)
  have hd : List.drop (ar.length - 1) (List.map (fun x : Arg => x.arg) ar) = [z] := by
    rw [hN, ← hN0]; simp
  rw [hd]
  simp only [List.zip_cons_cons, List.zip_nil_right, List.forIn_cons, List.forIn_nil, hzl]
  by_cases hj0 : j = 0
  · subst hj0
    have hlu : us.length = ar.length - 1 := by omega
    have e1 : us[ar.length - 1]? = none := by simp; omega
    simp only [e1]
    have e2 : (List.map (fun x : Arg => x.arg) ar).zip us ++ [(z, d)] = (List.map (fun x : Arg => x.arg) ar).zip (us ++ [d]) := by
      rw [hN, List.zip_append (by omega)]
      have : (N0 ++ [z]).zip us = N0.zip us := by
        have h2 := List.zip_append (l₁ := N0) (l₂ := us) (r₁ := [z]) (r₂ := ([] : List Value)) (by omega)
        rw [List.append_nil] at h2
        rw [h2]; simp
      rw [this]; rfl
    simp [e2, hfm (us ++ [d]) (by simp; omega)]
  · have hj1 : j = 1 := by omega
    subst hj1
    have hlu : us.length = ar.length := by omega
    have e1 : us[ar.length - 1]? = some us[ar.length - 1] := by simp
    simp only [e1]
    simp [hfm us hlu]
theorem dvB_ok {K : PySem.W.Frag} {x : D} {y : He.Dv} (h : dvB x y = true) (L : List Addr) (H : Hp) : RelD K L H x (y.v K) := by
  unfold dvB at h
  split at h
  · have := of_decide_eq_true h; subst this; simp [RelD, He.Dv.v]
  · have := eq_of_beq h; subst this; simp [RelD, He.Dv.v]
  · simp [RelD, He.Dv.v]
  · have := of_decide_eq_true h; subst this; simp [RelD, He.Dv.v]
  · cases h
/-- what stands for the left out arguments -/
theorem binds_of {K : PySem.W.Frag} {m : Def} {d : He.DefD} {f : Addr} {fd : FuncData} (F : FunD K d.name d.qual d.params d.body d.scope (d.dvs K) (d.kws K) f fd) (hd : dflM m d = true) (hp : plainA d.params m.ps = true) (nd : m.ps.Nodup) (n : Nat) (hn : okN m n = true) :
    ∃ (ds : List Value) (dvs : List V), Binds K fd m.ps ds ∧ Vals dvs ds ∧ ∀ L H, RelDs K L H (m.dfl.drop (m.dfl.length - (m.ps.length - n))) dvs := by
  obtain ⟨n1, n2⟩ := ba hn
  have n1 := of_decide_eq_true n1
  have n2 := of_decide_eq_true n2
  unfold dflM at hd
  split at hd
  · rename_i e1 e2
    rw [e1] at n2
    have e3 : d.dvs K = [] := by unfold He.DefD.dvs; rw [e2]; rfl
    rw [e3] at F
    refine ⟨[], [], FunD.bindsN F fun kV doc pm an cdv ct us hl => plain_binds hp nd kV doc pm an cdv ct us hl, .nil, fun L H => ?_⟩
    rw [e1, List.drop_nil]
    exact RelDs.nil
  · rename_i x y e1 e2
    obtain ⟨hd1, hd2⟩ := ba hd
    have hd2 := of_decide_eq_true hd2
    rw [e1] at n2
    simp at n2
    have e3 : d.dvs K = [y.v K] := by unfold He.DefD.dvs; rw [e2]; rfl
    rw [e3] at F
    have key : ∀ j, j ≤ 1 → n + (1 - j) = m.ps.length → ∃ ds, Vals ([y.v K].drop j) ds ∧ Binds K fd m.ps ds := fun j hj hnj => by
      refine FunD.binds1 F n j (by simp) (by simpa using hnj) fun T kV doc pm an cdv ct us its hl1 hl2 => ?_
      exact plain_binds1 hp nd T kV doc pm an cdv ct us its j hj hd2 (by simpa using hl2) (by rw [hl1]; exact hnj)
    rw [e1]
    by_cases hE : n = m.ps.length
    · obtain ⟨ds, v, b⟩ := key 1 (Nat.le_refl _) (by omega)
      refine ⟨ds, _, b, v, fun L H => ?_⟩
      have : [x].length - (m.ps.length - n) = 1 := by simp; omega
      rw [this]
      exact RelDs.nil
    · obtain ⟨ds, v, b⟩ := key 0 (by decide) (by omega)
      refine ⟨ds, _, b, v, fun L H => ?_⟩
      have : [x].length - (m.ps.length - n) = 0 := by simp; omega
      rw [this]
      exact RelDs.cons (dvB_ok hd1 L H) RelDs.nil
  · cases hd
theorem padD_len {m : Def} {xs : List D} (h : okN m xs.length = true) : (padD m xs).length = m.ps.length := by
  obtain ⟨n1, n2⟩ := ba h
  have n1 := of_decide_eq_true n1
  have n2 := of_decide_eq_true n2
  unfold padD
  simp
  omega
theorem callN_pad {P : Prog} {fuel k : Nat} {g : Str} {m : Def} {xs : List D} {S : Store} (e : P.defs.lookup g = some m) (h : okN m xs.length = true) : callN P fuel k g xs S = callN P fuel k g (padD m xs) S := by
  cases k with
  | zero => rfl
  | succ k =>
    have h1 := padD_len h
    have h2 : padD m (padD m xs) = padD m xs := by
      generalize padD m xs = ys at *
      unfold padD
      rw [h1]; simp
    unfold callN
    rw [e]
    simp only [h2]
/-- what a def of the table promises at level k -/
def spF (CA : Str → Addr) (K : PySem.W.Frag) (P : Prog) (fuel k : Nat) (f : Str) (n : Nat) : Sp := fun vs H Q E => vs.length = n ∧ ∃ S L ds, Good K CA S L H ∧ RelDs K L H ds vs ∧
  Aft K CA (fun c d _ H' => E c d H') [] L H (callN P fuel k f ds S) fun d _ L' H' => ∀ v, RelD K L' H' d v → Q v H'
theorem envR_start {N : List Str} {ds : List D} {vs : List V} {L : List Addr} {H : Hp} (r : RelDs K L H ds vs) : EnvR K none L H (ds.map some ++ List.replicate (N.length - ds.length) none) (L2.start N vs) := by
  have hl := r.length
  unfold L2.start
  refine ⟨by simp [hl], fun i d hi => ?_, fun j a o h => by cases h⟩
  by_cases h : i < ds.length
  · rw [List.getElem?_append_left (by simpa using h), List.getElem?_map] at hi
    cases e : ds[i]? with
    | none => rw [e] at hi; cases hi
    | some d' =>
      rw [e] at hi
      cases hi
      obtain ⟨v, e1, r1⟩ := r.get e
      exact ⟨v, by rw [List.getElem?_append_left (by rw [List.length_map, hl]; exact h), List.getElem?_map, e1]; rfl, r1⟩
  · rw [List.getElem?_append_right (by simpa using h)] at hi
    rw [List.getElem?_replicate] at hi
    split at hi <;> cases hi
theorem sub2_exm {p : Str × List (Str × Bool)} (h : sub2B K p = true) : ∀ y b, (y, b) ∈ p.2 → PySem.W.exmOne K (.ref (He.ga K p.1)) (.ref (He.ga K y)) = some b := by
  intro y b hm
  obtain ⟨_, h⟩ := ba h
  obtain ⟨_, h⟩ := ba h
  obtain ⟨_, h⟩ := ba h
  obtain ⟨_, h⟩ := ba h
  obtain ⟨_, h⟩ := ba h
  obtain ⟨_, h⟩ := ba h
  obtain ⟨_, h⟩ := ba h
  obtain ⟨_, h⟩ := ba h
  exact of_decide_eq_true (List.all_eq_true.mp h (y, b) hm)
theorem xi_ok {Xc : Cx} (X : K.In h) (G : h.Ns mainGlobals mg) (c : He.SaysD fa fn K) (bx : P.isx.all (isxF fa) = true) (hXi : P.isx.all (isxB K) = true) {x y : Str} {b : Bool} (hx : ((P.isx.lookup x).bind fun l => l.lookup y) = some b) (hK : Xc.K = K := by rfl) (hm : Xc.mg = mg := by rfl) :
    ExcC Xc.K (He.ga K x) ∧ ∃ cv, ClsV Xc (He.ga K) y cv ∧ PySem.W.kitOne Xc.K (.ref (He.ga K x)) cv = some b := by
  subst hK hm
  cases e2 : P.isx.lookup x with
  | none => rw [e2] at hx; cases hx
  | some l =>
    rw [e2] at hx
    have hl := lookup_mem (show l.lookup y = some b from hx)
    have e4 := List.all_eq_true.mp hXi (x, l) (lookup_mem e2)
    have e5 := List.all_eq_true.mp (List.all_eq_true.mp bx (x, l) (lookup_mem e2)) (y, b) hl
    obtain ⟨f1, e4⟩ := ba e4
    obtain ⟨f2, e4⟩ := ba e4
    obtain ⟨f3, f4⟩ := ba e4
    have f5 := List.all_eq_true.mp f4 (y, b) hl
    refine ⟨excCB_ok f1, ?_⟩
    unfold clsB at f5
    by_cases hy : y = ("ValueError" : Str)
    · simp only [hy, if_true] at f5 e5
      exact ⟨_, .inr ⟨by rw [hy]; exact free_has X G c e5, hy, rfl⟩, of_decide_eq_true f5⟩
    · simp only [if_neg hy] at f5 e5
      exact ⟨_, .inl ⟨glo_has X G c e5, rfl⟩, of_decide_eq_true f5⟩
theorem visS_ok {sc : Scope} {x : Str} (h : visS sc x = true) : Vis sc x := by
  unfold visS at h
  split at h
  · exact .inl (by assumption)
  · exact .inr (.inl (by assumption))
  · exact .inr (.inr (by assumption))
  · cases h
theorem xo_ok {Xc : Cx} (X : K.In h) (G : h.Ns mainGlobals mg) (c : He.SaysD fa fn K) {p : Str × List (Str × Bool)} (b1 : sub2F fa fn p = true) (b2 : sub2B K p = true) (hKb : K.In Xc.base) (hGb : Xc.base.Ns mainGlobals mg) (hr : Room 2 Xc.A) (hK : Xc.K = K := by rfl) (hm : Xc.mg = mg := by rfl) : XoOk Xc (He.ga K) p.1 := by
  subst hK hm
  obtain ⟨g1, g2⟩ := ba b1
  obtain ⟨d, hd, g3⟩ := List.any_eq_true.mp g2
  obtain ⟨g4, g5⟩ := ba g3
  have hat := eqAt_ok g4
  obtain ⟨f1, b2⟩ := ba b2
  obtain ⟨f2, b2⟩ := ba b2
  obtain ⟨f3, b2⟩ := ba b2
  obtain ⟨f4, b2⟩ := ba b2
  obtain ⟨f5, b2⟩ := ba b2
  obtain ⟨f6, b2⟩ := ba b2
  obtain ⟨f7, b2⟩ := ba b2
  obtain ⟨f8, f9⟩ := ba b2
  have T : OexC Xc.K (He.ga Xc.K p.1) := ⟨oexB_ok f1, of_decide_eq_true f2, of_decide_eq_true f3, of_decide_eq_true f4, f5⟩
  unfold initB at g5
  obtain ⟨g5, g6⟩ := ba g5
  obtain ⟨g7, g8⟩ := ba g5
  split at g6
  · rename_i a b hab
    obtain ⟨g6, g9⟩ := ba g6
    obtain ⟨g10, g11⟩ := ba g6
    obtain ⟨fd, F⟩ := mem_defs c hd
    rw [hat] at F
    have e1 : d.dvs Xc.K = [] := by unfold He.DefD.dvs; rw [List.isEmpty_iff.mp g7]; rfl
    rw [e1] at F
    have sc := sc_ok g11
    have ndP : [a, b].Nodup := sc.nd
    obtain ⟨ds, dvs, hb1, hv1, hr1⟩ := (⟨[], [], FunD.bindsN F fun kV doc pm an cdv ct us hl => plain_binds g10 ndP kV doc pm an cdv ct us hl, .nil, trivial⟩ : ∃ (ds : List Value) (dvs : List V), Binds Xc.K fd [a, b] [] ∧ Vals dvs ds ∧ True)
    refine ⟨He.fAd Xc.K (p.1, some "__init__"), 1, fd, [a, b], fun vs H Q E => ∃ (q : Addr) (v : V), vs = [.ref q, v] ∧ H q = some (exo q (He.ga Xc.K p.1) none) ∧ ∀ dx H', H dx = none → dx ≠ q → H' = upd (upd H dx (exd dx [("at", v)])) q (exo q (He.ga Xc.K p.1) (some dx)) → Q .non H', T, of_decide_eq_true f6, of_decide_eq_true f7, ?_, hr, hb1, glo_has X G c g1, fun q v H Q E h1 h2 => ⟨q, v, rfl, h1, h2⟩⟩
    refine FunD.ok (k := 0) F sc (fun vs H Q E ⟨q, v, e, _⟩ => by rw [e]; rfl) fun cdv A outer s H vs Q E hr2 ⟨q, v, e, h1, h2⟩ => ?_
    subst e
    unfold initS at g9
    split at g9
    · rename_i x p1 f p2 y p3 p4 hbd
      obtain ⟨g9, i7⟩ := ba g9
      obtain ⟨g9, i6⟩ := ba g9
      obtain ⟨g9, i5⟩ := ba g9
      obtain ⟨g9, i4⟩ := ba g9
      obtain ⟨g9, i3⟩ := ba g9
      obtain ⟨i1, i2⟩ := ba g9
      have i1 := of_decide_eq_true i1
      have i2 := of_decide_eq_true i2
      have i3 := of_decide_eq_true i3
      subst i1 i2 i3
      rw [hbd]
      obtain ⟨j1, j2⟩ := nm_of i6
      obtain ⟨j3, j4⟩ := nm_of i7
      refine ⟨_, pss_cons (ps_ost (pe_var (i := 0) rfl (visS_ok i4) j1 j2) (pe_var (i := 1) rfl (visS_ok i5) j3 j4)) pss_nil, ?_⟩
      exact ⟨v, rfl, .ref q, rfl, q, _, rfl, T, of_decide_eq_true f8, .inl ⟨h1, fun dx n ne => h2 dx _ n ne rfl⟩⟩
    · cases g9
  · cases g6
/-- all defs of the table keep their promises -/
theorem defs_ok {Pr : Program} {w : World} {fuel : Nat} (hB : allB P fa fn = true) (hX : exP P K = true) (X : K.In h) (G : h.Ns mainGlobals mg) (c : He.SaysD fa fn K) :
    ∀ (k : Nat) (f : Str) (m : Def), P.defs.lookup f = some m → ∃ fd : FuncData, (m.dfl = [] → ∀ (s : Shared) (us : List Value), us.length = m.ps.length → BindsTo s fd ⟨us, []⟩ (m.ps.zip us)) ∧ (∀ n, okN m n = true → ∃ (ds : List Value) (dvs : List V), Binds K fd m.ps ds ∧ Vals dvs ds ∧ ∀ L H, RelDs K L H (m.dfl.drop (m.dfl.length - (m.ps.length - n))) dvs) ∧ PySem.W.keepIn K (.ref (He.fAd K (atOf P f))) = true ∧ (hasGlo fa f = true → mg f = some (.ref (He.ga K f))) ∧
      ∀ base : Heap, K.In base → base.Ns mainGlobals mg → FnOk Pr w K mg base (L2.CX Pr w) (2 * k + 1) (He.fAd K (atOf P f)) fd m.ps (spF (He.ga K) K P fuel k f m.ps.length) := by
  unfold allB at hB
  obtain ⟨hB0, hB⟩ := ba hB
  obtain ⟨bx, by2⟩ := ba hB0
  unfold exP at hX
  obtain ⟨hX, hX2⟩ := ba hX
  obtain ⟨hXi, hXs⟩ := ba hX2
  obtain ⟨hB, b5⟩ := ba hB
  obtain ⟨hB, b4⟩ := ba hB
  obtain ⟨hB, b3⟩ := ba hB
  obtain ⟨hB, b6⟩ := ba hB
  obtain ⟨b1, b2⟩ := ba hB
  intro k
  induction k with
  | zero =>
    intro f m e
    obtain ⟨d, hd, ha, hb⟩ := tab_ok b1 (f, m) (lookup_mem e)
    unfold defB at hb
    obtain ⟨hb, c5⟩ := ba hb
    obtain ⟨hb, c4⟩ := ba hb
    obtain ⟨hb, c3⟩ := ba hb
    obtain ⟨c1, c2⟩ := ba hb
    obtain ⟨fd, F⟩ := mem_defs c hd
    rw [ha] at F
    have sc := sc_ok c4
    have ndP : m.ps.Nodup := by rw [← sc.pre]; exact sc.nd.sublist (List.take_sublist _ _)
    refine ⟨fd, fun hm0 => by
      have e1 : d.dvs K = [] := by
        unfold dflM at c1
        rw [hm0] at c1
        split at c1
        · rename_i e2; unfold He.DefD.dvs; rw [e2]; rfl
        · rename_i e2 _; cases e2
        · cases c1
      rw [e1] at F
      exact FunD.bindsA F fun kV doc pm an cdv ct us hl => plain_binds c3 ndP kV doc pm an cdv ct us hl, binds_of F c1 c3 ndP, F.kp, fun hg => glo_has X G c hg, fun base _ _ => ?_⟩
    refine ⟨fun vs H Q E q => q.1, fun A outer s H args us vs Q E hr he hb' hv q => ?_⟩
    obtain ⟨_, S, L, ds, _, _, q⟩ := q
    exact q.elim
  | succ k ih =>
    intro f m e
    obtain ⟨d, hd, ha, hb⟩ := tab_ok b1 (f, m) (lookup_mem e)
    unfold defB at hb
    obtain ⟨hb, c5⟩ := ba hb
    obtain ⟨hb, c4⟩ := ba hb
    obtain ⟨hb, c3⟩ := ba hb
    obtain ⟨c1, c2⟩ := ba hb
    obtain ⟨fd, F⟩ := mem_defs c hd
    rw [ha] at F
    have sc := sc_ok c4
    have ndP : m.ps.Nodup := by rw [← sc.pre]; exact sc.nd.sublist (List.take_sublist _ _)
    refine ⟨fd, fun hm0 => by
      have e1 : d.dvs K = [] := by
        unfold dflM at c1
        rw [hm0] at c1
        split at c1
        · rename_i e2; unfold He.DefD.dvs; rw [e2]; rfl
        · rename_i e2 _; cases e2
        · cases c1
      rw [e1] at F
      exact FunD.bindsA F fun kV doc pm an cdv ct us hl => plain_binds c3 ndP kV doc pm an cdv ct us hl, binds_of F c1 c3 ndP, F.kp, fun hg => glo_has X G c hg, fun base hKb hGb => ?_⟩
    refine FunD.ok (k := 2 * k + 2) F sc (fun vs H Q E q => q.1) fun cdv A outer s H vs Q E hr q => ?_
    obtain ⟨hl, S, L, ds, g, r, q⟩ := q
    let Xc := cxOf (L2.CX Pr w) Pr w K mg base m.ns d.qual d.scope (He.fAd K (atOf P f)) cdv A outer s H E
    let W : WX := fun c d _ H' => E c d H'
    have tk : Takes Xc W := takes_of rfl rfl rfl rfl
    -- a promise, as the rules want it
    have prom : ∀ (g : Str) (n : Nat) (xs : List D) (vs : List V) (S : Store) (L : List Addr) (H : Hp) (σ : Sl) (Q : VK) (E : XK), Good K (He.ga K) S L H → RelDs K L H xs vs → xs.length = n →
        Aft K (He.ga K) (fun c d _ H' => E c d H') σ L H ((P.cx fuel (callN P fuel k)).cl g xs S) (fun d _ L' H' => ∀ v, RelD K L' H' d v → Q v H') → spF (He.ga K) K P fuel k g n vs H Q E := fun g n xs vs S L H σ Q E g' r' hn' q' => by
      refine ⟨by rw [r'.length]; omega, S, L, xs, g', r', ?_⟩
      revert q'
      show Aft K (He.ga K) _ σ L H (callN P fuel k g xs S) _ → Aft K (He.ga K) _ [] L H (callN P fuel k g xs S) _
      cases callN P fuel k g xs S with
      | ok a S' => exact fun q' => q'
      | exc c S' => exact fun q' => q'
      | bad => exact fun q' => q'
    have ok : Ok Xc (He.ga K) ⟨P.cx fuel (callN P fuel k), none⟩ W ⟨m.ns, d.scope, true, fsOf P, xsOf P, flOf P, msOf P, mksOf P, xoOf P, none⟩ := by
      refine ⟨fun _ => rfl, rfl, sc.nd, rfl, sc.kind, tk, ?_, fun _ => passes_of rfl, fun x hx => free_has X G c (List.all_eq_true.mp b3 x hx), fun _ _ => rfl, fun x dd hx => ?_, fun g n hg => ?_, fun y f hy => ?_, fun y m' key n hy => ?_, fun y key n hy => ?_, fun x hx => ?_, fun x y b hx => ?_, fun _ => rfl, fun _ => rfl, fun x hx => ?_, fun x y b hx => ?_, fun x y b hx => ?_, fun _ => rfl, fun _ _ => rfl, fun _ _ => rfl, rfl, fun i a o h => by cases h⟩
      · exact Nat.lt_of_le_of_lt (Nat.add_le_add (Nat.le_add_right _ _) (by decide)) hr.un
      · refine gloB1_ok X G c (List.all_eq_true.mp b4 (x, dd) (lookup_mem hx)) fun xs e => ?_
        have := List.all_eq_true.mp (show (P.glob.all fun q => match q.2 with
          | .frt xs => tupB K (He.ga K q.1) xs
          | _ => true) = true from hX) (x, dd) (lookup_mem hx)
        simp only at e
        subst e
        exact this
      · have hg : fsOf P g n = true := hg
        unfold fsOf at hg
        obtain ⟨hg0, hg⟩ := ba hg
        split at hg
        · rename_i m' e'
          obtain ⟨fd', hA, hBn, hkp, hmg, hF⟩ := ih g m' e'
          obtain ⟨dsv, dvs, hb1, hv1, hr1⟩ := hBn n hg
          have hat : atOf P g = (g, none) := eqAt_ok hg0
          rw [hat] at hF hkp
          have hgl : hasGlo fa g = true := by
            have := List.all_eq_true.mp b2 (g, m') (lookup_mem e')
            rw [hat] at this
            simpa using this
          exact ⟨He.ga K g, fd', m'.ps, dsv, dvs, 2 * k + 1, _, hF base hKb hGb, hr.mono (Nat.le_succ _), hmg hgl, hkp, hb1, hv1, fun vs xs S L H σ Q E' g' r' hn' q' => by
            have hok : okN m' xs.length = true := by rw [hn']; exact hg
            refine prom g m'.ps.length (padD m' xs) (vs ++ dvs) S L H σ Q E' g' ?_ (padD_len hok) ?_
            · unfold padD
              rw [hn']
              exact RelDs.append r' (hr1 L H)
            · show Aft K (He.ga K) _ _ L H (callN P fuel k g (padD m' xs) S) _
              rw [← show callN P fuel k g xs S = callN P fuel k g (padD m' xs) S from callN_pad e' hok]
              exact q'⟩
        · cases hg
      · have hy : flOf P y f = true := hy
        unfold flOf at hy
        split at hy
        · rename_i fs ms e'
          have hb := List.all_eq_true.mp b6 _ (lookup_mem e')
          unfold klB at hb
          obtain ⟨hb, d5⟩ := ba hb
          obtain ⟨hb, d4⟩ := ba hb
          obtain ⟨hb, d3⟩ := ba hb
          obtain ⟨d1, d2⟩ := ba hb
          exact ⟨cls_has c d2, noat_has c (List.all_eq_true.mp d4 f (hasS_ok hy))⟩
        · cases hy
      · have hy : msOf P y m' key n = true := hy
        unfold msOf at hy
        obtain ⟨y1, y2⟩ := ba hy
        obtain ⟨fs, ms, hm, k1, k2, k3, k4, k5⟩ := key_ok b6 (of_decide_eq_true y1)
        unfold arityN at y2
        split at y2
        · rename_i m2 e'
          obtain ⟨fd', hA, hBn, hkp, hmg, hF⟩ := ih key m2 e'
          obtain ⟨dsv, dvs, hb1, hv1, hr1⟩ := hBn (n + 1) y2
          rw [k5] at hF
          exact ⟨He.ma K (He.ga K y) m', fd', m2.ps, dsv, dvs, 2 * k + 1, _, cls_has c k1, meth_has c k4, hF base hKb hGb, hr.mono (Nat.le_succ _), hb1, hv1, fun vs xs S L H σ Q E' g' r' hn' q' => by
            have hok : okN m2 xs.length = true := by rw [hn']; exact y2
            refine prom key m2.ps.length (padD m2 xs) (vs ++ dvs) S L H σ Q E' g' ?_ (padD_len hok) ?_
            · unfold padD
              rw [hn']
              exact RelDs.append r' (hr1 L H)
            · show Aft K (He.ga K) _ _ L H (callN P fuel k key (padD m2 xs) S) _
              rw [← show callN P fuel k key xs S = callN P fuel k key (padD m2 xs) S from callN_pad e' hok]
              exact q'⟩
        · cases y2
      · have hy : mksOf P y key n = true := hy
        unfold mksOf at hy
        obtain ⟨y1, y2⟩ := ba hy
        obtain ⟨fs, ms, hm, k1, k2, k3, k4, k5⟩ := key_ok b6 (of_decide_eq_true y1)
        unfold arity at y2
        split at y2
        · rename_i m2 e'
          have hn := of_decide_eq_true y2
          obtain ⟨fd', hA, hBn, hkp, hmg, hF⟩ := ih key m2 e'
          have hok2 : okN m2 m2.ps.length = true := by unfold okN; simp
          obtain ⟨dsv, dvs, hb1, hv1, hr1⟩ := hBn _ hok2
          have ed : dvs = [] := by
            have := (hr1 [] (fun _ => none)).length
            simp at this
            exact this
          subst ed
          have ed2 : dsv = [] := by cases hv1; rfl
          subst ed2
          rw [k5] at hF
          exact ⟨He.ma K (He.ga K y) "__init__", fd', m2.ps, 2 * k + 1, _, mkr_has c k3, glo_has X G c k2, hF base hKb hGb, hr, hb1, fun vs xs S L H σ Q E' g' r' hn' q' => by rw [hn]; exact prom key (n + 1) xs vs S L H σ Q E' g' r' hn' q'⟩
        · cases y2
      · obtain ⟨p, hp, e2⟩ := List.any_eq_true.mp (show (P.subs.any fun p => decide (p.1 = x)) = true from hx)
        have e3 := of_decide_eq_true e2
        have e4 := List.all_eq_true.mp b5 p hp
        unfold subB at e4
        obtain ⟨e4, e6⟩ := ba e4
        obtain ⟨e4, e5⟩ := ba e4
        rw [e3] at e4 e5
        have q := exc_has c e5
        have q2 : (PySem.W.excIn K (He.ga K x) He.veBase "ValueError.__new__" && (PySem.W.keepIn K (.ref (He.ga K x)) && (decide (PySem.W.subIn K (.ref (He.ga K x)) (.type "BaseException") = some true) && decide (PySem.W.typeIn K (.ref (He.ga K x)) = some (.type "type"))))) = true := q
        obtain ⟨q3, q4⟩ := ba q2
        obtain ⟨q5, q6⟩ := ba q4
        obtain ⟨q7, q8⟩ := ba q6
        exact ⟨glo_has X G c e4, q3, q5, raises_own (of_decide_eq_true q7) (of_decide_eq_true q8)⟩
      · have hx : (((P.subs.lookup x).or (P.sub2.lookup x)).bind fun l => l.lookup y) = some b := hx
        cases e2 : P.subs.lookup x with
        | none =>
          rw [e2] at hx
          cases e3 : P.sub2.lookup x with
          | none => rw [e3] at hx; cases hx
          | some l =>
            rw [e3] at hx
            have e4 := List.all_eq_true.mp hXs (x, l) (lookup_mem e3)
            exact sub2_exm e4 _ _ (lookup_mem hx)
        | some l =>
          rw [e2] at hx
          have e4 := List.all_eq_true.mp b5 (x, l) (lookup_mem e2)
          unfold subB at e4
          obtain ⟨e4, e6⟩ := ba e4
          exact exm_has c (List.all_eq_true.mp e6 (y, b) (lookup_mem hx))
      · obtain ⟨p, hp, e2⟩ := List.any_eq_true.mp (show (P.sub2.any fun p => decide (p.1 = x)) = true from hx)
        have e3 := of_decide_eq_true e2
        subst e3
        exact xo_ok X G c (List.all_eq_true.mp by2 p hp) (List.all_eq_true.mp hXs p hp) hKb hGb (hr.mono (by omega))
      · exact xi_ok X G c bx hXi hx
      · have hx : ((P.isx.lookup x).bind fun l => l.lookup y) = some b := hx
        cases e2 : P.isx.lookup x with
        | none => rw [e2] at hx; cases hx
        | some l =>
          have e4 := List.all_eq_true.mp hXi (x, l) (lookup_mem e2)
          obtain ⟨f1, e4⟩ := ba e4
          obtain ⟨f2, e4⟩ := ba e4
          obtain ⟨f3, f4⟩ := ba e4
          exact ⟨xfB_ok f2, of_decide_eq_true f3⟩
    refine ⟨_, sB m.body ok c5, S, L, ds.map some ++ List.replicate (m.ns.length - ds.length) none, g, envR_start r, ?_⟩
    unfold callN at q
    rw [e] at q
    simp only at q
    rw [show padD m ds = ds from by unfold padD; rw [show ds.length = m.ps.length by rw [← r.length]; exact hl]; simp] at q
    rw [if_pos (by rw [← r.length]; exact hl)] at q
    revert q
    show Aft K (He.ga K) _ _ L H (endR (exB (P.cx fuel (callN P fuel k)) m.body _ S)) _ → AftS K (He.ga K) none W L H (exB (P.cx fuel (callN P fuel k)) m.body _ S) _
    cases exB (P.cx fuel (callN P fuel k)) m.body (ds.map some ++ List.replicate (m.ns.length - ds.length) none) S with
    | nx e2 S2 => exact fun q σ' L' H' st g' er => q L' H' st g' .non (by simp [RelD])
    | ret d2 S2 => exact fun q v L' H' st g' rv => q L' H' st g' v rv
    | brk e2 S2 => exact fun q => q.elim
    | exc c2 e2 S2 => exact fun q σ' cls dd L' H' st g' er x => q cls dd L' H' st g' x
    | bad => exact fun q => q.elim
theorem sqF_of {H : Hp} {a : Addr} {vs : List V} (o : Only H) (s : SqL K H a vs) : SqF K H a vs := by
  rcases s with (e | ⟨ob, e⟩) | e
  · rcases o a with z | ⟨ob, xs, z⟩
    · rw [z] at e; cases e
    · rw [z] at e; cases e
  · exact .inl ⟨ob, e⟩
  · exact .inr e
/-- a law's end -/
theorem lt_end {l : PySem.W.OpenLaw} {q : Program} {loose : List Str} {XP : (Str → Option Value) → Heap → Prop} {d : DefRec} {x : Str} {k fuel : Nat} {m : Def}
    (hn : l.most = some 63) (hdf : d.params.defaults = []) (hr : Room (2 * k + 1) callerA) (hat : atOf P ("law" : Str) = (("law" : Str), none)) (hglo : hasGlo fa ("law" : Str) = true) (hname : d.name = ("law" : Str)) (hB : allB P fa fn = true) (hlaw : P.defs.lookup ("law" : Str) = some m) (hps : m.ps = [x]) (hdf0 : m.dfl = [])
    (hsp : ∀ ns : List Int, ns.length ≤ 63 → (∀ z ∈ ns, Builtin.Int.intBits z ≤ 1048576) → ∃ S', callN P fuel k "law" [.frl (ns.map .int)] [] = .ok (.bl true) S') :
    PySem.W.WalkO q loose XP (fun _ h => ∃ K : PySem.W.Frag, K.In h ∧ He.SaysD fa fn K ∧ exP P K = true) l.row.toRowW d [] (fun f vs => PySem.call f vs) := by
  refine Att.attach_callB hn hdf fun w s₀ s₁ mg mb fo o pm cd doc a vs ns G Y ho hd hcd hmg hobj hints hlen hbits hg => ?_
  obtain ⟨K, KX, c, cX⟩ := Y
  obtain ⟨fd, hA, _, _, hm2, hF⟩ := defs_ok (Pr := l.prog) (w := w) (fuel := fuel) hB cX KX G.T.g c k "law" m hlaw
  have hA := hA hdf0
  rw [hname] at hmg
  have e := hmg.symm.trans (hm2 hglo)
  cases e
  rw [hat] at hF
  rw [hps] at hA hF
  refine law_call (CX := L2.CX l.prog w) KX G.T.g G.T.b G.T.builtins G.T.nolimit hg hobj hints (Nat.le_trans hlen (by rw [sizeLine_eq]; decide)) hr hF (fun s u => hA s [u] rfl) (fun H hO hS => ?_) ?_
  · obtain ⟨S', e'⟩ := hsp ns hlen hbits
    refine ⟨rfl, [], [], [.frl (ns.map .int)], ⟨rfl, List.nodup_nil, fun n c a h _ => by simp at h⟩, RelDs.cons ?_ RelDs.nil, ?_⟩
    · simp only [RelD]
      exact ⟨a, _, rfl, sqF_of hO hS, RelDs.ints⟩
    · rw [e']
      intro L' H' _ _ v r
      simpa [RelD] using r
  · rintro H e s' ⟨_, _, _, _, _, _, _, _, _, _, _, _, z⟩
    exact z
end
end Lt
namespace Lt
open PySem (Str)
end Lt
namespace LawT
open Lt
open PySem (Str)
def a__law_cell : Def := ⟨["_law_script", "_law_place"], ["_law_script", "_law_place", "_law_seed", "_law_cell_here"], [], [
  (.ite (.cmp .lt (.var 1) (.bi .len [(.var 0)])) [(.ret (.idx (.var 0) (.var 1)))] []),
  (.asg (.name 2) (.int 5)),
  (.forS (.name 3) (.seq (.slT (.var 0) (.int 63))) [(.asg (.name 2) (.bin .mod (.bin .add (.bin .add (.bin .mul (.var 2) (.int 48271)) (.bin .mod (.var 3) (.int 1000003))) (.int 1)) (.int 2147483647)))]),
  (.ret (.bin .mod (.bin .add (.var 2) (.bin .mul (.int 7919) (.var 1))) (.int 1000003)))]⟩
def a__law_mix : Def := ⟨["_law_cell_here", "_law_k"], ["_law_cell_here", "_law_k", "_law_one", "_law_two"], [], [
  (.asg (.name 2) (.bin .mod (.bin .pow (.bin .add (.bin .add (.bin .mod (.var 0) (.int 2147483629)) (.bin .mul (.int 1013) (.var 1))) (.int 7919)) (.int 3)) (.int 2147483647))),
  (.asg (.name 3) (.bin .mod (.bin .add (.bin .add (.bin .mul (.var 2) (.int 40699)) (.bin .mul (.bin .mul (.int 3793) (.var 1)) (.var 1))) (.int 11)) (.int 2147483399))),
  (.ret (.bin .fdiv (.var 3) (.int 101)))]⟩
def a__law_row : Def := ⟨["_law_script", "_law_place", "_law_sizes"], ["_law_script", "_law_place", "_law_sizes", "_law_cell_here", "_law_left", "_law_some", "_law_k", "_law_other"], [], [
  (.asg (.name 3) (.call "_law_cell" [(.var 0), (.var 1)])),
  (.asg (.name 4) (.var 3)),
  (.asg (.name 5) (.lst [])),
  (.forS (.name 6) (.rng (.bi .len [(.var 2)])) [(.ite (.cmp .lt (.var 3) (.bin .pow (.int 10) (.int 18))) [(.exp (.app (.var 5) (.bin .mod (.call "_law_mix" [(.var 3), (.var 6)]) (.idx (.var 2) (.var 6)))))] [(.ite (.cmp .gt (.var 4) (.int 0)) [(.exp (.app (.var 5) (.bin .mod (.var 4) (.idx (.var 2) (.var 6))))), (.asg (.name 4) (.bin .fdiv (.var 4) (.idx (.var 2) (.var 6))))] [(.asg (.name 7) (.call "_law_cell" [(.var 0), (.bin .mod (.bin .add (.bin .add (.var 1) (.int 1)) (.var 6)) (.int 63))])), (.exp (.app (.var 5) (.bin .mod (.call "_law_mix" [(.var 7), (.var 6)]) (.idx (.var 2) (.var 6)))))])])]),
  (.ret (.var 5))]⟩
end LawT
namespace LawT
open Lt
open PySem (Str)
def a__law_ratio : Def := ⟨["_law_top", "_law_bottom"], ["_law_top", "_law_bottom", "_law_one", "_law_two"], [], [
  (.par 2 3 (.bi .abs [(.var 0)]) (.var 1)),
  (.whl (.cmp .gt (.var 3) (.int 0)) [(.par 2 3 (.var 3) (.bin .mod (.var 2) (.var 3)))]),
  (.ret (.tup [(.bin .fdiv (.var 0) (.var 2)), (.bin .fdiv (.var 1) (.var 2))]))]⟩
end LawT
namespace LawT
open Lt
open PySem (Str)
def a_order : Def := ⟨["one", "other"], ["one", "other", "left", "right"], [], [
  (.asg (.name 2) (.bin .mul (.idx (.var 0) (.int 0)) (.idx (.var 1) (.int 1)))),
  (.asg (.name 3) (.bin .mul (.idx (.var 1) (.int 0)) (.idx (.var 0) (.int 1)))),
  (.ite (.cmp .lt (.var 2) (.var 3)) [(.ret (.neg (.int 1)))] []),
  (.ite (.cmp .gt (.var 2) (.var 3)) [(.ret (.int 1))] []),
  (.ret (.int 0))]⟩
def a_size : Def := ⟨["one"], ["one"], [], [
  (.ret (.tup [(.bi .abs [(.idx (.var 0) (.int 0))]), (.idx (.var 0) (.int 1))]))]⟩
end LawT
namespace LawT
open Lt
open PySem (Str)
def a_common : Def := ⟨["one", "other"], ["one", "other"], [], [
  (.par 0 1 (.bi .abs [(.var 0)]) (.bi .abs [(.var 1)])),
  (.whl (.cmp .gt (.var 1) (.int 0)) [(.par 0 1 (.var 1) (.bin .mod (.var 0) (.var 1)))]),
  (.ret (.var 0))]⟩
def a_ratio : Def := ⟨["top", "bottom"], ["top", "bottom", "part"], [], [
  (.ite (.cmp .eq (.var 1) (.int 0)) [(.rai "NoRatio")] []),
  (.asg (.name 2) (.call "common" [(.var 0), (.var 1)])),
  (.ite (.cmp .lt (.var 1) (.int 0)) [(.asg (.name 2) (.neg (.var 2)))] []),
  (.ret (.tup [(.bin .fdiv (.var 0) (.var 2)), (.bin .fdiv (.var 1) (.var 2))]))]⟩
def a_plus : Def := ⟨["one", "other"], ["one", "other"], [], [
  (.ret (.call "ratio" [(.bin .add (.bin .mul (.idx (.var 0) (.int 0)) (.idx (.var 1) (.int 1))) (.bin .mul (.idx (.var 1) (.int 0)) (.idx (.var 0) (.int 1)))), (.bin .mul (.idx (.var 0) (.int 1)) (.idx (.var 1) (.int 1)))]))]⟩
def a_minus : Def := ⟨["one", "other"], ["one", "other"], [], [
  (.ret (.call "ratio" [(.bin .sub (.bin .mul (.idx (.var 0) (.int 0)) (.idx (.var 1) (.int 1))) (.bin .mul (.idx (.var 1) (.int 0)) (.idx (.var 0) (.int 1)))), (.bin .mul (.idx (.var 0) (.int 1)) (.idx (.var 1) (.int 1)))]))]⟩
def a_times : Def := ⟨["one", "other"], ["one", "other"], [], [
  (.ret (.call "ratio" [(.bin .mul (.idx (.var 0) (.int 0)) (.idx (.var 1) (.int 0))), (.bin .mul (.idx (.var 0) (.int 1)) (.idx (.var 1) (.int 1)))]))]⟩
def a_over : Def := ⟨["one", "other"], ["one", "other"], [], [
  (.ret (.call "ratio" [(.bin .mul (.idx (.var 0) (.int 0)) (.idx (.var 1) (.int 1))), (.bin .mul (.idx (.var 0) (.int 1)) (.idx (.var 1) (.int 0)))]))]⟩
end LawT
namespace LawT
open Lt
open PySem (Str)
def a_slope : Def := ⟨["one", "other"], ["one", "other"], [], [
  (.ite (.cmp .lt (.idx (.var 1) (.int 0)) (.idx (.var 0) (.int 0))) [(.par 0 1 (.var 1) (.var 0))] []),
  (.ret (.call "over" [(.call "minus" [(.idx (.var 1) (.int 1)), (.idx (.var 0) (.int 1))]), (.tup [(.bin .sub (.idx (.var 1) (.int 0)) (.idx (.var 0) (.int 0))), (.int 1)])]))]⟩
def a_line_by : Def := ⟨["steep", "sample"], ["steep", "sample"], [], [
  (.ret (.tup [(.var 0), (.call "minus" [(.idx (.var 1) (.int 1)), (.call "times" [(.var 0), (.tup [(.idx (.var 1) (.int 0)), (.int 1)])])])]))]⟩
def a_height : Def := ⟨["line", "when"], ["line", "when"], [], [
  (.ret (.call "plus" [(.call "times" [(.idx (.var 0) (.int 0)), (.var 1)]), (.idx (.var 0) (.int 1))]))]⟩
def a_off : Def := ⟨["line", "sample"], ["line", "sample"], [], [
  (.ret (.call "minus" [(.idx (.var 1) (.int 1)), (.call "height" [(.var 0), (.tup [(.idx (.var 1) (.int 0)), (.int 1)])])]))]⟩
end LawT
namespace LawT
open Lt
open PySem (Str)
end LawT
namespace LawT
open Lt
open PySem (Str)
end LawT
namespace LawT
open Lt
open PySem (Str)
def a_runs : Def := ⟨["row"], ["row", "told", "now", "entry"], [], [
  (.asg (.name 1) (.lst [])),
  (.asg (.name 2) (.lst [])),
  (.forS (.name 3) (.seq (.var 0)) [(.ite (.ntN (.idx (.var 3) (.int 1))) [(.exp (.app (.var 2) (.var 3)))] [(.ite (.cmp .gt (.bi .len [(.var 2)]) (.int 0)) [(.exp (.app (.var 1) (.var 2))), (.asg (.name 2) (.lst []))] [])])]),
  (.ite (.cmp .gt (.bi .len [(.var 2)]) (.int 0)) [(.exp (.app (.var 1) (.var 2)))] []),
  (.ret (.var 1))]⟩
end LawT
namespace LawT
open Lt
open PySem (Str)
end LawT
namespace LawT
open Lt
open PySem (Str)
end LawT
namespace LawT
open Lt
open PySem (Str)
end LawT
namespace LawT
open Lt
open PySem (Str)
end LawT
namespace LawT
open Lt
open PySem (Str)
def b_farthest : List St := [
  (.asg (.name 3) .non),
  (.asg (.name 4) (.call "line_by" [(.call "slope" [(.idx (.var 0) (.var 1)), (.idx (.var 0) (.var 2))]), (.idx (.var 0) (.var 1))])),
  (.forS (.name 5) (.rng2 (.bin .add (.var 1) (.int 1)) (.var 2)) [(.asg (.name 6) (.call "size" [(.call "off" [(.var 4), (.idx (.var 0) (.var 5))])])), (.ite (.or (.isN (.var 3)) (.cmp .lt (.call "order" [(.idx (.var 3) (.int 1)), (.var 6)]) (.int 0))) [(.asg (.name 3) (.tup [(.var 5), (.var 6)]))] [])]),
  (.ret (.var 3))]
def b__law_handed : List St := [
  (.asg (.name 2) (.lst [])),
  (.forS (.tup [3, 4]) (.seq (.var 0)) [(.ite (.isN (.var 4)) [(.exp (.app (.var 2) (.tup [(.var 3), .non])))] [(.exp (.app (.var 2) (.tup [(.var 3), (.call "_law_ratio" [(.var 4), (.var 1)])])))])]),
  (.ret (.var 2))]
end LawT
namespace LawT
open Lt
open PySem (Str)
def b_far_table : List St := [
  (.asg (.name 1) (.dic true)),
  (.forS (.name 2) (.rng (.bi .len [(.var 0)])) [(.forS (.name 3) (.rng2 (.bin .add (.var 2) (.int 2)) (.bi .len [(.var 0)])) [(.dst (.var 1) (.tup [(.var 2), (.var 3)]) (.call "farthest" [(.var 0), (.var 2), (.var 3)]))])]),
  (.ret (.var 1))]
def b_end_place : List St := [
  (.ite (.var 1) [(.ret (.var 0))] []),
  (.ret (.bin .sub (.var 0) (.int 1)))]
def b_leads : List St := [
  (.asg (.name 5) (.get1 (.var 0) (.tup [(.var 1), (.call "end_place" [(.var 2), (.var 4)])]))),
  (.ret (.or (.isN (.var 5)) (.cmp .le (.call "order" [(.idx (.var 5) (.int 1)), (.var 3)]) (.int 0))))]
def b_labels_by : List St := [
  (.asg (.name 4) (.lst [(.int 0)])),
  (.forS (.name 5) (.rng2 (.int 1) (.var 1)) [(.asg (.name 6) (.bin .add (.idx (.var 4) (.bin .sub (.var 5) (.int 1))) (.int 1))), (.forS (.name 7) (.rng (.bin .sub (.var 5) (.int 1))) [(.ite (.and (.cmp .lt (.bin .add (.idx (.var 4) (.var 7)) (.int 1)) (.var 6)) (.call "leads" [(.var 0), (.var 7), (.var 5), (.var 2), (.var 3)])) [(.asg (.name 6) (.bin .add (.idx (.var 4) (.var 7)) (.int 1)))] [])]), (.exp (.app (.var 4) (.var 6)))]),
  (.ret (.var 4))]
def b_places_of : List St := [
  (.ite (.var 1) [(.ret (.bi .len [(.var 0)]))] []),
  (.ret (.bin .add (.bi .len [(.var 0)]) (.int 1)))]
end LawT
namespace LawT
open Lt
open PySem (Str)
def b_bars_by : List St := [
  (.asg (.name 4) (.lst [])),
  (.forS (.name 5) (.rng (.bi .len [(.var 2)])) [(.forS (.name 6) (.rng2 (.bin .add (.var 5) (.int 1)) (.bi .len [(.var 2)])) [(.ite (.cmp .gt (.idx (.var 2) (.var 6)) (.bin .add (.idx (.var 2) (.var 5)) (.int 1))) [(.asg (.name 7) (.call "end_place" [(.var 6), (.var 3)])), (.asg (.name 8) (.idx (.dgt (.var 1) (.tup [(.var 5), (.var 7)])) (.int 0))), (.exp (.app (.var 4) (.tup [(.idx (.idx (.var 0) (.var 5)) (.int 0)), (.idx (.idx (.var 0) (.var 8)) (.int 0)), (.idx (.idx (.var 0) (.var 7)) (.int 0))])))] [])])]),
  (.ret (.var 4))]
end LawT
namespace LawT
open Lt
open PySem (Str)
def b_begin_of : List St := [
  (.asg (.name 5) (.int 0)),
  (.whl (.or (.cmp .ne (.bin .add (.idx (.var 1) (.var 5)) (.int 1)) (.idx (.var 1) (.var 2))) (.not (.call "leads" [(.var 0), (.var 5), (.var 2), (.var 3), (.var 4)]))) [(.asg (.name 5) (.bin .add (.var 5) (.int 1)))]),
  (.ret (.var 5))]
def b_run_pieces : List St := [
  (.asg (.name 5) (.lst [])),
  (.asg (.name 6) (.bin .sub (.bi .len [(.var 2)]) (.int 1))),
  (.ite (.cmp .eq (.var 6) (.int 0)) [(.exp (.app (.var 5) (.call "piece_between" [(.idx (.var 0) (.int 0)), (.idx (.var 0) (.int 0))])))] []),
  (.whl (.cmp .gt (.var 6) (.int 0)) [(.asg (.name 7) (.call "begin_of" [(.var 1), (.var 2), (.var 6), (.var 3), (.var 4)])), (.exp (.app (.var 5) (.call "piece_between" [(.idx (.var 0) (.var 7)), (.idx (.var 0) (.call "end_place" [(.var 6), (.var 4)]))]))), (.asg (.name 6) (.var 7))]),
  (.ret (.rev (.var 5)))]
def b_piece_between : List St := [
  (.ret (.tup [(.tup [(.idx (.var 0) (.int 0)), (.int 1)]), (.idx (.var 0) (.int 1)), (.tup [(.idx (.var 1) (.int 0)), (.int 1)]), (.idx (.var 1) (.int 1))]))]
def b_told_by : List St := [
  (.asg (.name 3) (.lst [])),
  (.asg (.name 4) (.lst [])),
  (.forS (.name 5) (.seq (.call "runs" [(.var 0)])) [(.asg (.name 6) (.call "far_table" [(.var 5)])), (.asg (.name 7) (.call "labels_by" [(.var 6), (.call "places_of" [(.var 5), (.var 2)]), (.var 1), (.var 2)])), (.exp (.ext (.var 3) (.call "run_pieces" [(.var 5), (.var 6), (.var 7), (.var 1), (.var 2)]))), (.exp (.app (.var 4) (.tup [(.var 7), (.call "bars_by" [(.var 5), (.var 6), (.var 7), (.var 2)])])))]),
  (.ret (.tup [(.var 3), (.var 4)]))]
def b_spans : List St := [
  (.ret (.call "told_by" [(.var 0), (.var 1), (.bl false)]))]
def b_chain : List St := [
  (.ret (.call "told_by" [(.var 0), (.var 1), (.bl true)]))]
end LawT
namespace LawT
open Lt
open PySem (Str)
end LawT
namespace LawT
open Lt
open PySem (Str)
end LawT
namespace LawT
open Lt
open PySem (Str)
end LawT
namespace LawT
open Lt
open PySem (Str)
end LawT
namespace LawT
open Lt
open PySem (Str)
end LawT
namespace LawT
open Lt
open PySem (Str)
end LawT
namespace LawT
open Lt
open PySem (Str)
end LawT
namespace LawT
open Lt
open PySem (Str)
end LawT
namespace LawT
open Lt
open PySem (Str)
end LawT
namespace LawT
open Lt
open PySem (Str)
end LawT
namespace LawT
open Lt
open PySem (Str)
end LawT
namespace LawT
open Lt
open PySem (Str)
end LawT
namespace LawT
open Lt
open PySem (Str)
end LawT
namespace LawT
open Lt
open PySem (Str)
end LawT
set_option maxRecDepth 100000
set_option maxHeartbeats 0
namespace LawT
open Lt
open PySem (Str)
def d_farthest : Def := ⟨["samples", "first", "last"], ["samples", "first", "last", "told", "chord", "place", "far"], [], b_farthest⟩
def d_far_table : Def := ⟨["samples"], ["samples", "table", "first", "last"], [], b_far_table⟩
def d_end_place : Def := ⟨["at", "tied"], ["at", "tied"], [], b_end_place⟩
def d_leads : Def := ⟨["table", "start", "at", "bound", "tied"], ["table", "start", "at", "bound", "tied", "found"], [], b_leads⟩
def d_labels_by : Def := ⟨["table", "count", "bound", "tied"], ["table", "count", "bound", "tied", "told", "at", "fewest", "start"], [], b_labels_by⟩
def d_places_of : Def := ⟨["samples", "tied"], ["samples", "tied"], [], b_places_of⟩
def d_bars_by : Def := ⟨["samples", "table", "numbers", "tied"], ["samples", "table", "numbers", "tied", "told", "start", "at", "last", "place"], [], b_bars_by⟩
def d_piece_between : Def := ⟨["one", "other"], ["one", "other"], [], b_piece_between⟩
def d_begin_of : Def := ⟨["table", "numbers", "at", "bound", "tied"], ["table", "numbers", "at", "bound", "tied", "start"], [], b_begin_of⟩
def d_run_pieces : Def := ⟨["samples", "table", "numbers", "bound", "tied"], ["samples", "table", "numbers", "bound", "tied", "pieces", "at", "start"], [], b_run_pieces⟩
def d_told_by : Def := ⟨["row", "bound", "tied"], ["row", "bound", "tied", "telling", "paper", "samples", "table", "numbers"], [], b_told_by⟩
def d_spans : Def := ⟨["row", "bound"], ["row", "bound"], [], b_spans⟩
def d_chain : Def := ⟨["row", "bound"], ["row", "bound"], [], b_chain⟩
def d__law_handed : Def := ⟨["_law_row_here", "_law_bottom"], ["_law_row_here", "_law_bottom", "_law_handed_here", "_law_moment", "_law_number"], [], b__law_handed⟩
def d__law_planted : Def := ⟨["_law_some", "_law_tied", "_law_bound", "_law_scale"], ["_law_some", "_law_tied", "_law_bound", "_law_scale", "_law_moment", "_law_up", "_law_row_here", "_law_k", "_law_at", "_law_begin", "_law_steep", "_law_count_here", "_law_j", "_law_push"], [], [
  (.asg (.name 4) (.idx (.lst [(.int 0), (.neg (.int 5)), (.int 1000003), (.neg (.bin .pow (.int 10) (.int 12)))]) (.idx (.var 0) (.int 1)))),
  (.asg (.name 5) (.int 0)),
  (.asg (.name 6) (.lst [])),
  (.forS (.name 7) (.rng (.bin .add (.int 1) (.idx (.var 0) (.int 0)))) [(.asg (.name 8) (.bin .add (.int 6) (.bin .mul (.int 11) (.var 7)))), (.ite (.and (.cmp .eq (.idx (.var 0) (.var 8)) (.int 0)) (.cmp .gt (.var 7) (.int 0))) [(.asg (.name 4) (.bin .add (.var 4) (.int 1))), (.exp (.app (.var 6) (.tup [(.var 4), .non])))] []), (.ite (.or (.cmp .eq (.idx (.var 0) (.var 8)) (.int 0)) (.or (.cmp .eq (.var 7) (.int 0)) (.not (.var 1)))) [(.asg (.name 4) (.bin .add (.bin .add (.var 4) (.int 1)) (.idx (.var 0) (.bin .add (.var 8) (.int 1))))), (.asg (.name 5) (.bin .add (.var 5) (.bin .mul (.bin .sub (.idx (.var 0) (.bin .add (.var 8) (.int 2))) (.int 6)) (.var 3)))), (.exp (.app (.var 6) (.tup [(.var 4), (.var 5)])))] []), (.asg (.name 9) (.idx (.var 6) (.neg (.int 1)))), (.asg (.name 10) (.bin .mul (.bin .sub (.idx (.var 0) (.bin .add (.var 8) (.int 4))) (.int 6)) (.var 3))), (.asg (.name 11) (.bin .add (.idx (.var 0) (.bin .add (.var 8) (.int 3))) (.bi .int [(.var 1)]))), (.forS (.name 12) (.rng (.var 11)) [(.asg (.name 4) (.bin .add (.var 4) (.bin .mul (.bin .add (.int 1) (.idx (.var 0) (.bin .add (.bin .add (.var 8) (.int 5)) (.bin .mul (.int 2) (.var 12))))) (.idx (.lst [(.int 1), (.int 1), (.int 1009)]) (.idx (.var 0) (.int 4)))))), (.asg (.name 5) (.bin .add (.idx (.var 9) (.int 1)) (.bin .mul (.var 10) (.bin .sub (.var 4) (.idx (.var 9) (.int 0)))))), (.asg (.name 13) (.int 0)), (.ite (.cmp .lt (.var 12) (.bin .sub (.var 11) (.int 1))) [(.asg (.name 13) (.bin .fdiv (.bin .mul (.bin .sub (.idx (.var 0) (.bin .add (.bin .add (.var 8) (.int 6)) (.bin .mul (.int 2) (.var 12)))) (.int 3)) (.var 2)) (.int 3)))] []), (.exp (.app (.var 6) (.tup [(.var 4), (.bin .add (.var 5) (.var 13))])))])]),
  (.ret (.var 6))]⟩
def d__law_exact : Def := ⟨["_law_some"], ["_law_some", "_law_count_here", "_law_k", "_law_at"], [], [
  (.asg (.name 1) (.bin .add (.int 1) (.idx (.var 0) (.int 0)))),
  (.forS (.name 2) (.rng2 (.int 1) (.bin .add (.int 1) (.idx (.var 0) (.int 0)))) [(.asg (.name 3) (.bin .add (.int 6) (.bin .mul (.int 11) (.var 2)))), (.ite (.and (.cmp .gt (.idx (.var 0) (.var 3)) (.int 0)) (.cmp .eq (.idx (.var 0) (.bin .add (.var 3) (.int 4))) (.idx (.var 0) (.bin .sub (.var 3) (.int 7))))) [(.asg (.name 1) (.bin .sub (.var 1) (.int 1)))] [])]),
  (.ret (.var 1))]⟩
def d__law_count : Def := ⟨["_law_row_here", "_law_bound", "_law_tied"], ["_law_row_here", "_law_bound", "_law_tied"], [], [
  (.ite (.var 2) [(.ret (.bi .len [(.idx (.call "chain" [(.var 0), (.var 1)]) (.int 0))]))] []),
  (.ret (.bi .len [(.idx (.call "spans" [(.var 0), (.var 1)]) (.int 0))]))]⟩
def d_law : Def := ⟨["_law_script"], ["_law_script", "_law_tied", "_law_some", "_law_scale", "_law_bound", "_law_row_here", "_law_handed_here", "_law_within", "_law_count_here", "_law_one"], [], [
  (.asg (.name 1) (.cmp .eq (.idx (.call "_law_row" [(.var 0), (.int 1), (.lst [(.int 2)])]) (.int 0)) (.int 0))),
  (.asg (.name 2) (.call "_law_row" [(.var 0), (.int 0), (.bin .add (.lst [(.int 8), (.int 4), (.int 4), (.int 7), (.int 3), (.int 12)]) (.bin .mul (.lst [(.int 5), (.int 3), (.int 13), (.int 3), (.int 13), (.int 3), (.int 7), (.int 3), (.int 7), (.int 3), (.int 7)]) (.int 8)))])),
  (.asg (.name 3) (.idx (.lst [(.int 1), (.int 7), (.bin .pow (.int 10) (.int 6)), (.bin .add (.bin .pow (.int 10) (.int 12)) (.int 39))]) (.idx (.var 2) (.int 2)))),
  (.asg (.name 4) (.bin .mul (.idx (.var 2) (.int 3)) (.var 3))),
  (.asg (.name 5) (.call "_law_planted" [(.var 2), (.var 1), (.var 4), (.var 3)])),
  (.asg (.name 6) (.call "_law_handed" [(.var 5), (.bin .add (.int 1) (.idx (.var 2) (.int 5)))])),
  (.asg (.name 7) (.call "_law_ratio" [(.var 4), (.bin .add (.int 1) (.idx (.var 2) (.int 5)))])),
  (.asg (.name 8) (.call "_law_count" [(.var 6), (.var 7), (.var 1)])),
  (.ite (.or (.cmp .gt (.var 8) (.bin .add (.int 1) (.idx (.var 2) (.int 0)))) (.cmp .lt (.var 8) (.bin .add (.int 1) (.bi .len [(.lcI [9] (.name 9) (.seq (.var 5)) (.isN (.idx (.var 9) (.int 1))) (.var 9))])))) [(.ret (.bl false))] []),
  (.ite (.and (.var 1) (.and (.cmp .eq (.var 4) (.int 0)) (.cmp .ne (.var 8) (.call "_law_exact" [(.var 2)])))) [(.ret (.bl false))] []),
  (.ite (.and (.cmp .lt (.idx (.var 2) (.int 0)) (.int 4)) (.cmp .ne (.call "_law_count" [(.var 6), (.var 7), (.var 1)]) (.var 8))) [(.ret (.bl false))] []),
  (.ret (.cmp .eq (.var 6) (.call "_law_handed" [(.var 5), (.bin .add (.int 1) (.idx (.var 2) (.int 5)))])))]⟩
def prog : Prog := ⟨([("common", a_common), ("ratio", a_ratio), ("plus", a_plus), ("minus", a_minus), ("times", a_times), ("over", a_over), ("order", a_order), ("size", a_size), ("runs", a_runs), ("slope", a_slope), ("line_by", a_line_by), ("height", a_height), ("off", a_off), ("farthest", d_farthest), ("far_table", d_far_table), ("end_place", d_end_place), ("leads", d_leads), ("labels_by", d_labels_by), ("places_of", d_places_of), ("bars_by", d_bars_by)] : List (Str × Def)) ++ ([("piece_between", d_piece_between), ("begin_of", d_begin_of), ("run_pieces", d_run_pieces), ("told_by", d_told_by), ("spans", d_spans), ("chain", d_chain), ("_law_cell", a__law_cell), ("_law_mix", a__law_mix), ("_law_row", a__law_row), ("_law_ratio", a__law_ratio), ("_law_handed", d__law_handed), ("_law_planted", d__law_planted), ("_law_exact", d__law_exact), ("_law_count", d__law_count), ("law", d_law)] : List (Str × Def)), ([] : List (Str × D)), ([("NoRatio", [("NoRatio", true)])] : List (Str × List (Str × Bool))), ([] : List (Str × List Str × List (Str × Str))), ([] : List (Str × List (Str × Bool))), ([] : List (Str × List (Str × Bool)))⟩
theorem lk_common : prog.defs.lookup ("common" : Str) = some a_common := by kernel_rfl
theorem lk_ratio : prog.defs.lookup ("ratio" : Str) = some a_ratio := by kernel_rfl
theorem lk_plus : prog.defs.lookup ("plus" : Str) = some a_plus := by kernel_rfl
theorem lk_minus : prog.defs.lookup ("minus" : Str) = some a_minus := by kernel_rfl
theorem lk_times : prog.defs.lookup ("times" : Str) = some a_times := by kernel_rfl
theorem lk_over : prog.defs.lookup ("over" : Str) = some a_over := by kernel_rfl
theorem lk_order : prog.defs.lookup ("order" : Str) = some a_order := by kernel_rfl
theorem lk_size : prog.defs.lookup ("size" : Str) = some a_size := by kernel_rfl
theorem lk_runs : prog.defs.lookup ("runs" : Str) = some a_runs := by kernel_rfl
theorem lk_slope : prog.defs.lookup ("slope" : Str) = some a_slope := by kernel_rfl
theorem lk_line_by : prog.defs.lookup ("line_by" : Str) = some a_line_by := by kernel_rfl
theorem lk_height : prog.defs.lookup ("height" : Str) = some a_height := by kernel_rfl
theorem lk_off : prog.defs.lookup ("off" : Str) = some a_off := by kernel_rfl
theorem lk_farthest : prog.defs.lookup ("farthest" : Str) = some d_farthest := by kernel_rfl
theorem lk_far_table : prog.defs.lookup ("far_table" : Str) = some d_far_table := by kernel_rfl
theorem lk_end_place : prog.defs.lookup ("end_place" : Str) = some d_end_place := by kernel_rfl
theorem lk_leads : prog.defs.lookup ("leads" : Str) = some d_leads := by kernel_rfl
theorem lk_labels_by : prog.defs.lookup ("labels_by" : Str) = some d_labels_by := by kernel_rfl
theorem lk_places_of : prog.defs.lookup ("places_of" : Str) = some d_places_of := by kernel_rfl
theorem lk_bars_by : prog.defs.lookup ("bars_by" : Str) = some d_bars_by := by kernel_rfl
theorem lk_piece_between : prog.defs.lookup ("piece_between" : Str) = some d_piece_between := by kernel_rfl
theorem lk_begin_of : prog.defs.lookup ("begin_of" : Str) = some d_begin_of := by kernel_rfl
theorem lk_run_pieces : prog.defs.lookup ("run_pieces" : Str) = some d_run_pieces := by kernel_rfl
theorem lk_told_by : prog.defs.lookup ("told_by" : Str) = some d_told_by := by kernel_rfl
theorem lk_spans : prog.defs.lookup ("spans" : Str) = some d_spans := by kernel_rfl
theorem lk_chain : prog.defs.lookup ("chain" : Str) = some d_chain := by kernel_rfl
theorem lk__law_cell : prog.defs.lookup ("_law_cell" : Str) = some a__law_cell := by kernel_rfl
theorem lk__law_mix : prog.defs.lookup ("_law_mix" : Str) = some a__law_mix := by kernel_rfl
theorem lk__law_row : prog.defs.lookup ("_law_row" : Str) = some a__law_row := by kernel_rfl
theorem lk__law_ratio : prog.defs.lookup ("_law_ratio" : Str) = some a__law_ratio := by kernel_rfl
theorem lk__law_handed : prog.defs.lookup ("_law_handed" : Str) = some d__law_handed := by kernel_rfl
theorem lk__law_planted : prog.defs.lookup ("_law_planted" : Str) = some d__law_planted := by kernel_rfl
theorem lk__law_exact : prog.defs.lookup ("_law_exact" : Str) = some d__law_exact := by kernel_rfl
theorem lk__law_count : prog.defs.lookup ("_law_count" : Str) = some d__law_count := by kernel_rfl
theorem lk_law : prog.defs.lookup ("law" : Str) = some d_law := by kernel_rfl
end LawT
namespace LawH
open PySem PySem.Spec PyProof.Rows L2
def top (i : Nat) : Stmt := PySem.Challenge.pw_lath_k58_planted_ways.main.body.getD i (.Pass ⟨0, 0, 0, 0⟩)
def fn : List He.DefD := ([⟨("common", none), "common", "common", defArgs (top 4), defBody (top 4), defScope (top 4), [], []⟩, ⟨("ratio", none), "ratio", "ratio", defArgs (top 5), defBody (top 5), defScope (top 5), [], []⟩, ⟨("plus", none), "plus", "plus", defArgs (top 6), defBody (top 6), defScope (top 6), [], []⟩, ⟨("minus", none), "minus", "minus", defArgs (top 7), defBody (top 7), defScope (top 7), [], []⟩, ⟨("times", none), "times", "times", defArgs (top 8), defBody (top 8), defScope (top 8), [], []⟩, ⟨("over", none), "over", "over", defArgs (top 9), defBody (top 9), defScope (top 9), [], []⟩, ⟨("order", none), "order", "order", defArgs (top 10), defBody (top 10), defScope (top 10), [], []⟩, ⟨("size", none), "size", "size", defArgs (top 11), defBody (top 11), defScope (top 11), [], []⟩, ⟨("runs", none), "runs", "runs", defArgs (top 13), defBody (top 13), defScope (top 13), [], []⟩, ⟨("slope", none), "slope", "slope", defArgs (top 15), defBody (top 15), defScope (top 15), [], []⟩, ⟨("line_by", none), "line_by", "line_by", defArgs (top 16), defBody (top 16), defScope (top 16), [], []⟩, ⟨("height", none), "height", "height", defArgs (top 17), defBody (top 17), defScope (top 17), [], []⟩, ⟨("off", none), "off", "off", defArgs (top 18), defBody (top 18), defScope (top 18), [], []⟩, ⟨("farthest", none), "farthest", "farthest", defArgs (top 20), defBody (top 20), defScope (top 20), [], []⟩, ⟨("far_table", none), "far_table", "far_table", defArgs (top 21), defBody (top 21), defScope (top 21), [], []⟩, ⟨("end_place", none), "end_place", "end_place", defArgs (top 22), defBody (top 22), defScope (top 22), [], []⟩, ⟨("leads", none), "leads", "leads", defArgs (top 23), defBody (top 23), defScope (top 23), [], []⟩, ⟨("labels_by", none), "labels_by", "labels_by", defArgs (top 24), defBody (top 24), defScope (top 24), [], []⟩, ⟨("places_of", none), "places_of", "places_of", defArgs (top 25), defBody (top 25), defScope (top 25), [], []⟩, ⟨("bars_by", none), "bars_by", "bars_by", defArgs (top 26), defBody (top 26), defScope (top 26), [], []⟩] : List He.DefD) ++ ([⟨("piece_between", none), "piece_between", "piece_between", defArgs (top 28), defBody (top 28), defScope (top 28), [], []⟩, ⟨("begin_of", none), "begin_of", "begin_of", defArgs (top 29), defBody (top 29), defScope (top 29), [], []⟩, ⟨("run_pieces", none), "run_pieces", "run_pieces", defArgs (top 30), defBody (top 30), defScope (top 30), [], []⟩, ⟨("told_by", none), "told_by", "told_by", defArgs (top 31), defBody (top 31), defScope (top 31), [], []⟩, ⟨("spans", none), "spans", "spans", defArgs (top 32), defBody (top 32), defScope (top 32), [], []⟩, ⟨("chain", none), "chain", "chain", defArgs (top 33), defBody (top 33), defScope (top 33), [], []⟩, ⟨("_law_cell", none), "_law_cell", "_law_cell", defArgs (top 35), defBody (top 35), defScope (top 35), [], []⟩, ⟨("_law_mix", none), "_law_mix", "_law_mix", defArgs (top 36), defBody (top 36), defScope (top 36), [], []⟩, ⟨("_law_row", none), "_law_row", "_law_row", defArgs (top 37), defBody (top 37), defScope (top 37), [], []⟩, ⟨("_law_ratio", none), "_law_ratio", "_law_ratio", defArgs (top 38), defBody (top 38), defScope (top 38), [], []⟩, ⟨("_law_handed", none), "_law_handed", "_law_handed", defArgs (top 39), defBody (top 39), defScope (top 39), [], []⟩, ⟨("_law_planted", none), "_law_planted", "_law_planted", defArgs (top 40), defBody (top 40), defScope (top 40), [], []⟩, ⟨("_law_exact", none), "_law_exact", "_law_exact", defArgs (top 41), defBody (top 41), defScope (top 41), [], []⟩, ⟨("_law_count", none), "_law_count", "_law_count", defArgs (top 42), defBody (top 42), defScope (top 42), [], []⟩, ⟨("law", none), "law", "law", defArgs (top 43), defBody (top 43), defScope (top 43), [], []⟩] : List He.DefD)
def fa : List He.Fa := ([.glo "common", .glo "ratio", .glo "plus", .glo "minus", .glo "times", .glo "over", .glo "order", .glo "size", .glo "runs", .glo "slope", .glo "line_by", .glo "height", .glo "off", .glo "farthest", .glo "far_table", .glo "end_place", .glo "leads", .glo "labels_by", .glo "places_of", .glo "bars_by"] : List He.Fa) ++ ([.glo "piece_between", .glo "begin_of", .glo "run_pieces", .glo "told_by", .glo "spans", .glo "chain", .glo "_law_cell", .glo "_law_mix", .glo "_law_row", .glo "_law_ratio", .glo "_law_handed", .glo "_law_planted", .glo "_law_exact", .glo "_law_count", .glo "law", .free "abs", .free "len", .free "isinstance", .free "range", .free "int"] : List He.Fa) ++ ([.free "bool", .free "str", .free "tuple", .free "list", .free "sorted", .free "max", .free "min", .free "enumerate", .free "zip", .free "reversed", .glo "NoRatio", .exc "NoRatio", .exm "NoRatio" "NoRatio" true] : List He.Fa)
abbrev R : PySem.W.OpenRow := PySem.W.OpenLaw.row PySem.Challenge.rw_lath_k58_planted_ways
abbrev hk : PySem.W.Hook := Lt.hookL 4 fa fn (Lt.exP LawT.prog)
def ob (s : PySem.W.SharedT) : Lt.AlL := Lt.obsL 4 fa fn (Lt.exP LawT.prog) (HandSHeadRun.getT s)
theorem ob_eq (s : PySem.W.SharedT) : ob s = hk.obs s.abs := Lt.obsL_eq (HandSHeadRun.getT_eq s)
def names : List Str := (["LathError", "NoRatio", "common", "ratio", "plus", "minus", "times", "over", "order", "size", "runs", "slope", "line_by", "height", "off", "farthest", "far_table", "end_place", "leads", "labels_by"] : List Str) ++ (["places_of", "bars_by", "piece_between", "begin_of", "run_pieces", "told_by", "spans", "chain", "_law_cell", "_law_mix", "_law_row", "_law_ratio", "_law_handed", "_law_planted", "_law_exact", "_law_count"] : List Str)
theorem run (w : World) : HandSHeadRun.RunEq R (PySem.W.view R.prog [43]) hk ob 4000 names w := by
  intro os
  kernel_rfl
theorem checks : Lt.allB LawT.prog fa fn = true := by kernel_rfl
end LawH
namespace Lt
open PySem (Str)
/-- what an ending must meet -/
structure Zs where
  nx : Env → Store → Prop
  rt : D → Store → Prop
  bk : Env → Store → Prop := fun _ _ => False
  ex : Exc → Env → Store → Prop := fun _ _ _ => False
abbrev XP := Exc → Store → Prop
@[irreducible] def Wp {α : Type} (r : R α) (E : XP) (Q : α → Store → Prop) : Prop := match r with
  | .ok a S => Q a S
  | .exc c S => E c S
  | .bad => False
@[irreducible] def WpS (r : SR) (Z : Zs) : Prop := match r with
  | .nx e S => Z.nx e S
  | .ret d S => Z.rt d S
  | .brk e S => Z.bk e S
  | .exc c e S => Z.ex c e S
  | .bad => False
section
variable {α β : Type} {r : R α} {E E' : XP} {Q Q' : α → Store → Prop} {Z Z' : Zs} {S S' : Store} {e e' : Env} {G : Cxt} {p : Prop} [Decidable p]
theorem wp_ok {a : α} : Wp (.ok a S) E Q = Q a S := by unfold Wp; rfl
theorem wp_exc {c : Exc} : Wp (.exc c S : R α) E Q = E c S := by unfold Wp; rfl
theorem wp_bad : Wp (.bad : R α) E Q = False := by unfold Wp; rfl
theorem Wp.mono (h : Wp r E Q) (m : ∀ a S, Q a S → Q' a S) (x : ∀ c S, E c S → E' c S) : Wp r E' Q' := by
  cases r with
  | ok a S => rw [wp_ok] at h ⊢; exact m a S h
  | exc c S => rw [wp_exc] at h ⊢; exact x c S h
  | bad => rw [wp_bad] at h; exact h.elim
theorem Wp.imp (h : Wp r E Q) (m : ∀ a S, Q a S → Q' a S) : Wp r E Q' := h.mono m fun _ _ h => h
theorem wpS_nx : WpS (.nx e S) Z = Z.nx e S := by unfold WpS; rfl
theorem wpS_ret {d : D} : WpS (.ret d S) Z = Z.rt d S := by unfold WpS; rfl
theorem wpS_brk : WpS (.brk e S) Z = Z.bk e S := by unfold WpS; rfl
theorem wpS_exc {c : Exc} : WpS (.exc c e S) Z = Z.ex c e S := by unfold WpS; rfl
theorem wpS_bad : WpS .bad Z = False := by unfold WpS; rfl
theorem WpS.mono {r : SR} (h : WpS r Z) (h1 : ∀ e S, Z.nx e S → Z'.nx e S) (h2 : ∀ d S, Z.rt d S → Z'.rt d S) (h3 : ∀ e S, Z.bk e S → Z'.bk e S) (h4 : ∀ c e S, Z.ex c e S → Z'.ex c e S) : WpS r Z' := by
  cases r with
  | nx e S => rw [wpS_nx] at h ⊢; exact h1 _ _ h
  | ret d S => rw [wpS_ret] at h ⊢; exact h2 _ _ h
  | brk e S => rw [wpS_brk] at h ⊢; exact h3 _ _ h
  | exc c e S => rw [wpS_exc] at h ⊢; exact h4 _ _ _ h
  | bad => rw [wpS_bad] at h; exact h.elim
theorem wp_bind {k : α → Store → R β} {Q : β → Store → Prop} : Wp (r.bind k) E Q = Wp r E fun a S => Wp (k a S) E Q := by
  cases r with
  | ok a S => rw [wp_ok]; rfl
  | exc c S => rw [wp_exc]; show Wp (.exc c S) E Q = _; rw [wp_exc]
  | bad => rw [wp_bad]; show Wp .bad E Q = _; rw [wp_bad]
theorem wp_ite {x y : R α} : Wp (if p then x else y) E Q = if p then Wp x E Q else Wp y E Q := by
  split <;> rfl
theorem wpS_ite {x y : SR} : WpS (if p then x else y) Z = if p then WpS x Z else WpS y Z := by
  split <;> rfl
theorem wpS_toS {k : α → Store → SR} : WpS (r.toS e k) Z = Wp r (fun c S => Z.ex c e S) fun a S => WpS (k a S) Z := by
  cases r with
  | ok a S => rw [wp_ok]; rfl
  | exc c S => rw [wp_exc]; show WpS (.exc c e S) Z = _; rw [wpS_exc]
  | bad => rw [wp_bad]; show WpS .bad Z = _; rw [wpS_bad]
def brR (x : D) (a b : R α) : R α := match x with
  | .bl true => a
  | .bl false => b
  | _ => .bad
def brS (x : D) (a b : SR) : SR := match x with
  | .bl true => a
  | .bl false => b
  | _ => .bad
def notR (x : D) (S : Store) : R D := match x with
  | .bl b => .ok (.bl (!b)) S
  | _ => .bad
def negR (x : D) (S : Store) : R D := match x with
  | .int i => .ok (.int (-i)) S
  | _ => .bad
theorem brR_bl {b : Bool} {x y : R α} : brR (.bl b) x y = if b = true then x else y := by cases b <;> rfl
theorem brS_bl {b : Bool} {x y : SR} : brS (.bl b) x y = if b = true then x else y := by cases b <;> rfl
theorem notR_bl {b : Bool} : notR (.bl b) S = .ok (.bl (!b)) S := rfl
theorem negR_int {i : Int} : negR (.int i) S = .ok (.int (-i)) S := rfl
theorem ev_int {i : Int} : ev G (.int i) e S = .ok (.int i) S := by simp only [ev]
theorem ev_str {s : Str} : ev G (.str s) e S = .ok (.str s) S := by simp only [ev]
theorem ev_bl {b : Bool} : ev G (.bl b) e S = .ok (.bl b) S := by simp only [ev]
theorem ev_non : ev G .non e S = .ok .non S := by simp only [ev]
def varR (x : Option (Option D)) (S : Store) : R D := match x with
  | some (some d) => .ok d S
  | _ => .bad
theorem ev_var {i : Nat} : ev G (.var i) e S = varR e[i]? S := by simp only [ev, varR]; try rfl
theorem varR_some {d : D} : varR (some (some d)) S = .ok d S := rfl
theorem ev_bin {o : Op} {a b : Ex} : ev G (.bin o a b) e S = (ev G a e S).bind fun x S => (ev G b e S).bind fun y S => binop o x y S := by simp only [ev]
theorem ev_neg {a : Ex} : ev G (.neg a) e S = (ev G a e S).bind negR := by
  simp only [ev]
  congr 1
theorem ev_not {a : Ex} : ev G (.not a) e S = (ev G a e S).bind notR := by
  simp only [ev]
  congr 1
theorem ev_and {a b : Ex} : ev G (.and a b) e S = (ev G a e S).bind fun x S => brR x (ev G b e S) (.ok (.bl false) S) := by
  simp only [ev]; rfl
theorem ev_or {a b : Ex} : ev G (.or a b) e S = (ev G a e S).bind fun x S => brR x (.ok (.bl true) S) (ev G b e S) := by
  simp only [ev]; rfl
theorem ev_cmp {o : Cm} {a b : Ex} : ev G (.cmp o a b) e S = (ev G a e S).bind fun x S => (ev G b e S).bind fun y S => cmpop o x y S := by simp only [ev]
theorem ev_chn4 {o1 o2 o3 : Cm} {a b c d : Ex} : ev G (.chn4 o1 o2 o3 a b c d) e S = (ev G a e S).bind fun x S => (ev G b e S).bind fun y S => (cmpop o1 x y S).bind fun k S => brR k ((ev G c e S).bind fun z S => (cmpop o2 y z S).bind fun k S => brR k ((ev G d e S).bind fun w S => cmpop o3 z w S) (.ok (.bl false) S)) (.ok (.bl false) S) := by
  simp only [ev]; rfl
theorem ev_chn {o1 o2 : Cm} {a b c : Ex} : ev G (.chn o1 o2 a b c) e S = (ev G a e S).bind fun x S => (ev G b e S).bind fun y S => (cmpop o1 x y S).bind fun k S => brR k ((ev G c e S).bind fun z S => cmpop o2 y z S) (.ok (.bl false) S) := by
  simp only [ev]; rfl
theorem ev_isN {a : Ex} : ev G (.isN a) e S = (ev G a e S).bind fun x S => .ok (.bl (isN x)) S := by simp only [ev]
theorem ev_ntN {a : Ex} : ev G (.ntN a) e S = (ev G a e S).bind fun x S => .ok (.bl (!isN x)) S := by simp only [ev]
theorem ev_ife {c a b : Ex} : ev G (.ife c a b) e S = (ev G c e S).bind fun x S => brR x (ev G a e S) (ev G b e S) := by
  simp only [ev]; rfl
theorem ev_tup {es : List Ex} : ev G (.tup es) e S = (evs G es e S).bind fun ds S => .ok (.tup ds) S := by simp only [ev]
theorem ev_lst {es : List Ex} : ev G (.lst es) e S = (evs G es e S).bind fun ds S => alloc (.lst ds) S := by simp only [ev]
theorem ev_idx {a i : Ex} : ev G (.idx a i) e S = (ev G a e S).bind fun x S => (ev G i e S).bind fun y S => item x y S := by simp only [ev]
theorem ev_slT {a b : Ex} : ev G (.slT a b) e S = (ev G a e S).bind fun x S => (ev G b e S).bind fun y S => slice x none (some y) S := by simp only [ev]
theorem ev_slF {a b : Ex} : ev G (.slF a b) e S = (ev G a e S).bind fun x S => (ev G b e S).bind fun y S => slice x (some y) none S := by simp only [ev]
theorem ev_slB {a b c : Ex} : ev G (.slB a b c) e S = (ev G a e S).bind fun x S => (ev G b e S).bind fun y S => if isInt y = true then (ev G c e S).bind fun z S => slice x (some y) (some z) S else .bad := by simp only [ev]
def revR (x : D) (S : Store) : R D := match lstOf S x with
  | some xs => alloc (.lst xs.reverse) S
  | none => .bad
theorem ev_rev {a : Ex} : ev G (.rev a) e S = (ev G a e S).bind revR := by
  simp only [ev]; congr 1
theorem ev_call {f : Str} {es : List Ex} : ev G (.call f es) e S = (evs G es e S).bind fun ds S => G.cl f ds S := by simp only [ev]
theorem ev_bi {b : Bi} {es : List Ex} : ev G (.bi b es) e S = (evs G es e S).bind fun ds S => biop b ds S := by simp only [ev]
def isIR (t : Ty) (x : D) (S : Store) : R D := match isTy S t x with
  | some b => .ok (.bl b) S
  | none => .bad
theorem ev_isI {a : Ex} {t : Ty} : ev G (.isI a t) e S = (ev G a e S).bind (isIR t) := by
  simp only [ev]; congr 1
theorem ev_app {o a : Ex} : ev G (.app o a) e S = (ev G o e S).bind fun x S => if isLst x S = true then (ev G a e S).bind fun y S => append x y S else .bad := by simp only [ev]
theorem ev_ext {o a : Ex} : ev G (.ext o a) e S = (ev G o e S).bind fun x S => if isLst x S = true then (ev G a e S).bind fun y S => extend x y S else .bad := by simp only [ev]
theorem ev_clr {o : Ex} : ev G (.clr o) e S = (ev G o e S).bind clear := by simp only [ev]
theorem ev_isB {a : Ex} {b : Bool} : ev G (.isB a b) e S = (ev G a e S).bind (isBR b) := by simp only [ev]
theorem ev_any : ev G .any e S = .bad := by simp only [ev]
theorem ev_chn5 {o1 o2 o3 o4 : Cm} {a b c d f : Ex} : ev G (.chn5 o1 o2 o3 o4 a b c d f) e S = (ev G a e S).bind fun x S => (ev G b e S).bind fun y S => (cmpop o1 x y S).bind fun k S => brR k ((ev G c e S).bind fun z S => (cmpop o2 y z S).bind fun k S => brR k ((ev G d e S).bind fun w S => (cmpop o3 z w S).bind fun k S => brR k ((ev G f e S).bind fun u S => cmpop o4 w u S) (.ok (.bl false) S)) (.ok (.bl false) S)) (.ok (.bl false) S) := by
  simp only [ev]; rfl
theorem ev_ntB {a : Ex} {b : Bool} : ev G (.ntB a b) e S = (ev G a e S).bind (ntBR b) := by simp only [ev]
theorem ntBR_bl {b c : Bool} : ntBR b (.bl c) S = .ok (.bl (!decide (c = b))) S := rfl
theorem ev_dicT : ev G (.dic true) e S = alloc (.dT []) S := by simp only [ev, if_true]
theorem ev_dicF : ev G (.dic false) e S = alloc (.dK []) S := by simp [ev]
theorem ev_dgt {o k : Ex} : ev G (.dgt o k) e S = (ev G o e S).bind fun x S => (ev G k e S).bind fun y S => dgtR x y S := by simp only [ev]
theorem ev_din {n : Bool} {o k : Ex} : ev G (.din n k o) e S = (ev G k e S).bind fun y S => (ev G o e S).bind fun x S => dinR n y x S := by simp only [ev]
theorem ev_get1 {o k : Ex} : ev G (.get1 o k) e S = (ev G o e S).bind fun x S => if isDct x S = true then (ev G k e S).bind fun y S => getR x y .non S else .bad := by simp only [ev]
theorem ev_get2 {o k d : Ex} : ev G (.get2 o k d) e S = (ev G o e S).bind fun x S => if isDct x S = true then (ev G k e S).bind fun y S => (ev G d e S).bind fun z S => getR x y z S else .bad := by simp only [ev]
theorem ev_dpop {o k : Ex} : ev G (.dpop o k) e S = (ev G o e S).bind fun x S => if isDct x S = true then (ev G k e S).bind fun y S => dpopR x y S else .bad := by simp only [ev]
theorem ev_ixo {o a : Ex} : ev G (.ixo o a) e S = (ev G o e S).bind fun x S => if isLst x S = true then (ev G a e S).bind fun y S => ixoR x y S else .bad := by simp only [ev]
theorem ev_ins {o i a : Ex} : ev G (.ins o i a) e S = (ev G o e S).bind fun x S => if isLst x S = true then (ev G i e S).bind fun j S => (ev G a e S).bind fun y S => insR x j y S else .bad := by simp only [ev]
theorem ev_pop0 {o : Ex} : ev G (.pop0 o) e S = (ev G o e S).bind pop0R := by simp only [ev]
theorem ev_pop1 {o i : Ex} : ev G (.pop1 o i) e S = (ev G o e S).bind fun x S => if isLst x S = true then (ev G i e S).bind fun j S => pop1R x j S else .bad := by simp only [ev]
theorem isBR_bl {b c : Bool} : isBR b (.bl c) S = .ok (.bl (decide (c = b))) S := rfl
theorem ev_fld {a : Ex} {C f : Str} : ev G (.fld a C f) e S = (ev G a e S).bind (fldR C f) := by simp only [ev]
theorem ev_mth {o : Ex} {C m key : Str} {es : List Ex} : ev G (.mth o C m key es) e S = (ev G o e S).bind fun x S => if insOk C m x S = true then (evs G es e S).bind fun ds S => G.cl key (x :: ds) S else .bad := by simp only [ev]
theorem ev_mk {C key : Str} {es : List Ex} : ev G (.mk C key es) e S = (evs G es e S).bind fun ds S => (G.cl key (.ref S.length :: ds) (S ++ [.ins C []])).bind (madeR S.length) := by simp only [ev]
theorem madeR_non {n : Nat} : madeR n .non S = .ok (.ref n) S := rfl
theorem ev_xis {i : Nat} {C : Str} : ev G (.xis i C) e S = xisR G.exc (fun x => G.isc x C) S := by simp only [ev]
theorem ev_xat {i : Nat} : ev G (.xat i) e S = xatR G.exc (fun x => (G.isc x x).isSome) S := by simp only [ev]
theorem ev_dsp {es : List Ex} : ev G (.dsp es) e S = (evs G es e S).bind dspR := by simp only [ev]
theorem ev_lc {own : List Nat} {t : Tg} {it : It} {el : Ex} : ev G (.lc own t it el) e S = (evI G it e S).bind fun j S => (lcGo t j none (ev G el) (wipeE e own) j.n 0 [] S).bind fun ds S => alloc (.lst ds) S := by simp only [ev]
theorem ev_lcI {own : List Nat} {t : Tg} {it : It} {c el : Ex} : ev G (.lcI own t it c el) e S = (evI G it e S).bind fun j S => (lcGo t j (some (ev G c)) (ev G el) (wipeE e own) j.n 0 [] S).bind fun ds S => alloc (.lst ds) S := by simp only [ev]
theorem evs_nil : evs G [] e S = .ok [] S := by simp only [evs]
theorem evs_cons {a : Ex} {l : List Ex} : evs G (a :: l) e S = (ev G a e S).bind fun x S => (evs G l e S).bind fun xs S => .ok (x :: xs) S := by simp only [evs]
def optR (x : Option α) (S : Store) : R α := match x with
  | some j => .ok j S
  | none => .bad
theorem optR_some {a : α} : optR (some a) S = .ok a S := rfl
theorem evI_seq {a : Ex} : evI G (.seq a) e S = (ev G a e S).bind fun x S => optR (seqItr x S) S := by
  simp only [evI]
  congr 1; funext x S
  cases seqItr x S <;> rfl
def rngR (x y : D) (S : Store) : R Itr := match x, y with
  | .int i, .int j => optR (rngItr i j) S
  | _, _ => .bad
theorem rngR_int {i j : Int} : rngR (.int i) (.int j) S = optR (rngItr i j) S := rfl
theorem evI_rng {a : Ex} : evI G (.rng a) e S = (ev G a e S).bind fun x S => rngR (.int 0) x S := by
  simp only [evI]
  congr 1
  funext x S
  cases x with
  | int i => show _ = optR (rngItr 0 i) S; simp only; cases rngItr 0 i <;> rfl
  | _ => rfl
theorem evI_rng2 {a b : Ex} : evI G (.rng2 a b) e S = (ev G a e S).bind fun x S => (ev G b e S).bind fun y S => rngR x y S := by
  simp only [evI]
  congr 1; funext x S
  congr 1; funext y S
  cases x with
  | int i => cases y with
    | int j => show _ = optR (rngItr i j) S; simp only; cases rngItr i j <;> rfl
    | _ => rfl
  | _ => rfl
theorem evI_enm {a : Ex} : evI G (.enm a) e S = (ev G a e S).bind fun x S => optR (lstItr x S (fun _ i => i) fun i d => .tup [.int i, d]) S := by
  simp only [evI]
  congr 1; funext x S
  cases lstItr x S (fun _ i => i) (fun i d => .tup [.int i, d]) <;> rfl
theorem evI_rvd {a : Ex} : evI G (.rvd a) e S = (ev G a e S).bind fun x S => optR (lstItr x S (fun n i => n - 1 - i) fun _ d => d) S := by
  simp only [evI]
  congr 1; funext x S
  cases lstItr x S (fun n i => n - 1 - i) (fun _ d => d) <;> rfl
theorem evI_zip {a b : Ex} : evI G (.zip a b) e S = (ev G a e S).bind fun x S => (ev G b e S).bind fun y S => optR (zipItr x y S) S := by
  simp only [evI]
  congr 1; funext x S
  congr 1; funext y S
  cases zipItr x y S <;> rfl
def bindS (t : Tg) (d : D) (e : Env) (S : Store) : SR := match bindT t d e S with
  | some e1 => .nx e1 S
  | none => .bad
theorem exS_asg {t : Tg} {a : Ex} : exS G (.asg t a) e S = (ev G a e S).toS e fun d S => bindS t d e S := by
  simp only [exS]; rfl
theorem bindS_name {i : Nat} {d : D} : bindS (.name i) d e S = if i < e.length then .nx (e.set i (some d)) S else .bad := by
  unfold bindS
  simp only [bindT]
  by_cases h : i < e.length
  · rw [if_pos h, if_pos h]
  · rw [if_neg h, if_neg h]
def unpR (is : List Nat) (x : Option (List D)) (e : Env) (S : Store) : SR := match x with
  | some xs => if xs.length = is.length then (match setAll is xs e with
    | some e1 => .nx e1 S
    | none => .bad) else .bad
  | none => .bad
theorem bindS_tup {is : List Nat} {d : D} : bindS (.tup is) d e S = unpR is (seqOf S d) e S := by
  unfold bindS unpR
  simp only [bindT]
  cases seqOf S d with
  | none => rfl
  | some xs =>
    simp only
    by_cases h : xs.length = is.length
    · rw [if_pos h, if_pos h]
    · rw [if_neg h, if_neg h]
theorem unpR_2 {i j : Nat} {x y : D} (h : i < e.length ∧ j < e.length) : unpR [i, j] (some [x, y]) e S = .nx ((e.set i (some x)).set j (some y)) S := by
  unfold unpR
  simp [setAll, h.1, h.2]
theorem unpR_3 {i j k : Nat} {x y z : D} (h : i < e.length ∧ j < e.length ∧ k < e.length) : unpR [i, j, k] (some [x, y, z]) e S = .nx (((e.set i (some x)).set j (some y)).set k (some z)) S := by
  unfold unpR
  simp [setAll, h.1, h.2.1, h.2.2]
theorem unpR_4 {i j k l : Nat} {x y z w : D} (h : i < e.length ∧ j < e.length ∧ k < e.length ∧ l < e.length) : unpR [i, j, k, l] (some [x, y, z, w]) e S = .nx ((((e.set i (some x)).set j (some y)).set k (some z)).set l (some w)) S := by
  unfold unpR
  simp [setAll, h.1, h.2.1, h.2.2.1, h.2.2.2]
theorem exS_par {i j : Nat} {a b : Ex} : exS G (.par i j a b) e S = (ev G a e S).toS e fun x S1 => (ev G b e S1).toS e fun y S2 => if i < e.length ∧ j < e.length then .nx ((e.set i (some x)).set j (some y)) S2 else .bad := by simp only [exS]
theorem exS_sub {o i a : Ex} : exS G (.sub o i a) e S = (ev G a e S).toS e fun v S1 => (ev G o e S1).toS e fun x S2 => (ev G i e S2).toS e fun k S3 => (setItem x k v S3).toS e fun _ S4 => .nx e S4 := by simp only [exS]
theorem exS_exp {a : Ex} : exS G (.exp a) e S = (ev G a e S).toS e fun _ S1 => .nx e S1 := by simp only [exS]
theorem exS_ite {c : Ex} {a b : List St} : exS G (.ite c a b) e S = (ev G c e S).toS e fun x S1 => brS x (exB G a e S1) (exB G b e S1) := by
  simp only [exS]; rfl
theorem exS_for {t : Tg} {it : It} {b : List St} : exS G (.forS t it b) e S = (evI G it e S).toS e fun j S1 => forGo t j (exB G b) j.n 0 e S1 := by simp only [exS]
theorem exS_whl {c : Ex} {b : List St} : exS G (.whl c b) e S = whGo (ev G c) (exB G b) G.fuel e S := by simp only [exS]
theorem exS_ret {a : Ex} : exS G (.ret a) e S = (ev G a e S).toS e fun d S1 => .ret d S1 := by simp only [exS]
theorem exS_retN : exS G .retN e S = .ret .non S := by simp only [exS]
theorem exS_brk : exS G .brk e S = .brk e S := by simp only [exS]
theorem exS_pass : exS G .pass e S = .nx e S := by simp only [exS]
theorem exS_stf {o a : Ex} {C f : Str} : exS G (.stf o C f a) e S = (ev G a e S).toS e fun v S1 => (ev G o e S1).toS e fun x S2 => (stfR C f x v S2).toS e fun _ S3 => .nx e S3 := by simp only [exS]
theorem exS_any : exS G .any e S = .bad := by simp only [exS]
theorem exS_dst {o k a : Ex} : exS G (.dst o k a) e S = (ev G a e S).toS e fun v S1 => (ev G o e S1).toS e fun x S2 => (ev G k e S2).toS e fun y S3 => (dstR x y v S3).toS e fun _ S4 => .nx e S4 := by simp only [exS]
theorem exS_rai {C : Str} : exS G (.rai C) e S = .exc ⟨C, none⟩ e S := by simp only [exS]
theorem wp_try {b : List St} {C : Str} {a : Ex} : WpS (exS G (.tryC b C a) e S) Z = WpS (exB G b e S) { Z with ex := fun c e1 S1 => (G.sub c.cls C = some true ∧ Wp (ev G a e1 S1) (fun _ _ => False) Z.rt) ∨ (G.sub c.cls C = some false ∧ Z.ex c e1 S1) } := by
  simp only [exS]
  cases exB G b e S with
  | nx e S => simp only [wpS_nx]
  | ret d S => simp only [wpS_ret]
  | brk e S => simp only [wpS_brk]
  | bad => simp only [wpS_bad]
  | exc c e1 S1 =>
    simp only [wpS_exc]
    cases G.sub c.cls C with
    | none => simp only [wpS_bad]; simp
    | some x =>
      cases x with
      | false => simp [wpS_exc]
      | true => cases ev G a e1 S1 <;> simp [wp_ok, wp_exc, wp_bad, wpS_ret, wpS_bad]
theorem exS_raiA {C : Str} {a : Ex} : exS G (.raiA C a) e S = (ev G a e S).toS e fun d S1 => .exc ⟨C, some d⟩ e S1 := by simp only [exS]
theorem exS_par3 {i j l : Nat} {a b c : Ex} : exS G (.par3 i j l a b c) e S = (ev G a e S).toS e fun x S1 => (ev G b e S1).toS e fun y S2 => (ev G c e S2).toS e fun z S3 => if i < e.length ∧ j < e.length ∧ l < e.length then .nx (((e.set i (some x)).set j (some y)).set l (some z)) S3 else .bad := by simp only [exS]
theorem exB_nil : exB G [] e S = .nx e S := by simp only [exB]
theorem wp_cons {s : St} {l : List St} : WpS (exB G (s :: l) e S) Z = WpS (exS G s e S) { Z with nx := fun e S => WpS (exB G l e S) Z } := by
  rw [exB]
  cases exS G s e S with
  | nx e S => simp only [wpS_nx]
  | ret d S => simp only [wpS_ret]
  | brk e S => simp only [wpS_brk]
  | exc c e S => simp only [wpS_exc]
  | bad => simp only [wpS_bad]
theorem padD_all {m : Def} {ds : List D} (h : ds.length = m.ps.length) : padD m ds = ds := by
  unfold padD
  rw [h]
  simp
theorem wp_callD {P : Prog} {F k : Nat} {f : Str} {m : Def} {ds es : List D} {Q : D → Store → Prop} (h : P.defs.lookup f = some m) (hp : padD m ds = es) (hl : es.length = m.ps.length)
    (w : WpS (exB (P.cx F (callN P F k)) m.body (es.map some ++ List.replicate (m.ns.length - es.length) none) S) { nx := fun _ S => Q .non S, rt := Q, ex := fun c _ S => E c S }) : Wp (callN P F (k + 1) f ds S) E Q := by
  rw [callN, h]
  simp only
  rw [hp, if_pos hl]
  revert w
  cases exB (P.cx F (callN P F k)) m.body (es.map some ++ List.replicate (m.ns.length - es.length) none) S 
  · rw [wpS_nx]; exact fun w => by show Wp (.ok .non _) E Q; rw [wp_ok]; exact w
  · rw [wpS_ret]; exact fun w => by show Wp (.ok _ _) E Q; rw [wp_ok]; exact w
  · rw [wpS_brk]; exact fun w => w.elim
  · rw [wpS_exc]; exact fun w => by show Wp (.exc _ _) E Q; rw [wp_exc]; exact w
  · rw [wpS_bad]; exact fun w => w.elim
theorem wp_callN {P : Prog} {F k : Nat} {f : Str} {m : Def} {ds : List D} {Q : D → Store → Prop} (h : P.defs.lookup f = some m) (hl : ds.length = m.ps.length)
    (w : WpS (exB (P.cx F (callN P F k)) m.body (ds.map some ++ List.replicate (m.ns.length - ds.length) none) S) { nx := fun _ S => Q .non S, rt := Q, ex := fun c _ S => E c S }) : Wp (callN P F (k + 1) f ds S) E Q := wp_callD h (padD_all hl) hl w
theorem cx_cl {P : Prog} {F : Nat} {c : Str → List D → Store → R D} : (P.cx F c).cl = c := rfl
theorem cx_fuel {P : Prog} {F : Nat} {c : Str → List D → Store → R D} : (P.cx F c).fuel = F := rfl
theorem wh_rule {c : Env → Store → R D} {b : Env → Store → SR} (I : Env → Store → Prop) (m : Env → Store → Nat)
    (h : ∀ e S, I e S → Wp (c e S) (fun c S => Z.ex c e S) fun d S1 => (d = .bl true ∧ WpS (b e S1) { nx := fun e' S' => I e' S' ∧ m e' S' < m e S, rt := Z.rt, bk := Z.nx, ex := Z.ex }) ∨ (d = .bl false ∧ Z.nx e S1)) :
    ∀ (n : Nat) (e : Env) (S : Store), I e S → m e S < n → WpS (whGo c b n e S) Z
  | 0, _, _, _, hn => absurd hn (Nat.not_lt_zero _)
  | n + 1, e, S, i, hn => by
    unfold whGo
    rw [wpS_toS]
    refine (h e S i).imp fun d S1 h1 => ?_
    rcases h1 with ⟨rfl, h1⟩ | ⟨rfl, h1⟩
    · simp only
      cases hb : b e S1 with
      | nx e2 S2 =>
        rw [hb, wpS_nx] at h1
        exact wh_rule I m h n e2 S2 h1.1 (by omega)
      | ret d S2 => rw [hb, wpS_ret] at h1; rw [wpS_ret]; exact h1
      | brk e2 S2 => rw [hb, wpS_brk] at h1; rw [wpS_nx]; exact h1
      | exc c e2 S2 => rw [hb, wpS_exc] at h1; rw [wpS_exc]; exact h1
      | bad => rw [hb, wpS_bad] at h1; exact h1.elim
    · simp only; rw [wpS_nx]; exact h1
theorem for_rule {t : Tg} {it : Itr} {b : Env → Store → SR} (I : Nat → Env → Store → Prop) (N : Nat)
    (step : ∀ i e S, i < N → I i e S → ∃ d e1, it.at_ i S = some d ∧ bindT t d e S = some e1 ∧ WpS (b e1 S) { nx := I (i + 1), rt := Z.rt, bk := Z.nx, ex := Z.ex })
    (fin : ∀ e S, I N e S → it.fin S = true ∧ Z.nx e S) :
    ∀ (k i : Nat) (e : Env) (S : Store), i + k = N → I i e S → WpS (forGo t it b k i e S) Z
  | 0, i, e, S, hi, h => by
    have : i = N := by omega
    subst this
    unfold forGo
    obtain ⟨f1, f2⟩ := fin e S h
    rw [if_pos f1, wpS_nx]
    exact f2
  | k + 1, i, e, S, hi, h => by
    obtain ⟨d, e1, h1, h2, h3⟩ := step i e S (by omega) h
    unfold forGo
    rw [h1]
    simp only
    rw [h2]
    simp only
    cases hb : b e1 S with
    | nx e2 S2 =>
      rw [hb, wpS_nx] at h3
      exact for_rule I N step fin k (i + 1) e2 S2 (by omega) h3
    | ret d S2 => rw [hb, wpS_ret] at h3; simp only; rw [wpS_ret]; exact h3
    | brk e2 S2 => rw [hb, wpS_brk] at h3; simp only; rw [wpS_nx]; exact h3
    | exc c e2 S2 => rw [hb, wpS_exc] at h3; simp only; rw [wpS_exc]; exact h3
    | bad => rw [hb, wpS_bad] at h3; exact h3.elim
def Ext (S S' : Store) : Prop := ∃ T, S' = S ++ T
theorem Ext.refl : Ext S S := ⟨[], by simp⟩
theorem Ext.trans {S1 S2 S3 : Store} (a : Ext S1 S2) (b : Ext S2 S3) : Ext S1 S3 := by
  obtain ⟨T, rfl⟩ := a
  obtain ⟨T2, rfl⟩ := b
  exact ⟨T ++ T2, by simp⟩
theorem Ext.len (a : Ext S S') : S.length ≤ S'.length := by
  obtain ⟨T, rfl⟩ := a
  simp
theorem Ext.app {c : List Cell} (a : Ext S S') : Ext S (S' ++ c) := by
  obtain ⟨T, rfl⟩ := a
  exact ⟨T ++ c, by simp⟩
theorem Ext.one {c : List Cell} : Ext S (S ++ c) := ⟨c, rfl⟩
theorem Ext.set (a : Ext S S') {n : Nat} {c : Cell} (h : S.length ≤ n) : Ext S (S'.set n c) := by
  obtain ⟨T, rfl⟩ := a
  exact ⟨T.set (n - S.length) c, by rw [List.set_append_right _ _ h]⟩
theorem getL_lt {r : Nat} {xs : List D} (h : getL S r = some xs) : r < S.length := by
  unfold getL at h
  split at h
  · rename_i e; exact (List.getElem?_eq_some_iff.mp e).1
  · cases h
theorem Ext.getL (a : Ext S S') {r : Nat} {xs : List D} (h : getL S r = some xs) : getL S' r = some xs := by
  have hr := getL_lt h
  obtain ⟨T, rfl⟩ := a
  unfold Lt.getL at h ⊢
  rw [List.getElem?_append_left hr]
  exact h
theorem Ext.lstOf (a : Ext S S') {d : D} {xs : List D} (h : lstOf S d = some xs) : lstOf S' d = some xs := by
  unfold Lt.lstOf at h ⊢
  cases d <;> first | exact a.getL h | exact h
theorem Ext.seqOf (a : Ext S S') {d : D} {xs : List D} (h : seqOf S d = some xs) : seqOf S' d = some xs := by
  unfold Lt.seqOf at h ⊢
  cases d <;> first | exact a.getL h | exact h
theorem getL_new {xs : List D} : getL (S ++ [.lst xs]) S.length = some xs := by
  unfold getL; simp
theorem getL_set {r : Nat} {xs : List D} (h : r < S.length) : getL (S.set r (.lst xs)) r = some xs := by
  unfold getL; rw [List.getElem?_set_self h]
theorem getL_set_ne {r q : Nat} {c : Cell} (h : r ≠ q) : getL (S.set r c) q = getL S q := by
  unfold getL; rw [List.getElem?_set_ne h]
theorem lstOf_ref {n : Nat} : lstOf S (.ref n) = getL S n := rfl
theorem lstOf_frl {xs : List D} : lstOf S (.frl xs) = some xs := rfl
theorem seqOf_ref {n : Nat} : seqOf S (.ref n) = getL S n := rfl
theorem seqOf_frl {xs : List D} : seqOf S (.frl xs) = some xs := rfl
theorem seqOf_tup {xs : List D} : seqOf S (.tup xs) = some xs := rfl
theorem lst_seq {d : D} {xs : List D} (h : lstOf S d = some xs) : seqOf S d = some xs := by
  unfold lstOf at h
  unfold seqOf
  cases d <;> first | exact h | cases h
end
end Lt
namespace Lt
open PySem (Str)
section
variable {α β : Type} {r : R α} {E E' : XP} {Q Q' : α → Store → Prop} {Z Z' : Zs} {S S' : Store} {e e' : Env} {G : Cxt} {p : Prop} [Decidable p]
theorem bo_add {i j : Int} : binop .add (.int i) (.int j) S = .ok (.int (i + j)) S := rfl
theorem bo_sub {i j : Int} : binop .sub (.int i) (.int j) S = .ok (.int (i - j)) S := rfl
theorem bo_mul {i j : Int} : binop .mul (.int i) (.int j) S = if Sm i j then .ok (.int (i * j)) S else .bad := rfl
theorem bo_div {i j : Int} : binop .fdiv (.int i) (.int j) S = if j ≠ 0 ∧ j.natAbs.log2 < 9000 then .ok (.int (i.fdiv j)) S else .bad := rfl
theorem bo_mod {i j : Int} : binop .mod (.int i) (.int j) S = if j ≠ 0 then .ok (.int (i.fmod j)) S else .bad := rfl
theorem bo_pow {i j : Int} : binop .pow (.int i) (.int j) S = if 0 ≤ j ∧ j ≤ 1000000 ∧ i.natAbs < 2 ^ 64 then .ok (.int (i ^ j.toNat)) S else .bad := rfl
def catR (x y : Option (List D)) (S : Store) : R D := match x, y with
  | some xs, some ys => if xs.length + ys.length ≤ lim then alloc (.lst (xs ++ ys)) S else .bad
  | _, _ => .bad
theorem bo_cat {a b : Nat} : binop .add (.ref a) (.ref b) S = catR (getL S a) (getL S b) S := rfl
theorem catR_some {xs ys : List D} : catR (some xs) (some ys) S = if xs.length + ys.length ≤ lim then alloc (.lst (xs ++ ys)) S else .bad := rfl
def repR (x : Option (List D)) (j : Int) (S : Store) : R D := match x with
  | some xs => if 0 ≤ j ∧ j ≤ 100000 ∧ xs.length * j.toNat ≤ lim then alloc (.lst (List.replicate j.toNat xs).flatten) S else .bad
  | _ => .bad
theorem bo_rep {a : Nat} {j : Int} : binop .mul (.ref a) (.int j) S = repR (getL S a) j S := rfl
theorem repR_some {xs : List D} {j : Int} : repR (some xs) j S = if 0 ≤ j ∧ j ≤ 100000 ∧ xs.length * j.toNat ≤ lim then alloc (.lst (List.replicate j.toNat xs).flatten) S else .bad := rfl
theorem cm_lt {i j : Int} : cmpop .lt (.int i) (.int j) S = .ok (.bl (decide (i < j))) S := rfl
theorem cm_le {i j : Int} : cmpop .le (.int i) (.int j) S = .ok (.bl (decide (i ≤ j))) S := rfl
theorem cm_gt {i j : Int} : cmpop .gt (.int i) (.int j) S = .ok (.bl (decide (j < i))) S := rfl
theorem cm_ge {i j : Int} : cmpop .ge (.int i) (.int j) S = .ok (.bl (decide (j ≤ i))) S := rfl
def eqR (x : Option Bool) (S : Store) : R D := match x with
  | some b => .ok (.bl b) S
  | none => .bad
def neR (x : Option Bool) (S : Store) : R D := match x with
  | some b => .ok (.bl (!b)) S
  | none => .bad
theorem eqR_some {b : Bool} : eqR (some b) S = .ok (.bl b) S := rfl
theorem neR_some {b : Bool} : neR (some b) S = .ok (.bl (!b)) S := rfl
theorem cm_eq {x y : D} : cmpop .eq x y S = eqR (eqD S x y) S := by
  unfold cmpop eqR; cases eqD S x y <;> rfl
theorem cm_ne {x y : D} : cmpop .ne x y S = neR (eqD S x y) S := by
  unfold cmpop neR; cases eqD S x y <;> rfl
theorem eqD_int {i j : Int} : eqD S (.int i) (.int j) = some (decide (i = j)) := by
  unfold eqD
  simp [toP, PySem.PyData.eqv]
  try rfl
theorem eqD_pair {a b c d : Int} : eqD S (.tup [.int a, .int b]) (.tup [.int c, .int d]) = some (decide (a = c ∧ b = d)) := by
  unfold eqD
  simp only [toP, mapO, Option.map_some]
  congr 1
  simp only [PySem.PyData.eqv, PySem.PyData.eqvAll, Bool.and_true, Bool.decide_and]
  rfl
/-- an item of a row of known length -/
def itemR (x : Option (List D)) (i : Int) (S : Store) : R D := match x with
  | some xs => match L2.atI xs i with
    | some d => .ok d S
    | none => .bad
  | none => .bad
theorem item_eq {x : D} {i : Int} : item x (.int i) S = itemR (seqOf S x) i S := by
  unfold item itemR
  cases seqOf S x <;> rfl
theorem itemR_nat {xs : List D} {i : Nat} {d : D} (h : xs[i]? = some d) : itemR (some xs) (i : Int) S = .ok d S := by
  unfold itemR L2.atI L2.ixN
  have hi : i < xs.length := (List.getElem?_eq_some_iff.mp h).1
  have h9 : (if (0 : Int) ≤ i then if (i : Int) < xs.length then some (i : Int).toNat else none else if -(xs.length : Int) ≤ i then some ((i : Int) + xs.length).toNat else none) = some i := by
    rw [if_pos (by omega), if_pos (by omega)]; simp
  simp only [h9, Option.bind_some, h]
theorem itemR_int {xs : List D} {i : Int} {d : D} (h0 : 0 ≤ i) (h : xs[i.toNat]? = some d) : itemR (some xs) i S = .ok d S := by
  obtain ⟨n, rfl⟩ := Int.eq_ofNat_of_zero_le h0
  exact itemR_nat (by simpa using h)
theorem itemR_back {xs : List D} {i : Nat} {d : D} (hi : i < xs.length) (h : xs[xs.length - 1 - i]? = some d) : itemR (some xs) (-((i : Int) + 1)) S = .ok d S := by
  unfold itemR L2.atI L2.ixN
  have h1 : ¬ (0 : Int) ≤ -((i : Int) + 1) := by omega
  have h2 : -(xs.length : Int) ≤ -((i : Int) + 1) := by omega
  have h3 : (-((i : Int) + 1) + (xs.length : Int)).toNat = xs.length - 1 - i := by omega
  simp only [if_neg h1, if_pos h2, h3, Option.bind_some, h]
theorem itemR_c0 {x : D} {xs : List D} : itemR (some (x :: xs)) 0 S = .ok x S := itemR_nat (i := 0) rfl
theorem itemR_c1 {x y : D} {xs : List D} : itemR (some (x :: y :: xs)) 1 S = .ok y S := itemR_nat (i := 1) rfl
theorem itemR_c2 {x y z : D} {xs : List D} : itemR (some (x :: y :: z :: xs)) 2 S = .ok z S := itemR_nat (i := 2) rfl
theorem itemR_c3 {x y z w : D} {xs : List D} : itemR (some (x :: y :: z :: w :: xs)) 3 S = .ok w S := itemR_nat (i := 3) rfl
def sliceR (x : Option (List D)) (lo hi : Option Int) (S : Store) : R D := match x with
  | some xs => alloc (.lst (cutD xs lo hi)) S
  | none => .bad
def slcR (x : D) (lo hi : Option Int) (S : Store) : R D := match x with
  | .tup xs => .ok (.tup (cutD xs lo hi)) S
  | x => sliceR (lstOf S x) lo hi S
theorem slcR_ref {n : Nat} {lo hi : Option Int} : slcR (.ref n) lo hi S = sliceR (getL S n) lo hi S := rfl
theorem slcR_frl {xs : List D} {lo hi : Option Int} : slcR (.frl xs) lo hi S = sliceR (some xs) lo hi S := rfl
theorem slcR_tup {xs : List D} {lo hi : Option Int} : slcR (.tup xs) lo hi S = .ok (.tup (cutD xs lo hi)) S := rfl
theorem slcR_lst {d : D} {xs : List D} {lo hi : Option Int} (h : lstOf S d = some xs) : slcR d lo hi S = sliceR (some xs) lo hi S := by
  cases d with
  | ref n =>
    have h : getL S n = some xs := h
    show sliceR (getL S n) lo hi S = _; rw [h]
  | frl ys => cases h; rfl
  | _ => cases h
theorem slice_gen {x : D} {lo hi : Option D} {l h : Option Int} (e1 : intO lo = some l) (e2 : intO hi = some h) : slice x lo hi S = slcR x l h S := by
  have gen : ∀ o : Option (List D), (match o, intO lo, intO hi with
    | some xs, some l, some h => alloc (.lst (cutD xs l h)) S
    | _, _, _ => R.bad) = sliceR o l h S := fun o => by
    rw [e1, e2]; cases o <;> rfl
  cases x with
  | tup xs =>
    show (match intO lo, intO hi with
      | some l, some h => R.ok (D.tup (cutD xs l h)) S
      | _, _ => R.bad) = _
    rw [e1, e2]; rfl
  | ref n => exact gen (getL S n)
  | frl ys => exact gen (some ys)
  | _ => exact gen none
theorem slice_T {x : D} {i : Int} : slice x none (some (.int i)) S = slcR x none (some i) S := slice_gen rfl rfl
theorem slice_F {x : D} {i : Int} : slice x (some (.int i)) none S = slcR x (some i) none S := slice_gen rfl rfl
theorem slice_B {x : D} {i j : Int} : slice x (some (.int i)) (some (.int j)) S = slcR x (some i) (some j) S := slice_gen rfl rfl
theorem sliceR_some {xs : List D} {lo hi : Option Int} : sliceR (some xs) lo hi S = alloc (.lst (cutD xs lo hi)) S := rfl
theorem alloc_eq {c : Cell} : alloc c S = .ok (.ref S.length) (S ++ [c]) := rfl
theorem len_tup {xs : List D} : biop .len [.tup xs] S = .ok (.int xs.length) S := rfl
theorem len_frl {xs : List D} : biop .len [.frl xs] S = .ok (.int xs.length) S := rfl
def lenD (x : Option (List D)) (n : Nat) (S : Store) : R D := match x with
  | some xs => .ok (.int xs.length) S
  | none => biop .len [.ref n] S
theorem lenD_some {xs : List D} {n : Nat} : lenD (some xs) n S = .ok (.int xs.length) S := rfl
theorem len_ref {n : Nat} : biop .len [.ref n] S = lenD (getL S n) n S := by
  unfold lenD
  cases h : getL S n with
  | none => rfl
  | some xs =>
    unfold biop
    unfold getL at h
    split at h
    · rename_i ys e
      cases h
      simp only [lenO, e]
    · cases h
theorem bi_abs {i : Int} : biop .abs [.int i] S = .ok (.int i.natAbs) S := by
  unfold biop
  simp only
  congr 2
  split <;> omega
theorem bi_intI {i : Int} : biop .int [.int i] S = .ok (.int i) S := rfl
theorem bi_intB {b : Bool} : biop .int [.bl b] S = .ok (.int (if b = true then 1 else 0)) S := rfl
theorem bi_max {i j : Int} : biop .max [.int i, .int j] S = .ok (.int (if j > i then j else i)) S := rfl
theorem bi_min {i j : Int} : biop .min [.int i, .int j] S = .ok (.int (if j < i then j else i)) S := rfl
def listR (x : Option (List D)) (S : Store) : R D := match x with
  | some xs => alloc (.lst xs) S
  | none => .bad
def tupR (x : Option (List D)) (S : Store) : R D := match x with
  | some xs => .ok (.tup xs) S
  | none => .bad
theorem listR_some {xs : List D} : listR (some xs) S = alloc (.lst xs) S := rfl
theorem tupR_some {xs : List D} : tupR (some xs) S = .ok (.tup xs) S := rfl
theorem bi_list {x : D} : biop .list [x] S = listR (seqOf S x) S := by
  unfold biop listR; cases h : seqOf S x <;> simp [h]
theorem bi_tupleT {xs : List D} : biop .tuple [.tup xs] S = .ok (.tup xs) S := rfl
theorem bi_tupleF {xs : List D} : biop .tuple [.frl xs] S = .ok (.tup xs) S := rfl
theorem bi_tupleR {n : Nat} : biop .tuple [.ref n] S = tupR (getL S n) S := by
  unfold biop tupR
  simp only [lstOf]
  try (cases getL S n <;> rfl)
theorem isIR_non {t : Ty} : isIR t .non S = .ok (.bl false) S := rfl
variable {t : Ty}
theorem isIR_bl {b : Bool} : isIR t (.bl b) S = .ok (.bl (match t with | .bool => true | .int => true | _ => false)) S := rfl
theorem isIR_int {i : Int} : isIR t (.int i) S = .ok (.bl (match t with | .int => true | _ => false)) S := rfl
theorem isIR_str {s : Str} : isIR t (.str s) S = .ok (.bl (match t with | .str => true | _ => false)) S := rfl
theorem isIR_tup {xs : List D} : isIR t (.tup xs) S = .ok (.bl (match t with | .tuple => true | _ => false)) S := rfl
theorem isIR_frl {xs : List D} : isIR t (.frl xs) S = .ok (.bl (match t with | .list => true | _ => false)) S := rfl
def appR (x : Option (List D)) (r : Nat) (a : D) (S : Store) : R D := match x with
  | some xs => if xs.length < lim then .ok .non (S.set r (.lst (xs ++ [a]))) else .bad
  | none => .bad
theorem app_ref {r : Nat} {a : D} : append (.ref r) a S = appR (getL S r) r a S := by
  unfold append appR; cases h : getL S r <;> simp [h]
theorem appR_some {r : Nat} {a : D} {xs : List D} : appR (some xs) r a S = if xs.length < lim then .ok .non (S.set r (.lst (xs ++ [a]))) else .bad := rfl
theorem isLst_ref {n : Nat} : isLst (.ref n) S = (getL S n).isSome := rfl
theorem seqItr_some {d : D} {xs : List D} (h : seqOf S d = some xs) : ∃ j, seqItr d S = some j ∧ j.n = xs.length ∧ (∀ i S', seqOf S' d = some xs → j.at_ i S' = xs[i]?) ∧ (∀ S', seqOf S' d = some xs → j.fin S' = true) := by
  unfold seqItr
  rw [h]
  refine ⟨_, rfl, rfl, fun i S' h' => ?_, fun S' h' => ?_⟩
  · simp [h']
  · simp [h']
theorem rngItr_ok {i j : Int} (h1 : -(2 ^ 62) ≤ i) (h2 : i < 2 ^ 62) (h3 : -(2 ^ 62) ≤ j) (h4 : j < 2 ^ 62) : rngItr i j = some ⟨(j - i).toNat, fun k _ => some (.int (i + k)), fun _ => true⟩ := by
  unfold rngItr
  rw [if_pos ⟨h1, h2, h3, h4⟩]
end
/-- all that runs by rewriting -/
def wpx := And.intro @wp_ok <| And.intro @wp_exc <| And.intro @wp_bad <| And.intro @wp_bind <| And.intro @wp_ite <| And.intro @wpS_nx <| And.intro @wpS_ret <| And.intro @wpS_brk <| And.intro @wpS_exc <| And.intro @wpS_bad <| And.intro @wpS_ite <| And.intro @wpS_toS <| And.intro @ev_xis <| And.intro @ev_xat <| And.intro @exS_raiA <| And.intro @ev_dsp <| And.intro @evI_zip <| And.intro @exS_par3 <|
  And.intro @brR_bl <| And.intro @brS_bl <| And.intro @notR_bl <| And.intro @negR_int <| And.intro @ev_int <| And.intro @ev_str <| And.intro @ev_bl <| And.intro @ev_non <| And.intro @ev_var <| And.intro @varR_some <| And.intro @ev_bin <| And.intro @ev_neg <| And.intro @ev_not <|
  And.intro @ev_and <| And.intro @ev_or <| And.intro @ev_cmp <| And.intro @ev_chn <| And.intro @ev_chn4 <| And.intro @ev_isN <| And.intro @ev_ntN <| And.intro @ev_ife <| And.intro @ev_tup <| And.intro @ev_lst <| And.intro @ev_idx <| And.intro @ev_slT <| And.intro @ev_slF <| And.intro @ev_slB <| And.intro @ev_rev <|
  And.intro @ev_call <| And.intro @ev_bi <| And.intro @ev_isI <| And.intro @ev_app <| And.intro @ev_ext <| And.intro @ev_clr <| And.intro @ev_isB <| And.intro @isBR_bl <| And.intro @ev_any <| And.intro @ev_chn5 <| And.intro @ev_ntB <| And.intro @ntBR_bl <| And.intro @ev_dicT <| And.intro @ev_dicF <| And.intro @ev_dgt <| And.intro @ev_din <| And.intro @ev_get1 <| And.intro @ev_get2 <| And.intro @ev_dpop <| And.intro @ev_ixo <| And.intro @ev_ins <| And.intro @ev_pop0 <| And.intro @ev_pop1 <| And.intro @exS_any <| And.intro @exS_dst <| And.intro @ev_fld <| And.intro @ev_mth <| And.intro @ev_mk <| And.intro @madeR_non <| And.intro @exS_stf <| And.intro @ev_lc <| And.intro @ev_lcI <| And.intro @evs_nil <| And.intro @evs_cons <| And.intro @optR_some <| And.intro @evI_seq <| And.intro @rngR_int <| And.intro @evI_rng <|
  And.intro @evI_rng2 <| And.intro @evI_enm <| And.intro @evI_rvd <| And.intro @exS_asg <| And.intro @bindS_name <| And.intro @bindS_tup <| And.intro @unpR_2 <| And.intro @unpR_3 <| And.intro @unpR_4 <| And.intro @exS_par <| And.intro @exS_sub <| And.intro @exS_exp <| And.intro @exS_ite <| And.intro @exS_for <| And.intro @exS_whl <| And.intro @exS_ret <| And.intro @exS_retN <| And.intro @exS_brk <|
  And.intro @exS_pass <| And.intro @exS_rai <| And.intro @wp_try <| And.intro @exB_nil <| And.intro @wp_cons <| And.intro @cx_cl <| @cx_fuel
def wpo := And.intro @bo_add <| And.intro @bo_sub <| And.intro @bo_mul <| And.intro @bo_div <| And.intro @bo_mod <| And.intro @bo_pow <| And.intro @bo_cat <| And.intro @catR_some <| And.intro @bo_rep <| And.intro @repR_some <| And.intro @cm_lt <| And.intro @cm_le <| And.intro @cm_gt <| And.intro @cm_ge <|
  And.intro @eqR_some <| And.intro @neR_some <| And.intro @cm_eq <| And.intro @cm_ne <| And.intro @eqD_int <| And.intro @eqD_pair <| And.intro @item_eq <| And.intro @itemR_c0 <| And.intro @itemR_c1 <| And.intro @itemR_c2 <| And.intro @itemR_c3 <| And.intro @slice_T <| And.intro @slice_F <| And.intro @slice_B <| And.intro @slcR_ref <| And.intro @slcR_frl <| And.intro @slcR_tup <|
  And.intro @sliceR_some <| And.intro @alloc_eq <| And.intro @lenD_some <| And.intro @len_tup <| And.intro @len_frl <| And.intro @len_ref <| And.intro @bi_abs <| And.intro @bi_intI <| And.intro @bi_intB <| And.intro @bi_max <| And.intro @bi_min <| And.intro @listR_some <| And.intro @tupR_some <| And.intro @bi_list <|
  And.intro @bi_tupleT <| And.intro @bi_tupleF <| And.intro @bi_tupleR <| And.intro @isIR_non <| And.intro @isIR_bl <| And.intro @isIR_int <| And.intro @isIR_str <| And.intro @isIR_tup <| And.intro @isIR_frl <| And.intro @app_ref <| And.intro @appR_some <| And.intro @isLst_ref <| And.intro @seqOf_tup <| And.intro @seqOf_frl <| And.intro @seqOf_ref <| And.intro @lstOf_ref <| And.intro @lstOf_frl <| @getL_new
end Lt
namespace Lt
open PySem (Str)
section
variable {α : Type} {S S' : Store} {e : Env} {E : XP} {Z : Zs}
/-- a loop over a sequence -/
theorem for_seq {t : Tg} {d : D} {xs : List D} {b : Env → Store → SR} {X : XP} (I : Nat → Env → Store → Prop) (h : seqOf S d = some xs) (h0 : I 0 e S)
    (step : ∀ i x e S, xs[i]? = some x → i < xs.length → I i e S → seqOf S d = some xs ∧ ∃ e1, bindT t x e S = some e1 ∧ WpS (b e1 S) { nx := I (i + 1), rt := Z.rt, bk := Z.nx, ex := Z.ex })
    (fin : ∀ e S, I xs.length e S → seqOf S d = some xs ∧ Z.nx e S) : Wp (optR (seqItr d S) S) X fun j S1 => WpS (forGo t j b j.n 0 e S1) Z := by
  obtain ⟨j, h1, h2, h3, h4⟩ := seqItr_some h
  rw [h1, optR_some, wp_ok]
  refine for_rule I xs.length (fun i e S hi hI => ?_) (fun e S hI => ?_) j.n 0 e S (by omega) h0
  · obtain ⟨g1, e1, g2, g3⟩ := step i xs[i] e S (by simp [hi]) hi hI
    exact ⟨xs[i], e1, by rw [h3 i S g1]; simp [hi], g2, g3⟩
  · obtain ⟨g1, g2⟩ := fin e S hI
    exact ⟨h4 S g1, g2⟩
/-- a loop over a range -/
theorem for_rng {t : Tg} {lo hi : Int} {b : Env → Store → SR} {X : XP} (I : Nat → Env → Store → Prop) (h1 : -(2 ^ 62) ≤ lo) (h2 : lo < 2 ^ 62) (h3 : -(2 ^ 62) ≤ hi) (h4 : hi < 2 ^ 62) (h0 : I 0 e S)
    (step : ∀ (i : Nat) e S, (i : Int) < hi - lo → I i e S → ∃ e1, bindT t (.int (lo + i)) e S = some e1 ∧ WpS (b e1 S) { nx := I (i + 1), rt := Z.rt, bk := Z.nx, ex := Z.ex })
    (fin : ∀ e S, I (hi - lo).toNat e S → Z.nx e S) : Wp (optR (rngItr lo hi) S) X fun j S1 => WpS (forGo t j b j.n 0 e S1) Z := by
  rw [rngItr_ok h1 h2 h3 h4, optR_some, wp_ok]
  refine for_rule I (hi - lo).toNat (fun i e S hi' hI => ?_) (fun e S hI => ?_) _ 0 e S (by simp) h0
  · obtain ⟨e1, g2, g3⟩ := step i e S (by omega) hI
    exact ⟨_, e1, rfl, g2, g3⟩
  · exact ⟨rfl, fin e S hI⟩
theorem wp_bindX {α β : Type} {r : R α} {k : α → Store → R β} {E : XP} {Q : β → Store → Prop} (h : Wp r (fun _ _ => False) fun a S => Wp (k a S) E Q) : Wp (r.bindX k) E Q := by
  cases r with
  | ok a S => rw [wp_ok] at h; exact h
  | exc c S => rw [wp_exc] at h; exact h.elim
  | bad => rw [wp_bad] at h; exact h.elim
/-- turns of a comprehension with a test -/
theorem lcI_rule {t : Tg} {it : Itr} {c el : Env → Store → R D} {X : XP} {Q : List D → Store → Prop} (I : Nat → List D → Store → Prop) (N : Nat)
    (step : ∀ i acc S, i < N → I i acc S → ∃ d e1, it.at_ i S = some d ∧ bindT t d e S = some e1 ∧ Wp (c e1 S) (fun _ _ => False) fun b S1 => (b = .bl true ∧ Wp (el e1 S1) (fun _ _ => False) fun y S2 => acc.length < lim ∧ I (i + 1) (acc ++ [y]) S2) ∨ (b = .bl false ∧ I (i + 1) acc S1))
    (fin : ∀ acc S, I N acc S → it.fin S = true ∧ Q acc S) :
    ∀ (k i : Nat) (acc : List D) (S : Store), i + k = N → I i acc S → Wp (lcGo t it (some c) el e k i acc S) X Q
  | 0, i, acc, S, hi, h => by
    have : i = N := by omega
    subst this
    unfold lcGo
    obtain ⟨f1, f2⟩ := fin acc S h
    rw [if_pos f1, wp_ok]
    exact f2
  | k + 1, i, acc, S, hi, h => by
    obtain ⟨d, e1, h1, h2, h3⟩ := step i acc S (by omega) h
    unfold lcGo
    rw [h1]
    simp only
    rw [h2]
    simp only
    refine wp_bindX (h3.imp fun b S1 h4 => ?_)
    rcases h4 with ⟨rfl, h4⟩ | ⟨rfl, h4⟩
    · refine wp_bindX (h4.imp fun y S2 h5 => ?_)
      rw [if_pos h5.1]
      exact lcI_rule I N step fin k (i + 1) _ S2 (by omega) h5.2
    · exact lcI_rule I N step fin k (i + 1) _ S1 (by omega) h4
theorem lcI_seq {t : Tg} {d : D} {xs : List D} {c el : Env → Store → R D} {X X' : XP} {Q : List D → Store → Prop} (I : Nat → List D → Store → Prop) (h : seqOf S d = some xs) (h0 : I 0 [] S)
    (step : ∀ i x acc S, xs[i]? = some x → i < xs.length → I i acc S → seqOf S d = some xs ∧ ∃ e1, bindT t x e S = some e1 ∧ Wp (c e1 S) (fun _ _ => False) fun b S1 => (b = .bl true ∧ Wp (el e1 S1) (fun _ _ => False) fun y S2 => acc.length < lim ∧ I (i + 1) (acc ++ [y]) S2) ∨ (b = .bl false ∧ I (i + 1) acc S1))
    (fin : ∀ acc S, I xs.length acc S → seqOf S d = some xs ∧ Q acc S) : Wp (optR (seqItr d S) S) X fun j S1 => Wp (lcGo t j (some c) el e j.n 0 [] S1) X' Q := by
  obtain ⟨j, h1, h2, h3, h4⟩ := seqItr_some h
  rw [h1, optR_some, wp_ok]
  refine lcI_rule I xs.length (fun i acc S hi hI => ?_) (fun acc S hI => ?_) j.n 0 [] S (by omega) h0
  · obtain ⟨g1, e1, g2, g3⟩ := step i xs[i] acc S (by simp [hi]) hi hI
    exact ⟨xs[i], e1, by rw [h3 i S g1]; simp [hi], g2, g3⟩
  · obtain ⟨g1, g2⟩ := fin acc S hI
    exact ⟨h4 S g1, g2⟩
/-- behind an item's store -/
def setR (x : Option (List D)) (r : Nat) (i : Int) (v : D) (S : Store) : R D := match x with
  | some xs => match L2.ixN xs.length i with
    | some j => .ok .non (S.set r (.lst (xs.set j v)))
    | none => .bad
  | none => .bad
theorem set_ref {r : Nat} {i : Int} {v : D} : setItem (.ref r) (.int i) v S = setR (getL S r) r i v S := by
  unfold setItem setR
  cases h : getL S r with
  | none => simp [h]
  | some xs =>
    simp only [h]
    try (cases L2.ixN xs.length i <;> rfl)
theorem itemR_last {xs : List D} {d : D} (h : xs.getLast? = some d) : itemR (some xs) (-1) S = .ok d S := by
  have hl : 0 < xs.length := by
    cases xs with
    | nil => cases h
    | cons => simp
  refine itemR_back (i := 0) hl ?_
  rw [List.getLast?_eq_getElem?] at h
  simpa using h
theorem cutD_T {xs : List D} {j : Int} (h : 0 ≤ j) : cutD xs none (some j) = xs.take j.toNat := by
  obtain ⟨n, rfl⟩ := Int.eq_ofNat_of_zero_le h
  unfold cutD
  rw [HT.sIx_none, HT.sIx_nat]
  simp
theorem len_lst {d : D} {xs : List D} (h : lstOf S d = some xs) : biop .len [d] S = .ok (.int xs.length) S := by
  cases d with
  | ref n => rw [len_ref]; rw [lstOf_ref] at h; rw [h, lenD_some]
  | frl ys => cases h; rfl
  | _ => cases h
theorem log2_le {n a : Nat} (h : n < 2 ^ a) : n.log2 ≤ a := by
  by_cases h0 : n = 0
  · subst h0; simp
  · exact Nat.le_of_lt ((Nat.log2_lt h0).mpr h)
theorem sm_of {i j : Int} (a b : Nat) (hi : i.natAbs < 2 ^ a) (hj : j.natAbs < 2 ^ b) (h : a + b < 1000000) : Sm i j := by
  have h1 := log2_le hi
  have h2 := log2_le hj
  unfold Sm
  omega
theorem sm100 {i j : Int} (hi : i.natAbs < 2 ^ 100) (hj : j.natAbs < 2 ^ 100) : Sm i j := sm_of 100 100 hi hj (by decide)
theorem getL_app {T : Store} {n : Nat} : getL (S ++ T) (S.length + n) = getL T n := by
  unfold getL
  rw [List.getElem?_append_right (by omega), Nat.add_sub_cancel_left]
theorem getL_app0 {T : Store} : getL (S ++ T) S.length = getL T 0 := getL_app (n := 0)
theorem getL_app2 {T : Store} : getL (S ++ T) (S.length + 1 + 1) = getL T 2 := getL_app (n := 2)
theorem getL_app3 {T : Store} : getL (S ++ T) (S.length + 1 + 1 + 1) = getL T 3 := getL_app (n := 3)
theorem getL_app4 {T : Store} : getL (S ++ T) (S.length + 1 + 1 + 1 + 1) = getL T 4 := getL_app (n := 4)
theorem getL_c0 {xs : List D} {T : Store} : getL (.lst xs :: T) 0 = some xs := rfl
theorem getL_c1 {c : Cell} {T : Store} : getL (c :: T) 1 = getL T 0 := rfl
theorem getL_c2 {c : Cell} {T : Store} : getL (c :: T) 2 = getL T 1 := rfl
theorem getL_c3 {c : Cell} {T : Store} : getL (c :: T) 3 = getL T 2 := rfl
theorem getL_c4 {c : Cell} {T : Store} : getL (c :: T) 4 = getL T 3 := rfl
theorem map_get {α : Type} {f : α → D} {l : List α} {i : Nat} {x : D} (h : (l.map f)[i]? = some x) : ∃ c, l[i]? = some c ∧ x = f c := by
  rw [List.getElem?_map] at h
  cases e : l[i]? with
  | none => rw [e] at h; cases h
  | some c => rw [e] at h; cases h; exact ⟨c, rfl, rfl⟩
theorem dv_of {n : Nat} (h : n < 2 ^ 8000) : n.log2 < 9000 := Nat.lt_of_le_of_lt (log2_le h) (by decide)
theorem bind_two {i j : Nat} {x y : D} (h : i < e.length ∧ j < e.length) : bindT (.tup [i, j]) (.tup [x, y]) e S = some ((e.set i (some x)).set j (some y)) := by
  simp [bindT, seqOf, setAll, h.1, h.2]
theorem bind_name {i : Nat} {d : D} (h : i < e.length) : bindT (.name i) d e S = some (e.set i (some d)) := by
  simp only [bindT, if_pos h]
end
def wps := And.intro @set_ref <| And.intro @getL_app <| And.intro @getL_app0 <| And.intro @getL_app2 <| And.intro @getL_app3 <| And.intro @getL_app4 <| And.intro @getL_c0 <| And.intro @getL_c1 <| And.intro @getL_c2 <| And.intro @getL_c3 <| @getL_c4
end Lt
set_option maxRecDepth 100000
set_option maxHeartbeats 1000000
namespace Lt
open PySem (Str)
open LawT
def seedF (s c : Int) : Int := (s * 48271 + c.fmod 1000003 + 1).fmod 2147483647
def cellF (ns : List Int) (p : Int) : Int := if p < ns.length then ns.getD p.toNat 0 else ((ns.take 63).foldl seedF 5 + 7919 * p).fmod 1000003
theorem seed_bd (ns : List Int) (s : Int) (h : 0 ≤ s ∧ s < 2147483647) : 0 ≤ ns.foldl seedF s ∧ ns.foldl seedF s < 2147483647 := by
  induction ns generalizing s with
  | nil => exact h
  | cons c r ih =>
    rw [List.foldl_cons]
    refine ih _ ?_
    unfold seedF
    exact ⟨Int.fmod_nonneg_of_pos _ (by decide), Int.fmod_lt_of_pos _ (by decide)⟩
section
variable {P : Prog} {F k : Nat} {S : Store} {E : XP}
theorem cell_wp (h : P.defs.lookup ("_law_cell" : Str) = some a__law_cell) {d : D} {ns : List Int} {p : Int} (hd : lstOf S d = some (ns.map .int)) (hp0 : 0 ≤ p) (hp : p < 2 ^ 60) :
    Wp (callN P F (k + 1) "_law_cell" [d, .int p] S) E fun r S' => Ext S S' ∧ r = .int (cellF ns p) := by
  apply wp_callN h rfl
  simp only [a__law_cell]
  simp [wpx, wpo, len_lst hd, lst_seq hd, hd, slcR_lst hd]
  unfold cellF
  split
  · rename_i hlt
    have hl : (ns.map D.int)[p.toNat]? = some (.int (ns.getD p.toNat 0)) := by
      have : p.toNat < ns.length := by omega
      simp [this]
    rw [itemR_int hp0 hl, wp_ok]
    exact ⟨Ext.refl, rfl⟩
  · refine for_seq (fun i e S1 => Ext (S ++ [.lst (cutD (ns.map .int) none (some 63))]) S1 ∧ ∃ x, e = [some d, some (.int p), some (.int (((ns.take 63).take i).foldl seedF 5)), x]) (xs := (ns.take 63).map .int) ?_ ⟨Ext.refl, none, rfl⟩ ?_ ?_
    · rw [seqOf_ref, getL_new, cutD_T (by decide)]
      simp [List.map_take]
    · rintro i x e S1 hx hi ⟨hE, y, rfl⟩
      refine ⟨hE.seqOf ?_, _, bind_name (by simp), ?_⟩
      · rw [seqOf_ref, getL_new, cutD_T (by decide)]
        simp [List.map_take]
      · obtain ⟨c, hc, rfl⟩ := map_get hx
        have hb := seed_bd ((ns.take 63).take i) 5 (by decide)
        have hs : Sm (((ns.take 63).take i).foldl seedF 5) 48271 := sm100 (by omega) (by decide)
        simp [wpx, wpo, hs]
        refine ⟨hE, ?_⟩
        generalize ns.take 63 = m at hc ⊢
        rw [List.take_succ, List.foldl_append, hc]
        simp [seedF]
    · rintro e S1 ⟨hE, y, rfl⟩
      refine ⟨hE.seqOf ?_, ?_⟩
      · rw [seqOf_ref, getL_new, cutD_T (by decide)]
        simp [List.map_take]
      · have hs : Sm 7919 p := sm100 (by decide) (by omega)
        simp [wpx, wpo, hs]
        refine ⟨Ext.one.trans hE, ?_⟩
        rw [List.take_of_length_le (by simp)]
/-- a drawn number, from a cell -/
def mixF (c k : Int) : Int := (((((c.fmod 2147483629 + 1013 * k + 7919) ^ 3).fmod 2147483647) * 40699 + 3793 * k * k + 11).fmod 2147483399).fdiv 101
theorem mix_wp (h : P.defs.lookup ("_law_mix" : Str) = some a__law_mix) {c q : Int} (h0 : 0 ≤ q) (h1 : q < 2 ^ 30) : Wp (callN P F (k + 1) "_law_mix" [.int c, .int q] S) E fun r S' => S' = S ∧ r = .int (mixF c q) := by
  apply wp_callN h rfl
  simp only [a__law_mix]
  have hc : 0 ≤ c.fmod 2147483629 ∧ c.fmod 2147483629 < 2147483629 := ⟨Int.fmod_nonneg_of_pos _ (by decide), Int.fmod_lt_of_pos _ (by decide)⟩
  have s1 : Sm 1013 q := sm100 (by decide) (by omega)
  have s2 : (c.fmod 2147483629 + 1013 * q + 7919).natAbs < 2 ^ 64 := by omega
  have hm : ∀ z : Int, 0 ≤ z.fmod 2147483647 ∧ z.fmod 2147483647 < 2147483647 := fun z => ⟨Int.fmod_nonneg_of_pos _ (by decide), Int.fmod_lt_of_pos _ (by decide)⟩
  have s3 : ∀ z : Int, Sm (z.fmod 2147483647) 40699 := fun z => sm100 (by have := hm z; omega) (by decide)
  have s4 : Sm 3793 q := sm100 (by decide) (by omega)
  have s5 : Sm (3793 * q) q := sm100 (by omega) (by omega)
  have s6 : Nat.log2 101 < 9000 := by decide +kernel
  simp [wpx, wpo, s1, s2, s3, s4, s5, s6, mixF]
/-- the numbers drawn of one cell -/
def leftF (c : Int) (zs : List Int) : Int := zs.foldl (fun l z => if l > 0 then l.fdiv z else l) c
def drawF (ns : List Int) (p : Int) (zs : List Int) (i : Nat) : Int :=
  let c := cellF ns p
  let z := zs.getD i 1
  if c < 1000000000000000000 then (mixF c i).fmod z else if leftF c (zs.take i) > 0 then (leftF c (zs.take i)).fmod z else (mixF (cellF ns ((p + 1 + i).fmod 63)) i).fmod z
def rowF (ns : List Int) (p : Int) (zs : List Int) : List Int := (List.range zs.length).map (drawF ns p zs)
theorem row_get {ns : List Int} {p : Int} {zs : List Int} {i : Nat} (h : i < zs.length) : (rowF ns p zs)[i]? = some (drawF ns p zs i) := by
  simp [rowF, h]
theorem draw_bd {ns : List Int} {p : Int} {zs : List Int} {i : Nat} {z : Int} (h : zs[i]? = some z) (hz : 0 < z) : 0 ≤ drawF ns p zs i ∧ drawF ns p zs i < z := by
  have e : zs.getD i 1 = z := by simp [List.getD, h]
  unfold drawF
  simp only [e]
  split
  · exact ⟨Int.fmod_nonneg_of_pos _ hz, Int.fmod_lt_of_pos _ hz⟩
  · split <;> exact ⟨Int.fmod_nonneg_of_pos _ hz, Int.fmod_lt_of_pos _ hz⟩
theorem row_wp (h : P.defs.lookup ("_law_row" : Str) = some a__law_row) (hc : P.defs.lookup ("_law_cell" : Str) = some a__law_cell) (hm : P.defs.lookup ("_law_mix" : Str) = some a__law_mix)
    {d : D} {ns : List Int} {p : Int} (hd : lstOf S d = some (ns.map .int)) (hp0 : 0 ≤ p) (hp : p < 2 ^ 30) {r : Nat} {zs : List Int} (hr : getL S r = some (zs.map .int)) (hz : ∀ z ∈ zs, 0 < z ∧ z < 2 ^ 8000) (hl : zs.length < 1000) :
    Wp (callN P F (k + 2) "_law_row" [d, .int p, .ref r] S) E fun x S' => Ext S S' ∧ ∃ q, x = .ref q ∧ getL S' q = some ((rowF ns p zs).map .int) := by
  apply wp_callN h rfl
  simp only [a__law_row]
  simp [wpx, wpo, hr]
  refine (cell_wp hc hd hp0 (by omega)).imp ?_
  rintro x S1 ⟨hE, rfl⟩
  have hr1 : getL (S1 ++ [.lst []]) r = some (zs.map .int) := (hE.trans Ext.one).getL hr
  simp [wpx, wpo, hr1]
  refine for_rng (fun i e S2 => Ext S1 S2 ∧ ∃ x y q, S1.length ≤ q ∧ getL S2 q = some (((List.range i).map (drawF ns p zs)).map .int) ∧
    e = [some d, some (.int p), some (.ref r), some (.int (cellF ns p)), some (.int (if cellF ns p < 1000000000000000000 then cellF ns p else leftF (cellF ns p) (zs.take i))), some (.ref q), x, y]) (by omega) (by omega) (by omega) (by omega) ?_ ?_ ?_
  · refine ⟨Ext.one, none, none, S1.length, Nat.le_refl _, ?_, ?_⟩
    · rw [getL_new]; rfl
    · simp [leftF]
  · rintro i e S2 hi ⟨hE2, x, y, q, hq, hg, rfl⟩
    have hi' : i < zs.length := by omega
    obtain ⟨z, hz1⟩ : ∃ z, zs[i]? = some z := ⟨zs[i], by simp [hi']⟩
    obtain ⟨hz2, hz3⟩ := hz z (List.mem_of_getElem? hz1)
    have hgr : getL S2 r = some (zs.map .int) := (hE.trans hE2).getL hr
    have hit : ∀ S', itemR (some (zs.map .int)) (i : Int) S' = .ok (.int z) S' := fun _ => itemR_nat (by simp [hz1])
    have hd2 := (hE.trans hE2).lstOf hd
    have hq2 := getL_lt hg
    have hz4 : z ≠ 0 := by omega
    have hz5 : z.natAbs.log2 < 9000 := dv_of (by omega)
    have hlim : i < lim := Nat.lt_trans (Nat.lt_trans hi' hl) (by decide)
    have hnew : ∀ w, w = drawF ns p zs i → (List.range i).map (D.int ∘ drawF ns p zs) ++ [.int w] = (List.range (i + 1)).map (D.int ∘ drawF ns p zs) := fun w e => by
      rw [List.range_succ, List.map_append, e]; rfl
    have hqr : q ≠ r := by
      have := getL_lt hr
      have := hE.len
      omega
    have hgd : zs.getD i 1 = z := by simp [List.getD, hz1]
    refine ⟨_, bind_name (by simp), ?_⟩
    by_cases hc1 : cellF ns p < 1000000000000000000
    · simp [wpx, wpo, hg, hc1, hgr]
      refine (mix_wp hm (by omega) (by omega)).imp ?_
      rintro x S3 ⟨rfl, rfl⟩
      simp [wpx, wpo, hg, hgr, hit, hz4, hlim]
      refine ⟨hE2.set hq, _, _, q, hq, ?_, rfl, rfl, rfl⟩
      rw [getL_set hq2, hnew]
      unfold drawF
      simp only [hgd]
      rw [if_pos hc1]
    · simp only [if_neg hc1]
      by_cases hc2 : 0 < leftF (cellF ns p) (zs.take i)
      · simp [wpx, wpo, hg, hc1, hc2, hgr, hit, hz4, hlim, getL_set_ne hqr, hz5]
        refine ⟨hE2.set hq, _, _, q, hq, ?_, ?_, rfl, rfl, rfl⟩
        · rw [getL_set hq2, hnew]
          unfold drawF
          simp only [hgd]
          rw [if_neg hc1, if_pos hc2]
        · unfold leftF at hc2 ⊢
          rw [List.take_succ, List.foldl_append, hz1]
          simp [hc2]
      · simp [wpx, wpo, hg, hc1, hc2, hgr]
        refine (cell_wp hc hd2 (Int.fmod_nonneg_of_pos _ (by decide)) (Int.lt_trans (Int.fmod_lt_of_pos _ (by decide)) (by decide))).imp ?_
        rintro x S3 ⟨hE3, rfl⟩
        simp [wpx, wpo, hE3.getL hg]
        refine (mix_wp hm (by omega) (by omega)).imp ?_
        rintro x S4 ⟨rfl, rfl⟩
        simp [wpx, wpo, hE3.getL hg, hE3.getL hgr, hit, hz4, hlim]
        refine ⟨(hE2.trans hE3).set hq, _, _, q, hq, ?_, ?_, rfl, rfl, rfl⟩
        · rw [getL_set (Nat.lt_of_lt_of_le hq2 hE3.len), hnew]
          unfold drawF
          simp only [hgd]
          rw [if_neg hc1, if_neg hc2]
        · unfold leftF at hc2 ⊢
          rw [List.take_succ, List.foldl_append, hz1]
          simp [hc2]
  · rintro e S2 ⟨hE2, x, y, q, hq, hg, rfl⟩
    simp [wpx, wpo]
    refine ⟨hE.trans hE2, ?_⟩
    rw [hg]
    simp [rowF]
end
end Lt
set_option maxRecDepth 100000
set_option maxHeartbeats 1000000
namespace Lt
open PySem (Str)
open LawT
/-- a fraction as the program has it -/
def rD (q : Rat) : D := .tup [.int q.num, .int q.den]
@[irreducible] def BIG : Nat := 2 ^ 8000
theorem big_dv {n : Nat} (h : n < BIG) : n.log2 < 9000 := by
  unfold BIG at h
  exact dv_of h
theorem divInt_rD {a b : Int} (hb : 0 < b) : rD (Rat.divInt a b) = .tup [.int (a / ((a.natAbs.gcd b.natAbs : Nat) : Int)), .int (b / ((a.natAbs.gcd b.natAbs : Nat) : Int))] := by
  unfold rD
  have e : b.gcd a = a.natAbs.gcd b.natAbs := by
    show Nat.gcd b.natAbs a.natAbs = _
    exact Nat.gcd_comm _ _
  rw [Rat.num_divInt, Rat.den_divInt, if_neg (by omega), Int.sign_eq_one_of_pos hb, Int.one_mul, e]
  congr 3
  congr 1
  rw [Int.natCast_ediv, Int.natAbs_of_nonneg (by omega)]
theorem gcd_step {x y : Int} (hx : 0 ≤ x) (hy : 0 < y) : y.natAbs.gcd (x.fmod y).natAbs = x.natAbs.gcd y.natAbs := by
  rw [Int.fmod_eq_emod_of_nonneg _ (by omega)]
  obtain ⟨m, rfl⟩ := Int.eq_ofNat_of_zero_le hx
  obtain ⟨n, rfl⟩ := Int.eq_ofNat_of_zero_le (Int.le_of_lt hy)
  rw [show ((m : Int) % (n : Int)) = ((m % n : Nat) : Int) from rfl]
  simp only [Int.natAbs_natCast]
  rw [Nat.gcd_comm n, ← Nat.gcd_rec, Nat.gcd_comm]
section
variable {P : Prog} {F k : Nat} {S : Store} {E : XP}
theorem law_ratio_wp (h : P.defs.lookup ("_law_ratio" : Str) = some a__law_ratio) {a b : Int} (hb : 0 < b) (hB : b.natAbs < BIG) (hF : BIG ≤ F) :
    Wp (callN P F (k + 1) "_law_ratio" [.int a, .int b] S) E fun r S' => S' = S ∧ r = rD (Rat.divInt a b) := by
  apply wp_callN h rfl
  simp only [a__law_ratio]
  simp [wpx, wpo]
  refine wh_rule (fun e S1 => S1 = S ∧ ∃ x y : Int, e = [some (.int a), some (.int b), some (.int x), some (.int y)] ∧ 0 ≤ x ∧ 0 ≤ y ∧ x.natAbs.gcd y.natAbs = a.natAbs.gcd b.natAbs) (fun e _ => match e with
    | [_, _, _, some (.int y)] => y.natAbs
    | _ => 0) ?_ F _ _ ⟨rfl, _, _, rfl, by omega, by omega, by simp⟩ (by simp; omega)
  rintro e S1 ⟨rfl, x, y, rfl, hx, hy, hg⟩
  simp [wpx, wpo]
  by_cases h0 : 0 < y
  · left
    refine ⟨h0, ?_⟩
    have hy0 : y ≠ 0 := by omega
    simp [hy0, wpx]
    refine ⟨⟨y, x.fmod y, ⟨rfl, rfl⟩, hy, Int.fmod_nonneg_of_pos _ h0, ?_⟩, ?_⟩
    · rw [gcd_step hx h0, hg]
    · have := Int.fmod_lt_of_pos x h0
      have := Int.fmod_nonneg_of_pos x h0
      omega
  · right
    have hy0 : y = 0 := by omega
    subst hy0
    have hx1 : x = ((a.natAbs.gcd b.natAbs : Nat) : Int) := by
      simp at hg
      omega
    have hp : 0 < a.natAbs.gcd b.natAbs := Nat.gcd_pos_of_pos_right _ (by omega)
    have hle : a.natAbs.gcd b.natAbs ≤ b.natAbs := Nat.le_of_dvd (by omega) (Nat.gcd_dvd_right _ _)
    refine ⟨by omega, ?_⟩
    have h1 : x ≠ 0 := by omega
    have h2 : x.natAbs.log2 < 9000 := big_dv (by omega)
    simp [wpx, wpo, h1, h2]
    rw [divInt_rD hb, ← hx1, Int.fdiv_eq_ediv_of_nonneg _ hx, Int.fdiv_eq_ediv_of_nonneg _ hx]
theorem seq_rD {q : Rat} : seqOf S (rD q) = some [.int q.num, .int q.den] := rfl
theorem den_pos (q : Rat) : (0 : Int) < q.den := by
  have := q.den_pos
  omega
/-- a fraction of small parts -/
def Sz (n : Nat) (q : Rat) : Prop := q.num.natAbs < 2 ^ n ∧ q.den < 2 ^ n
end
end Lt
set_option maxRecDepth 100000
set_option maxHeartbeats 1000000
namespace Lt
open PySem (Str)
open LawT
theorem nat_pow_mono {n m : Nat} (h : n ≤ m) : (2 : Nat) ^ n ≤ 2 ^ m := Nat.pow_le_pow_right (by decide) h
theorem Sz.mono {n m : Nat} {q : Rat} (s : Sz n q) (h : n ≤ m) : Sz m q := ⟨Nat.lt_of_lt_of_le s.1 (nat_pow_mono h), Nat.lt_of_lt_of_le s.2 (nat_pow_mono h)⟩
theorem mul_lt_pow {a b n m : Nat} (ha : a < 2 ^ n) (hb : b < 2 ^ m) : a * b < 2 ^ (n + m) := by
  rw [Nat.pow_add]
  have h1 : 0 < 2 ^ m := Nat.pow_pos (by decide)
  calc a * b ≤ a * 2 ^ m := Nat.mul_le_mul_left _ (by omega)
    _ < 2 ^ n * 2 ^ m := Nat.mul_lt_mul_of_pos_right ha h1
theorem sz_divInt {a b : Int} {n : Nat} (hb : 0 < b) (h1 : a.natAbs < 2 ^ n) (h2 : b.natAbs < 2 ^ n) : Sz n (Rat.divInt a b) := by
  have e : b.gcd a = a.natAbs.gcd b.natAbs := Nat.gcd_comm _ _
  unfold Sz
  rw [Rat.num_divInt, Rat.den_divInt, if_neg (by omega), Int.sign_eq_one_of_pos hb, Int.one_mul, e]
  refine ⟨Nat.lt_of_le_of_lt ?_ h1, Nat.lt_of_le_of_lt (Nat.div_le_self _ _) h2⟩
  have hd : ((a.natAbs.gcd b.natAbs : Nat) : Int) ∣ a := by
    rw [← Int.dvd_natAbs]
    exact Int.ofNat_dvd.mpr (Nat.gcd_dvd_left _ _)
  obtain ⟨c, hc⟩ := hd
  have hp : 0 < a.natAbs.gcd b.natAbs := Nat.gcd_pos_of_pos_right _ (by omega)
  generalize a.natAbs.gcd b.natAbs = g at hc hp
  subst hc
  rw [Int.mul_ediv_cancel_left _ (by omega), Int.natAbs_mul]
  exact Nat.le_mul_of_pos_left _ (by simpa using hp)
theorem sz_neg {n : Nat} {q : Rat} (s : Sz n q) : Sz n (-q) := ⟨by rw [Rat.neg_num, Int.natAbs_neg]; exact s.1, s.2⟩
theorem Sz.sm {n m : Nat} {p q : Rat} (s : Sz n p) (t : Sz m q) (h : n + m < 1000000) : Sm p.num q.den := sm_of n m s.1 (by simpa using t.2) h
theorem Sz.smn {n m : Nat} {p q : Rat} (s : Sz n p) (t : Sz m q) (h : n + m < 1000000) : Sm p.num q.num := sm_of n m s.1 t.1 h
theorem Sz.smd {n m : Nat} {p q : Rat} (s : Sz n p) (t : Sz m q) (h : n + m < 1000000) : Sm p.den q.den := sm_of n m (by simpa using s.2) (by simpa using t.2) h
theorem Sz.smx {n m : Nat} {p q : Rat} (s : Sz n p) (t : Sz m q) (h : n + m < 1000000) : Sm p.den q.num := sm_of n m (by simpa using s.2) t.1 h
/-- the size of a fraction -/
def absQ (q : Rat) : Rat := if q < 0 then -q else q
theorem absQ_num (q : Rat) : (absQ q).num = q.num.natAbs := by
  unfold absQ
  have h := @Rat.num_nonneg q
  split
  · rename_i hq
    have : ¬ 0 ≤ q.num := fun z => absurd (h.mp z) (Rat.not_le.mpr hq)
    rw [Rat.neg_num]; omega
  · rename_i hq
    have : 0 ≤ q.num := h.mpr (Rat.not_lt.mp hq)
    omega
theorem absQ_den (q : Rat) : (absQ q).den = q.den := by
  unfold absQ; split <;> rfl
theorem rD_abs (q : Rat) : rD (absQ q) = .tup [.int q.num.natAbs, .int q.den] := by
  unfold rD; rw [absQ_num, absQ_den]
/-- -1, 0, 1 -/
def ordF (p q : Rat) : Int := if p < q then -1 else if q < p then 1 else 0
section
variable {P : Prog} {F k : Nat} {S : Store} {E : XP}
theorem order_wp (h : P.defs.lookup ("order" : Str) = some a_order) {p q : Rat} {n m : Nat} (sp : Sz n p) (sq : Sz m q) (hnm : n + m < 1000000) :
    Wp (callN P F (k + 1) "order" [rD p, rD q] S) E fun r S' => S' = S ∧ r = .int (ordF p q) := by
  apply wp_callN h rfl
  simp only [a_order]
  have s1 := sp.sm sq hnm
  have s2 := sq.sm sp (by omega)
  simp [wpx, wpo, seq_rD, s1, s2]
  unfold ordF
  simp only [Rat.lt_iff]
  by_cases h1 : p.num * q.den < q.num * p.den
  · simp [h1]
  · by_cases h2 : q.num * p.den < p.num * q.den <;> simp [h1, h2]
theorem size_wp (h : P.defs.lookup ("size" : Str) = some a_size) {p : Rat} : Wp (callN P F (k + 1) "size" [rD p] S) E fun r S' => S' = S ∧ r = rD (absQ p) := by
  apply wp_callN h rfl
  simp only [a_size]
  simp [wpx, wpo, seq_rD, rD_abs]
end
end Lt
set_option maxRecDepth 100000
set_option maxHeartbeats 1000000
namespace Lt
open PySem (Str)
open LawT
theorem divInt_neg_neg (a b : Int) : Rat.divInt (-a) (-b) = Rat.divInt a b := Rat.neg_divInt_neg a b
structure HR (P : Prog) : Prop where
  common : P.defs.lookup ("common" : Str) = some a_common
  ratio : P.defs.lookup ("ratio" : Str) = some a_ratio
section
variable {P : Prog} {F k : Nat} {S : Store} {E : XP}
theorem common_wp (h : P.defs.lookup ("common" : Str) = some a_common) {a b : Int} (hF : b.natAbs < F) :
    Wp (callN P F (k + 1) "common" [.int a, .int b] S) E fun r S' => S' = S ∧ r = .int (a.natAbs.gcd b.natAbs : Nat) := by
  apply wp_callN h rfl
  simp only [a_common]
  simp [wpx, wpo]
  refine wh_rule (fun e S1 => S1 = S ∧ ∃ x y : Int, e = [some (.int x), some (.int y)] ∧ 0 ≤ x ∧ 0 ≤ y ∧ x.natAbs.gcd y.natAbs = a.natAbs.gcd b.natAbs) (fun e _ => match e with
    | [_, some (.int y)] => y.natAbs
    | _ => 0) ?_ F _ _ ⟨rfl, _, _, rfl, by omega, by omega, by simp⟩ (by simp; omega)
  rintro e S1 ⟨rfl, x, y, rfl, hx, hy, hg⟩
  simp [wpx, wpo]
  by_cases h0 : 0 < y
  · left
    refine ⟨h0, ?_⟩
    have hy0 : y ≠ 0 := by omega
    simp [hy0, wpx]
    refine ⟨⟨y, x.fmod y, ⟨rfl, rfl⟩, hy, Int.fmod_nonneg_of_pos _ h0, ?_⟩, ?_⟩
    · rw [gcd_step hx h0, hg]
    · have := Int.fmod_lt_of_pos x h0
      have := Int.fmod_nonneg_of_pos x h0
      omega
  · right
    have hy0 : y = 0 := by omega
    subst hy0
    refine ⟨by omega, ?_⟩
    simp at hg
    omega
theorem ratio_wp (h : HR P) {a b : Int} (hb : b ≠ 0) (hB : b.natAbs < BIG) (hF : BIG ≤ F) :
    Wp (callN P F (k + 2) "ratio" [.int a, .int b] S) E fun r S' => S' = S ∧ r = rD (Rat.divInt a b) := by
  apply wp_callN h.ratio rfl
  simp only [a_ratio]
  simp [wpx, wpo, hb]
  refine (common_wp h.common (by omega)).imp ?_
  rintro r S1 ⟨rfl, rfl⟩
  have hp : 0 < a.natAbs.gcd b.natAbs := Nat.gcd_pos_of_pos_right _ (by omega)
  have hle : a.natAbs.gcd b.natAbs ≤ b.natAbs := Nat.le_of_dvd (by omega) (Nat.gcd_dvd_right _ _)
  have h1 : ((a.natAbs.gcd b.natAbs : Nat) : Int) ≠ 0 := by omega
  have h2 : (a.natAbs.gcd b.natAbs).log2 < 9000 := big_dv (by omega)
  have h3 : ¬ (a = 0 ∧ b = 0) := fun z => hb z.2
  by_cases hn : b < 0
  · have e : rD (Rat.divInt a b) = .tup [.int (a.fdiv (-((a.natAbs.gcd b.natAbs : Nat) : Int))), .int (b.fdiv (-((a.natAbs.gcd b.natAbs : Nat) : Int)))] := by
      rw [← divInt_neg_neg, divInt_rD (by omega), Int.natAbs_neg, Int.natAbs_neg]
      have : ∀ z g : Int, z.fdiv (-g) = (-z).fdiv g := fun z g => by rw [← Int.neg_fdiv_neg, Int.neg_neg]
      rw [this, this, Int.fdiv_eq_ediv_of_nonneg _ (by omega), Int.fdiv_eq_ediv_of_nonneg _ (by omega)]
    simp [wpx, wpo, hn, h1, h2, h3, e]
  · have e : rD (Rat.divInt a b) = .tup [.int (a.fdiv ((a.natAbs.gcd b.natAbs : Nat) : Int)), .int (b.fdiv ((a.natAbs.gcd b.natAbs : Nat) : Int))] := by
      rw [divInt_rD (by omega)]
      rw [Int.fdiv_eq_ediv_of_nonneg _ (by omega), Int.fdiv_eq_ediv_of_nonneg _ (by omega)]
    simp [wpx, wpo, hn, h1, h2, h3, e]
theorem num_ne {q : Rat} (h : q ≠ 0) : q.num ≠ 0 := fun z => h (Rat.num_eq_zero.mp z)
theorem add_divInt (p q : Rat) : Rat.divInt (p.num * q.den + q.num * p.den) (p.den * q.den) = p + q := by
  have h := Rat.divInt_add_divInt p.num q.num (d₁ := p.den) (d₂ := q.den) (by have := p.den_pos; omega) (by have := q.den_pos; omega)
  rw [Rat.num_divInt_den, Rat.num_divInt_den] at h
  exact h.symm
theorem sub_divInt (p q : Rat) : Rat.divInt (p.num * q.den - q.num * p.den) (p.den * q.den) = p - q := by
  have h := Rat.divInt_sub_divInt p.num q.num (d₁ := p.den) (d₂ := q.den) (by have := p.den_pos; omega) (by have := q.den_pos; omega)
  rw [Rat.num_divInt_den, Rat.num_divInt_den] at h
  exact h.symm
theorem mul_divInt (p q : Rat) : Rat.divInt (p.num * q.num) (p.den * q.den) = p * q := by
  have h := Rat.divInt_mul_divInt p.num q.num (d₁ := p.den) (d₂ := q.den)
  rw [Rat.num_divInt_den, Rat.num_divInt_den] at h
  exact h.symm
theorem div_divInt (p q : Rat) : Rat.divInt (p.num * q.den) (p.den * q.num) = p / q := by
  have h := Rat.divInt_mul_divInt p.num q.den (d₁ := p.den) (d₂ := q.num)
  have e : q⁻¹ = Rat.divInt q.den q.num := Rat.inv_def q
  rw [Rat.num_divInt_den, ← e] at h
  rw [Rat.div_def]
  exact h.symm
theorem natAbs_mul_lt {a b : Int} {n m : Nat} (ha : a.natAbs < 2 ^ n) (hb : b.natAbs < 2 ^ m) : (a * b).natAbs < 2 ^ (n + m) := by
  rw [Int.natAbs_mul]
  exact mul_lt_pow ha hb
theorem Sz.dn {n : Nat} {q : Rat} (s : Sz n q) : ((q.den : Nat) : Int).natAbs < 2 ^ n := by simpa using s.2
theorem sz_add {n m : Nat} {p q : Rat} (s : Sz n p) (t : Sz m q) : Sz (n + m + 1) (p + q) := by
  rw [← add_divInt]
  have h1 := natAbs_mul_lt s.1 t.dn
  have h2 := natAbs_mul_lt t.1 s.dn
  rw [Nat.add_comm m n] at h2
  have h3 := natAbs_mul_lt s.dn t.dn
  have e : (2 : Nat) ^ (n + m + 1) = 2 ^ (n + m) * 2 := Nat.pow_succ ..
  refine sz_divInt (Int.mul_pos (den_pos p) (den_pos q)) ?_ ?_ <;> omega
theorem sz_sub {n m : Nat} {p q : Rat} (s : Sz n p) (t : Sz m q) : Sz (n + m + 1) (p - q) := by
  rw [Rat.sub_eq_add_neg]
  exact sz_add s (sz_neg t)
theorem sz_mul {n m : Nat} {p q : Rat} (s : Sz n p) (t : Sz m q) : Sz (n + m) (p * q) := by
  rw [← mul_divInt]
  exact sz_divInt (Int.mul_pos (den_pos p) (den_pos q)) (natAbs_mul_lt s.1 t.1) (natAbs_mul_lt s.dn t.dn)
theorem sz_inv {n : Nat} {q : Rat} (s : Sz n q) : Sz n q⁻¹ := by
  have hp : 0 < 2 ^ n := Nat.pow_pos (by decide)
  unfold Sz
  rw [Rat.num_inv, Rat.den_inv]
  constructor
  · rcases Int.lt_trichotomy q.num 0 with h | h | h
    · rw [Int.sign_eq_neg_one_of_neg h]; simpa using s.2
    · rw [h]; simpa using hp
    · rw [Int.sign_eq_one_of_pos h]; simpa using s.2
  · split
    · have := s.2; have := q.den_pos; omega
    · exact s.1
theorem sz_div {n m : Nat} {p q : Rat} (s : Sz n p) (t : Sz m q) : Sz (n + m) (p / q) := by
  rw [Rat.div_def]
  exact sz_mul s (sz_inv t)
theorem sz_abs {n : Nat} {q : Rat} (s : Sz n q) : Sz n (absQ q) := by
  unfold absQ; split
  · exact sz_neg s
  · exact s
theorem ok_of {P : Prog} {F k : Nat} {f : Str} {ds : List D} (w : Wp (callN P F k f ds []) (fun _ _ => False) fun r _ => r = .bl true) : ∃ S', callN P F k f ds [] = .ok (.bl true) S' := by
  cases h : callN P F k f ds [] with
  | ok r S' =>
    rw [h, wp_ok] at w
    exact ⟨S', by rw [w]⟩
  | exc c S' => rw [h, wp_exc] at w; exact w.elim
  | bad => rw [h, wp_bad] at w; exact w.elim
/-- the four sums -/
structure HS (P : Prog) : Prop extends HR P where
  plus : P.defs.lookup ("plus" : Str) = some a_plus
  minus : P.defs.lookup ("minus" : Str) = some a_minus
  times : P.defs.lookup ("times" : Str) = some a_times
  over : P.defs.lookup ("over" : Str) = some a_over
theorem big_pow {n a : Nat} (h : a < 2 ^ n) (hn : n ≤ 8000) : a < BIG := by
  unfold BIG
  exact Nat.lt_of_lt_of_le h (nat_pow_mono hn)
theorem plus_wp (h : HR P) (hf : P.defs.lookup ("plus" : Str) = some a_plus) {p q : Rat} {n m : Nat} (s : Sz n p) (t : Sz m q) (hnm : n + m ≤ 8000) (hF : BIG ≤ F) :
    Wp (callN P F (k + 3) "plus" [rD p, rD q] S) E fun r S' => S' = S ∧ r = rD (p + q) := by
  apply wp_callN hf rfl
  simp only [a_plus]
  have s1 := s.sm t (by omega)
  have s2 := t.sm s (by omega)
  have s3 := s.smd t (by omega)
  simp [wpx, wpo, seq_rD, s1, s2, s3]
  rw [← add_divInt]
  exact ratio_wp h (Int.ne_of_gt (Int.mul_pos (den_pos p) (den_pos q))) (big_pow (natAbs_mul_lt s.dn t.dn) hnm) hF
theorem minus_wp (h : HR P) (hf : P.defs.lookup ("minus" : Str) = some a_minus) {p q : Rat} {n m : Nat} (s : Sz n p) (t : Sz m q) (hnm : n + m ≤ 8000) (hF : BIG ≤ F) :
    Wp (callN P F (k + 3) "minus" [rD p, rD q] S) E fun r S' => S' = S ∧ r = rD (p - q) := by
  apply wp_callN hf rfl
  simp only [a_minus]
  have s1 := s.sm t (by omega)
  have s2 := t.sm s (by omega)
  have s3 := s.smd t (by omega)
  simp [wpx, wpo, seq_rD, s1, s2, s3]
  rw [← sub_divInt]
  exact ratio_wp h (Int.ne_of_gt (Int.mul_pos (den_pos p) (den_pos q))) (big_pow (natAbs_mul_lt s.dn t.dn) hnm) hF
theorem times_wp (h : HR P) (hf : P.defs.lookup ("times" : Str) = some a_times) {p q : Rat} {n m : Nat} (s : Sz n p) (t : Sz m q) (hnm : n + m ≤ 8000) (hF : BIG ≤ F) :
    Wp (callN P F (k + 3) "times" [rD p, rD q] S) E fun r S' => S' = S ∧ r = rD (p * q) := by
  apply wp_callN hf rfl
  simp only [a_times]
  have s1 := s.smn t (by omega)
  have s3 := s.smd t (by omega)
  simp [wpx, wpo, seq_rD, s1, s3]
  rw [← mul_divInt]
  exact ratio_wp h (Int.ne_of_gt (Int.mul_pos (den_pos p) (den_pos q))) (big_pow (natAbs_mul_lt s.dn t.dn) hnm) hF
theorem over_wp (h : HR P) (hf : P.defs.lookup ("over" : Str) = some a_over) {p q : Rat} {n m : Nat} (s : Sz n p) (t : Sz m q) (hq : q ≠ 0) (hnm : n + m ≤ 8000) (hF : BIG ≤ F) :
    Wp (callN P F (k + 3) "over" [rD p, rD q] S) E fun r S' => S' = S ∧ r = rD (p / q) := by
  apply wp_callN hf rfl
  simp only [a_over]
  have s1 := s.sm t (by omega)
  have s3 := s.smx t (by omega)
  simp [wpx, wpo, seq_rD, s1, s3]
  rw [← div_divInt]
  exact ratio_wp h (Int.mul_ne_zero (Int.ne_of_gt (den_pos p)) (num_ne hq)) (big_pow (natAbs_mul_lt s.dn t.1) hnm) hF
end
end Lt
set_option maxRecDepth 100000
set_option maxHeartbeats 1000000
namespace Lt
open PySem (Str)
open LawT
/-- a sample -/
def smD (m : Int) (v : Rat) : D := .tup [.int m, rD v]
/-- a line -/
def lnD (a b : Rat) : D := .tup [rD a, rD b]
theorem rD_int (m : Int) : D.tup [.int m, .int 1] = rD (m : Rat) := rfl
theorem sz_int {m : Int} {n : Nat} (h : m.natAbs < 2 ^ n) (hn : 0 < n) : Sz n (m : Rat) := ⟨h, by
  show 1 < 2 ^ n
  exact Nat.one_lt_two_pow (by omega)⟩
theorem rat_ne {a b : Int} (h : a ≠ b) : (a : Rat) - (b : Rat) ≠ 0 := fun z => h (by
  have : (a : Rat) = b := by grind
  exact Rat.intCast_inj.mp this)
theorem pick {xs : List Int} {i : Int} (h0 : 0 ≤ i) (h1 : i < xs.length) : ∃ w ∈ xs, ∀ S, itemR (some (xs.map .int)) i S = .ok (.int w) S := by
  have hi : i.toNat < xs.length := by omega
  exact ⟨xs[i.toNat], List.getElem_mem _, fun S => itemR_int h0 (by simp [hi])⟩
section
variable {P : Prog} {F k : Nat} {S : Store} {E : XP}
theorem sm_seq {m : Int} {v : Rat} : seqOf S (smD m v) = some [.int m, rD v] := rfl
theorem ln_seq {a b : Rat} : seqOf S (lnD a b) = some [rD a, rD b] := rfl
/-- how far the middle one stands off the chord -/
def standF (m1 : Int) (v1 : Rat) (m2 : Int) (v2 : Rat) (m3 : Int) (v3 : Rat) : Rat := v2 - (v1 * ((m3 : Rat) - (m2 : Rat)) + v3 * ((m2 : Rat) - (m1 : Rat))) / ((m3 : Rat) - (m1 : Rat))
theorem sz_isub {a b : Int} {n : Nat} (ha : a.natAbs < 2 ^ n) (hb : b.natAbs < 2 ^ n) : Sz (n + 1) ((a : Rat) - (b : Rat)) := by
  have e1 : (2 : Nat) ^ (n + 1) = 2 ^ n * 2 := Nat.pow_succ ..
  rw [← Rat.intCast_sub]
  exact sz_int (by omega) (by omega)
end
end Lt
set_option maxRecDepth 100000
set_option maxHeartbeats 1000000
namespace Lt
open PySem (Str)
open LawT
def chordF (m1 : Int) (v1 : Rat) (w : Int) (m3 : Int) (v3 : Rat) : Rat := (v1 * ((m3 : Rat) - (w : Rat)) + v3 * ((w : Rat) - (m1 : Rat))) / ((m3 : Rat) - (m1 : Rat))
end Lt
set_option maxRecDepth 100000
set_option maxHeartbeats 1000000
namespace Lt
open PySem (Str)
open LawT
theorem sz_chord2 {m1 w m3 : Int} {v1 v3 : Rat} {n m : Nat} (s1 : Sz n v1) (s3 : Sz n v3) (t1 : m1.natAbs < 2 ^ m) (tw : w.natAbs < 2 ^ m) (t3 : m3.natAbs < 2 ^ m) : Sz (2 * n + 3 * m + 4) (chordF m1 v1 w m3 v3) :=
  (sz_div (sz_add (sz_mul s1 (sz_isub t3 tw)) (sz_mul s3 (sz_isub tw t1))) (sz_isub t3 t1)).mono (by omega)
section
variable {P : Prog} {F k : Nat} {S : Store} {E : XP}
theorem sz_stand2 {m1 m2 m3 : Int} {v1 v2 v3 : Rat} {n c m : Nat} (s1 : Sz n v1) (s2 : Sz c v2) (s3 : Sz n v3) (t1 : m1.natAbs < 2 ^ m) (t2 : m2.natAbs < 2 ^ m) (t3 : m3.natAbs < 2 ^ m) : Sz (c + (2 * n + 3 * m + 4) + 1) (standF m1 v1 m2 v2 m3 v3) :=
  sz_sub s2 (sz_chord2 s1 s3 t1 t2 t3)
end
end Lt
set_option maxRecDepth 100000
set_option maxHeartbeats 1000000
namespace Lt
open PySem (Str)
open LawT
class SZ (q : Rat) (n : outParam Nat) : Prop where
  z : Sz n q
class IZ (i : Int) (n : outParam Nat) : Prop where
  z : i.natAbs < 2 ^ n
section
variable {p q : Rat} {i j : Int} {n m : Nat}
instance [a : SZ p n] [b : SZ q m] : SZ (p + q) (n + m + 1) := ⟨sz_add a.z b.z⟩
instance [a : SZ p n] [b : SZ q m] : SZ (p - q) (n + m + 1) := ⟨sz_sub a.z b.z⟩
instance [a : SZ p n] [b : SZ q m] : SZ (p * q) (n + m) := ⟨sz_mul a.z b.z⟩
instance [a : SZ p n] [b : SZ q m] : SZ (p / q) (n + m) := ⟨sz_div a.z b.z⟩
instance [a : SZ p n] : SZ (-p) n := ⟨sz_neg a.z⟩
instance [a : SZ p n] : SZ (absQ p) n := ⟨sz_abs a.z⟩
instance [a : IZ i n] : SZ (i : Rat) (n + 1) := ⟨sz_int (Nat.lt_of_lt_of_le a.z (nat_pow_mono (by omega))) (by omega)⟩
instance : SZ 0 1 := ⟨by decide, by decide⟩
instance : SZ 1 1 := ⟨by decide, by decide⟩
instance : SZ 2 2 := ⟨by decide, by decide⟩
instance [a : SZ p n] : IZ p.num n := ⟨a.z.1⟩
instance [a : SZ p n] : IZ (p.den : Int) n := ⟨by simpa using a.z.2⟩
instance [a : IZ i n] [b : IZ j m] : IZ (i + j) (n + m + 1) := ⟨by
  have h1 := a.z
  have h2 := b.z
  have e1 : 2 ^ n ≤ 2 ^ (n + m) := nat_pow_mono (by omega)
  have e2 : 2 ^ m ≤ 2 ^ (n + m) := nat_pow_mono (by omega)
  have e3 : 2 ^ (n + m + 1) = 2 ^ (n + m) * 2 := Nat.pow_succ ..
  omega⟩
instance [a : IZ i n] [b : IZ j m] : IZ (i - j) (n + m + 1) := ⟨by
  have h1 := a.z
  have h2 := b.z
  have e1 : 2 ^ n ≤ 2 ^ (n + m) := nat_pow_mono (by omega)
  have e2 : 2 ^ m ≤ 2 ^ (n + m) := nat_pow_mono (by omega)
  have e3 : 2 ^ (n + m + 1) = 2 ^ (n + m) * 2 := Nat.pow_succ ..
  omega⟩
instance [a : IZ i n] [b : IZ j m] : IZ (i * j) (n + m) := ⟨natAbs_mul_lt a.z b.z⟩
instance [a : IZ i n] : IZ (-i) n := ⟨by rw [Int.natAbs_neg]; exact a.z⟩
instance [a : IZ i n] : IZ (i.natAbs : Int) n := ⟨by simpa using a.z⟩
instance : IZ 0 1 := ⟨by decide⟩
instance : IZ 1 1 := ⟨by decide⟩
instance : IZ 2 2 := ⟨by decide⟩
instance : IZ 3 2 := ⟨by decide⟩
instance : IZ 4 3 := ⟨by decide⟩
instance : IZ 5 3 := ⟨by decide⟩
instance : IZ 6 3 := ⟨by decide⟩
instance : IZ 7 3 := ⟨by decide⟩
instance : IZ 8 4 := ⟨by decide⟩
instance : IZ 9 4 := ⟨by decide⟩
instance : IZ 10 4 := ⟨by decide⟩
instance : IZ 11 4 := ⟨by decide⟩
instance : IZ 12 4 := ⟨by decide⟩
instance : IZ 13 4 := ⟨by decide⟩
instance : IZ 14 4 := ⟨by decide⟩
instance : IZ 15 4 := ⟨by decide⟩
instance : IZ 16 5 := ⟨by decide⟩
instance : IZ 17 5 := ⟨by decide⟩
instance : IZ 18 5 := ⟨by decide⟩
instance : IZ 19 5 := ⟨by decide⟩
instance : IZ 20 5 := ⟨by decide⟩
instance : IZ 21 5 := ⟨by decide⟩
instance : IZ 22 5 := ⟨by decide⟩
instance : IZ 23 5 := ⟨by decide⟩
instance : IZ 24 5 := ⟨by decide⟩
instance : IZ 25 5 := ⟨by decide⟩
instance : IZ 26 5 := ⟨by decide⟩
instance : IZ 27 5 := ⟨by decide⟩
instance : IZ 28 5 := ⟨by decide⟩
instance : IZ 29 5 := ⟨by decide⟩
instance : IZ 30 5 := ⟨by decide⟩
instance : IZ 31 5 := ⟨by decide⟩
instance : IZ 32 6 := ⟨by decide⟩
instance : IZ 33 6 := ⟨by decide⟩
instance : IZ 34 6 := ⟨by decide⟩
instance : IZ 35 6 := ⟨by decide⟩
instance : IZ 36 6 := ⟨by decide⟩
instance : IZ 37 6 := ⟨by decide⟩
instance : IZ 38 6 := ⟨by decide⟩
instance : IZ 39 6 := ⟨by decide⟩
instance : IZ 40 6 := ⟨by decide⟩
instance : IZ 60 6 := ⟨by decide⟩
instance : IZ 100 7 := ⟨by decide⟩
instance : IZ 120 7 := ⟨by decide⟩
instance : IZ 1000 10 := ⟨by decide⟩
instance : IZ 1009 10 := ⟨by decide⟩
instance : IZ 7919 13 := ⟨by decide⟩
theorem divInt_eq_div (a b : Int) : Rat.divInt a b = (a : Rat) / (b : Rat) := Rat.divInt_eq_div a b
instance [a : IZ i n] [b : IZ j m] : SZ (Rat.divInt i j) (n + m + 2) := ⟨by
  rw [divInt_eq_div]
  have h := (inferInstance : SZ ((i : Rat) / (j : Rat)) (n + 1 + (m + 1))).z
  exact h.mono (by omega)⟩
theorem SZ.of (h : Sz n q) : SZ q n := ⟨h⟩
theorem sm_iz [a : IZ i n] [b : IZ j m] (h : n + m < 1000000) : Sm i j := sm_of n m a.z b.z h
end
theorem eq_of_wp {α : Type} {r : R α} {S : Store} {x : α} (h : Wp r (fun _ _ => False) fun a S' => S' = S ∧ a = x) : r = .ok x S := by
  cases r with
  | ok a S' => rw [wp_ok] at h; obtain ⟨rfl, rfl⟩ := h; rfl
  | exc c S' => rw [wp_exc] at h; exact h.elim
  | bad => rw [wp_bad] at h; exact h.elim
theorem wp_of_eq {α : Type} {r : R α} {S : Store} {x : α} {E : XP} {Q : α → Store → Prop} (h : r = .ok x S) (q : Q x S) : Wp r E Q := by
  rw [h, wp_ok]; exact q
/-- the answer of a pure function's body -/
theorem call_eq {P : Prog} {F k : Nat} {f : Str} {m : Def} {ds : List D} {S : Store} {x : D} (h : P.defs.lookup f = some m) (hl : ds.length = m.ps.length)
    (w : WpS (exB (P.cx F (callN P F k)) m.body (ds.map some ++ List.replicate (m.ns.length - ds.length) none) S) { nx := fun _ S' => S' = S ∧ D.non = x, rt := fun d S' => S' = S ∧ d = x }) : callN P F (k + 1) f ds S = .ok x S :=
  eq_of_wp (wp_callN h hl w)
section
variable {p q : Rat}
theorem ord_pos : (0 < ordF p q) = (q < p) := by
  unfold ordF; split
  · have : ¬ q < p := by grind
    simp [this]
  · split <;> simp [*]
theorem ord_neg : (ordF p q < 0) = (p < q) := by
  unfold ordF; split
  · simp [*]
  · split <;> simp [*]
theorem ord_nonneg : (0 ≤ ordF p q) = (q ≤ p) := by
  unfold ordF; split
  · have : ¬ q ≤ p := by grind
    simp [this]
  · have : q ≤ p := by grind
    split <;> simp [this]
theorem ord_nonpos : (ordF p q ≤ 0) = (p ≤ q) := by
  unfold ordF; split
  · have : p ≤ q := by grind
    simp [this]
  · split
    · have : ¬ p ≤ q := by grind
      simp [this]
    · have : p ≤ q := by grind
      simp [this]
theorem ord_zero : (ordF p q = 0) = (p = q) := by
  unfold ordF; split
  · have : ¬ p = q := by grind
    simp [this]
  · split
    · have : ¬ p = q := by grind
      simp [this]
    · have : p = q := by grind
      simp [this]
end
def ords := And.intro @ord_pos <| And.intro @ord_neg <| And.intro @ord_nonneg <| And.intro @ord_nonpos <| @ord_zero
section
variable {P : Prog} {F k n m : Nat} {S : Store} {p q : Rat}
theorem plus_e (h : HS P) (hF : BIG ≤ F) [a : SZ p n] [b : SZ q m] (hn : n + m ≤ 8000) : callN P F (k + 3) "plus" [rD p, rD q] S = .ok (rD (p + q)) S := eq_of_wp (plus_wp h.toHR h.plus a.z b.z hn hF)
theorem minus_e (h : HS P) (hF : BIG ≤ F) [a : SZ p n] [b : SZ q m] (hn : n + m ≤ 8000) : callN P F (k + 3) "minus" [rD p, rD q] S = .ok (rD (p - q)) S := eq_of_wp (minus_wp h.toHR h.minus a.z b.z hn hF)
theorem times_e (h : HS P) (hF : BIG ≤ F) [a : SZ p n] [b : SZ q m] (hn : n + m ≤ 8000) : callN P F (k + 3) "times" [rD p, rD q] S = .ok (rD (p * q)) S := eq_of_wp (times_wp h.toHR h.times a.z b.z hn hF)
theorem over_e (h : HS P) (hF : BIG ≤ F) [a : SZ p n] [b : SZ q m] (hq : q ≠ 0) (hn : n + m ≤ 8000) : callN P F (k + 3) "over" [rD p, rD q] S = .ok (rD (p / q)) S := eq_of_wp (over_wp h.toHR h.over a.z b.z hq hn hF)
theorem order_e (h : P.defs.lookup ("order" : Str) = some a_order) [a : SZ p n] [b : SZ q m] (hn : n + m ≤ 8000) : callN P F (k + 1) "order" [rD p, rD q] S = .ok (.int (ordF p q)) S := eq_of_wp (order_wp h a.z b.z (by omega))
theorem size_e (h : P.defs.lookup ("size" : Str) = some a_size) : callN P F (k + 1) "size" [rD p] S = .ok (rD (absQ p)) S := eq_of_wp (size_wp h)
theorem lratio_e (h : P.defs.lookup ("_law_ratio" : Str) = some a__law_ratio) (hF : BIG ≤ F) {i j : Int} [b : IZ j m] (hj : 0 < j) (hm : m ≤ 8000) : callN P F (k + 1) "_law_ratio" [.int i, .int j] S = .ok (rD (Rat.divInt i j)) S := eq_of_wp (law_ratio_wp h hj (big_pow b.z hm) hF)
end
theorem rat_isub (a b : Int) : ((a - b : Int) : Rat) = (a : Rat) - (b : Rat) := Rat.intCast_sub ..
section
variable {P : Prog} {F k n n' m m' : Nat} {S : Store} {v v' : Rat} {t t' : Int}
theorem slope_e (h : HS P) (hF : BIG ≤ F) (hs : P.defs.lookup ("slope" : Str) = some a_slope) [SZ v n] [SZ v' n'] [IZ t m] [IZ t' m'] (hne : t ≠ t') (hn : n + n' + m + m' ≤ 7990) :
    callN P F (k + 4) "slope" [smD t v, smD t' v'] S = .ok (rD ((v' - v) / ((t' : Rat) - (t : Rat)))) S := by
  apply call_eq hs rfl
  simp only [a_slope]
  have h1 : ((t' - t : Int) : Rat) ≠ 0 := by rw [rat_isub]; exact rat_ne (Ne.symm hne)
  have h2 : ((t - t' : Int) : Rat) ≠ 0 := by rw [rat_isub]; exact rat_ne hne
  by_cases hlt : t' < t
  · simp [wpx, wpo, sm_seq, hlt]
    refine wp_of_eq (minus_e h hF (by omega)) ?_
    try simp [wpx, wpo, sm_seq]
    rw [rD_int]
    refine wp_of_eq (over_e h hF h2 (by omega)) ⟨rfl, ?_⟩
    congr 1
    rw [rat_isub] at h2 ⊢
    have := rat_ne (Ne.symm hne)
    grind
  · simp [wpx, wpo, sm_seq, hlt]
    refine wp_of_eq (minus_e h hF (by omega)) ?_
    try simp [wpx, wpo, sm_seq]
    rw [rD_int]
    refine wp_of_eq (over_e h hF h1 (by omega)) ⟨rfl, ?_⟩
    rw [rat_isub]
    try rfl
theorem line_by_e (h : HS P) (hF : BIG ≤ F) (hs : P.defs.lookup ("line_by" : Str) = some a_line_by) [SZ v n] [SZ v' n'] [IZ t m] (hn : n + n' + m ≤ 7990) :
    callN P F (k + 4) "line_by" [rD v, smD t v'] S = .ok (lnD v (v' - v * (t : Rat))) S := by
  apply call_eq hs rfl
  simp only [a_line_by]
  simp [wpx, wpo, sm_seq]
  rw [rD_int]
  refine wp_of_eq (times_e h hF (by omega)) ?_
  refine wp_of_eq (minus_e h hF (by omega)) ⟨rfl, rfl⟩
theorem height_e (h : HS P) (hF : BIG ≤ F) (hs : P.defs.lookup ("height" : Str) = some a_height) {a b w : Rat} {l : Nat} [SZ a n] [SZ b m] [SZ w l] (hn : n + m + l ≤ 7990) :
    callN P F (k + 4) "height" [lnD a b, rD w] S = .ok (rD (a * w + b)) S := by
  apply call_eq hs rfl
  simp only [a_height]
  simp [wpx, wpo, ln_seq]
  refine wp_of_eq (times_e h hF (by omega)) ?_
  try simp [wpx, wpo, ln_seq]
  exact wp_of_eq (plus_e h hF (by omega)) ⟨rfl, rfl⟩
theorem off_e (h : HS P) (hF : BIG ≤ F) (hh : P.defs.lookup ("height" : Str) = some a_height) (hs : P.defs.lookup ("off" : Str) = some a_off) {a b : Rat} {l : Nat} [SZ a n] [SZ b m] [SZ v n'] [IZ t l] (hn : n + m + l + n' ≤ 7980) :
    callN P F (k + 5) "off" [lnD a b, smD t v] S = .ok (rD (v - (a * (t : Rat) + b))) S := by
  apply call_eq hs rfl
  simp only [a_off]
  simp [wpx, wpo, sm_seq]
  rw [rD_int]
  refine wp_of_eq (height_e h hF hh (by omega)) ?_
  exact wp_of_eq (minus_e h hF (by omega)) ⟨rfl, rfl⟩
instance {m1 m2 m3 : Int} {v1 v2 v3 : Rat} {c : Nat} [s1 : SZ v1 n] [s2 : SZ v2 c] [s3 : SZ v3 n] [t1 : IZ m1 m] [t2 : IZ m2 m] [t3 : IZ m3 m] : SZ (standF m1 v1 m2 v2 m3 v3) (c + (2 * n + 3 * m + 4) + 1) := ⟨sz_stand2 s1.z s2.z s3.z t1.z t2.z t3.z⟩
end
end Lt
set_option maxRecDepth 100000
set_option maxHeartbeats 1000000
namespace Lt
open PySem (Str)
open LawT
abbrev Ent := Int × Option Rat
def entD : Ent → D
  | (m, some q) => .tup [.int m, rD q]
  | (m, none) => .tup [.int m, .non]
def valD : Option Rat → D
  | some q => rD q
  | none => .non
theorem entD_eq (e : Ent) : entD e = .tup [.int e.1, valD e.2] := by
  obtain ⟨m, v⟩ := e
  cases v <;> rfl
def entP : Ent → PySem.PyData
  | (m, some q) => .tuple [.int m, .tuple [.int q.num, .int q.den]]
  | (m, none) => .tuple [.int m, .none]
theorem toP_ent (S : Store) (n : Nat) (e : Ent) : toP S (n + 3) (entD e) = some (entP e) := by
  obtain ⟨m, v⟩ := e
  cases v with
  | none => simp [entD, toP, mapO, entP]
  | some q => simp [entD, rD, toP, mapO, entP]
theorem toP_ents (S : Store) (n : Nat) : ∀ es : List Ent, mapO (toP S (n + 3)) (es.map entD) = some (es.map entP)
  | [] => rfl
  | e :: es => by simp [mapO, toP_ent, toP_ents S n es]
theorem eqv_ent (e : Ent) : PySem.PyData.eqv (entP e) (entP e) = true := by
  obtain ⟨m, v⟩ := e
  cases v <;> simp [entP, PySem.PyData.eqv, PySem.PyData.eqvAll]
theorem eqv_ents : ∀ es : List Ent, PySem.PyData.eqvAll (es.map entP) (es.map entP) = true
  | [] => by simp [PySem.PyData.eqvAll]
  | e :: es => by simp [PySem.PyData.eqvAll, eqv_ent, eqv_ents es]
theorem eqD_rows {S : Store} {a b : Nat} {es : List Ent} (ha : getL S a = some (es.map entD)) (hb : getL S b = some (es.map entD)) : eqD S (.ref a) (.ref b) = some true := by
  unfold eqD
  have h : ∀ c, getL S c = some (es.map entD) → toP S 12 (.ref c) = some (.list (es.map entP)) := fun c hc => by
    show (match getL S c with
      | some xs => (mapO (toP S 11) xs).map PySem.PyData.list
      | none => none) = _
    rw [hc]
    simp only
    rw [toP_ents S 8 es]
    rfl
  rw [h a ha, h b hb]
  simp [PySem.PyData.eqv, eqv_ents]
section
variable {P : Prog} {F k : Nat} {S : Store} {E : XP}
theorem ent_seq {e : Ent} : seqOf S (entD e) = some [.int e.1, valD e.2] := by rw [entD_eq]; rfl
theorem isN_val {v : Option Rat} : isN (valD v) = v.isNone := by cases v <;> rfl
end
end Lt
set_option maxRecDepth 100000
set_option maxHeartbeats 1000000
namespace Lt
open PySem (Str)
open LawT
def LLs (S : Store) : List Nat → List (List Ent) → Prop
  | [], [] => True
  | q :: qs, r :: rs => getL S q = some (r.map entD) ∧ LLs S qs rs
  | _, _ => False
theorem LLs.len {S : Store} : ∀ {qs : List Nat} {rs : List (List Ent)}, LLs S qs rs → qs.length = rs.length
  | [], [], _ => rfl
  | q :: qs, r :: rs, h => by simp [LLs.len h.2]
theorem LLs.snoc {S : Store} {q : Nat} {r : List Ent} (hq : getL S q = some (r.map entD)) : ∀ {qs : List Nat} {rs : List (List Ent)}, LLs S qs rs → LLs S (qs ++ [q]) (rs ++ [r])
  | [], [], _ => ⟨hq, trivial⟩
  | _ :: _, _ :: _, h => ⟨h.1, LLs.snoc hq h.2⟩
theorem LLs.ext {S S' : Store} (e : Ext S S') : ∀ {qs : List Nat} {rs : List (List Ent)}, LLs S qs rs → LLs S' qs rs
  | [], [], _ => trivial
  | _ :: _, _ :: _, h => ⟨e.getL h.1, LLs.ext e h.2⟩
theorem LLs.set {S : Store} {n : Nat} {c : Cell} : ∀ {qs : List Nat} {rs : List (List Ent)}, LLs S qs rs → n ∉ qs → LLs (S.set n c) qs rs
  | [], [], _, _ => trivial
  | q :: qs, _ :: _, h, hn => by
    rw [List.mem_cons, not_or] at hn
    exact ⟨by rw [getL_set_ne hn.1]; exact h.1, LLs.set h.2 hn.2⟩
theorem LLs.get {S : Store} : ∀ {qs : List Nat} {rs : List (List Ent)} {i : Nat} {q : Nat}, LLs S qs rs → qs[i]? = some q → ∃ r, rs[i]? = some r ∧ getL S q = some (r.map entD)
  | [], [], _, _, _, e => by simp at e
  | q :: qs, r :: rs, i, p, h, e => by
    cases i with
    | zero => simp at e; subst e; exact ⟨r, by simp, h.1⟩
    | succ i => simp at e; obtain ⟨x, h1, h2⟩ := LLs.get h.2 e; exact ⟨x, by simpa using h1, h2⟩
theorem LLs.mem {S : Store} : ∀ {qs : List Nat} {rs : List (List Ent)}, LLs S qs rs → ∀ q ∈ qs, ∃ r ∈ rs, getL S q = some (r.map entD)
  | [], [], _, q, hq => by cases hq
  | p :: qs, r :: rs, h, q, hq => by
    rcases List.mem_cons.mp hq with rfl | hq
    · exact ⟨r, List.mem_cons_self .., h.1⟩
    · obtain ⟨x, h1, h2⟩ := LLs.mem h.2 q hq
      exact ⟨x, List.mem_cons_of_mem _ h1, h2⟩
/-- a new list of new lists -/
def IsLL (S S' : Store) (x : D) (rs : List (List Ent)) : Prop := Ext S S' ∧ ∃ t qs, x = .ref t ∧ S.length ≤ t ∧ getL S' t = some (qs.map .ref) ∧ (∀ q ∈ qs, S.length ≤ q ∧ q ≠ t) ∧ LLs S' qs rs
def stepR (s : List (List Ent) × List Ent) (e : Ent) : List (List Ent) × List Ent := if e.2.isSome = true then (s.1, s.2 ++ [e]) else if 0 < s.2.length then (s.1 ++ [s.2], []) else s
def closeR (s : List (List Ent) × List Ent) : List (List Ent) := if 0 < s.2.length then s.1 ++ [s.2] else s.1
def foldR (es : List Ent) : List (List Ent) × List Ent := es.foldl stepR ([], [])
def runsF (es : List Ent) : List (List Ent) := closeR (foldR es)
theorem foldR_snoc (es : List Ent) (e : Ent) : foldR (es ++ [e]) = stepR (foldR es) e := by
  unfold foldR
  rw [List.foldl_append]
  rfl
section
variable {P : Prog} {F k : Nat} {S : Store} {E : XP}
/-- the store of the loop in runs -/
def RInv (S : Store) (r : Nat) (s : List (List Ent) × List Ent) (e : Env) (S2 : Store) : Prop := Ext S S2 ∧ ∃ t o qs x, e = [some (.ref r), some (.ref t), some (.ref o), x] ∧ S.length ≤ t ∧ S.length ≤ o ∧ t ≠ o ∧ getL S2 t = some (qs.map .ref) ∧ getL S2 o = some (s.2.map entD) ∧ (∀ q ∈ qs, S.length ≤ q ∧ q ≠ t ∧ q ≠ o) ∧ LLs S2 qs s.1
theorem fold_len (es : List Ent) : (foldR es).1.length ≤ es.length ∧ (foldR es).2.length ≤ es.length := by
  have key : ∀ n, n ≤ es.length → (foldR (es.take n)).1.length ≤ n ∧ (foldR (es.take n)).2.length ≤ n := by
    intro n
    induction n with
    | zero => intro _; simp [foldR]
    | succ n ih =>
      intro hn
      obtain ⟨a, b⟩ := ih (by omega)
      have hc : es[n]? = some es[n] := by simp
      rw [List.take_succ, hc, Option.toList, foldR_snoc]
      unfold stepR
      split
      · simp; omega
      · split
        · simp; omega
        · omega
  have := key es.length (Nat.le_refl _)
  rwa [List.take_length] at this
theorem runs_wp (hf : P.defs.lookup ("runs" : Str) = some a_runs) {r : Nat} {es : List Ent} (hr : getL S r = some (es.map entD)) (hl : es.length ≤ 100) :
    Wp (callN P F (k + 1) "runs" [.ref r] S) E fun x S' => IsLL S S' x (runsF es) := by
  apply wp_callN hf rfl
  simp only [a_runs]
  try simp [wpx, wpo, wps]
  refine for_seq (xs := es.map entD) (fun i e S2 => RInv S r (foldR (es.take i)) e S2) (Ext.one.seqOf hr) ?_ ?_ ?_
  · refine ⟨Ext.one, S.length, S.length + 1, [], none, rfl, by omega, by omega, by omega, getL_app0, getL_app, ⟨(fun q hq => by cases hq), trivial⟩⟩
  · rintro i x e S2 hx hi ⟨hE, t, o, qs, y, rfl, ht, ho, hto, hgt, hgo, hqs, hll⟩
    obtain ⟨c, hc, rfl⟩ := map_get hx
    have hfl := fold_len (es.take i)
    have hfi : (es.take i).length ≤ 100 := by simp; omega
    have hst : foldR (es.take (i + 1)) = stepR (foldR (es.take i)) c := by
      rw [List.take_succ, hc, Option.toList, foldR_snoc]
    rw [hst]
    generalize foldR (es.take i) = s at *
    obtain ⟨d, cur⟩ := s
    simp only at *
    have hcl : cur.length < lim := by unfold lim; omega
    have hql : qs.length < lim := by rw [hll.len]; unfold lim; omega
    refine ⟨hE.getL hr, _, bind_name (by simp), ?_⟩
    have hlt := getL_lt hgt
    have hlo := getL_lt hgo
    by_cases hv : c.2 = none
    · by_cases hc0 : 0 < cur.length
      · simp [wpx, wpo, wps, ent_seq, isN_val, hv, hgo, hgt, hc0, hql]
        have e1 : stepR (d, cur) c = (d ++ [cur], []) := by
          unfold stepR
          simp [hv, hc0]
        rw [e1]
        have hon : t ∉ qs := fun h => (hqs t h).2.1 rfl
        have hE4 := hE.set (c := .lst (qs.map D.ref ++ [D.ref o])) ht
        refine ⟨hE4.app, t, S2.length, qs ++ [o], _, rfl, ht, by have := hE.len; omega, by omega, ?_, ?_, ?_, ?_⟩
        · rw [Ext.one.getL (getL_set hlt), List.map_append]; rfl
        · have := getL_new (S := S2.set t (.lst (qs.map D.ref ++ [D.ref o]))) (xs := [])
          rw [List.length_set] at this
          exact this
        · intro q hq
          rcases List.mem_append.mp hq with h | h
          · obtain ⟨r', _, hr'⟩ := hll.mem q h
            have := getL_lt hr'
            exact ⟨(hqs q h).1, (hqs q h).2.1, by omega⟩
          · rw [List.mem_singleton] at h
            subst h
            exact ⟨ho, Ne.symm hto, by omega⟩
        · refine LLs.snoc ?_ ((hll.set hon).ext Ext.one)
          exact Ext.one.getL (by rw [getL_set_ne hto]; exact hgo)
      · simp [wpx, wpo, wps, ent_seq, isN_val, hv, hgo, hgt, hc0, hql]
        have e1 : stepR (d, cur) c = (d, cur) := by
          unfold stepR
          simp [hv, hc0]
        rw [e1]
        exact ⟨hE, t, o, qs, _, rfl, ht, ho, hto, hgt, hgo, hqs, hll⟩
    · simp [wpx, wpo, wps, ent_seq, isN_val, hv, hgo, hgt, hcl]
      have e1 : stepR (d, cur) c = (d, cur ++ [c]) := by
        unfold stepR
        have : c.2.isSome = true := by cases h : c.2 with
          | none => exact absurd h hv
          | some _ => rfl
        simp [this]
      rw [e1]
      refine ⟨hE.set ho, t, o, qs, _, rfl, ht, ho, hto, ?_, ?_, hqs, hll.set fun h => (hqs o h).2.2 rfl⟩
      · rw [getL_set_ne (Ne.symm hto)]; exact hgt
      · rw [getL_set hlo, List.map_append]; rfl
  · rintro e S2 ⟨hE, t, o, qs, y, rfl, ht, ho, hto, hgt, hgo, hqs, hll⟩
    refine ⟨hE.getL hr, ?_⟩
    rw [List.take_of_length_le (by simp)] at *
    have hfl := fold_len es
    unfold runsF closeR
    generalize foldR es = s at *
    obtain ⟨d, cur⟩ := s
    simp only at *
    have hql : qs.length < lim := by rw [hll.len]; unfold lim; omega
    have hlt := getL_lt hgt
    by_cases hc0 : 0 < cur.length
    · simp [wpx, wpo, wps, hgo, hgt, hc0, hql]
      have hon : t ∉ qs := fun h => (hqs t h).2.1 rfl
      refine ⟨hE.set ht, t, qs ++ [o], rfl, ht, ?_, ?_, ?_⟩
      · rw [getL_set hlt, List.map_append]; rfl
      · intro q hq
        rcases List.mem_append.mp hq with h | h
        · exact ⟨(hqs q h).1, (hqs q h).2.1⟩
        · rw [List.mem_singleton] at h
          subst h
          exact ⟨ho, Ne.symm hto⟩
      · exact LLs.snoc (by rw [getL_set_ne hto]; exact hgo) (hll.set hon)
    · simp [wpx, wpo, wps, hgo, hgt, hc0, hql]
      exact ⟨hE, t, qs, rfl, ht, hgt, fun q hq => ⟨(hqs q hq).1, (hqs q hq).2.1⟩, hll⟩
end
end Lt
set_option maxRecDepth 100000
set_option maxHeartbeats 2000000
namespace Lt
open PySem (Str)
open LawT
/-- a def by its body alone -/
structure Has (P : Prog) (f : Str) (np nn : Nat) (b : List St) : Prop where
  ex : ∃ ps ns, P.defs.lookup f = some ⟨ps, ns, [], b⟩ ∧ ps.length = np ∧ ns.length = nn
theorem wp_has {P : Prog} {F k np nn : Nat} {f : Str} {b : List St} {ds : List D} {S : Store} {E : XP} {Q : D → Store → Prop} (h : Has P f np nn b) (hl : ds.length = np)
    (w : WpS (exB (P.cx F (callN P F k)) b (ds.map some ++ List.replicate (nn - ds.length) none) S) { nx := fun _ S => Q .non S, rt := Q, ex := fun c _ S => E c S }) : Wp (callN P F (k + 1) f ds S) E Q := by
  obtain ⟨ps, ns, h1, h2, h3⟩ := h.ex
  exact wp_callN h1 (by rw [hl, h2]) (by rw [h3]; exact w)
theorem has_eq {P : Prog} {F k np nn : Nat} {f : Str} {b : List St} {ds : List D} {S : Store} {x : D} (h : Has P f np nn b) (hl : ds.length = np)
    (w : WpS (exB (P.cx F (callN P F k)) b (ds.map some ++ List.replicate (nn - ds.length) none) S) { nx := fun _ S' => S' = S ∧ D.non = x, rt := fun d S' => S' = S ∧ d = x }) : callN P F (k + 1) f ds S = .ok x S :=
  eq_of_wp (wp_has h hl w)
abbrev EnN := Int × Option Int
def numD : Option Int → D
  | some n => .int n
  | none => .non
def enD (e : EnN) : D := .tup [.int e.1, numD e.2]
def EnB (b : Nat) (e : EnN) : Prop := e.1.natAbs < 2 ^ 42 ∧ ∀ n, e.2 = some n → n.natAbs < 2 ^ b
def RowN (b : Nat) (es : List EnN) : Prop := es.Pairwise (fun x y => x.1 < y.1) ∧ ∀ e ∈ es, EnB b e
/-- a new list of such -/
def IsN (S S' : Store) (x : D) (es : List EnN) : Prop := Ext S S' ∧ ∃ q, x = .ref q ∧ S.length ≤ q ∧ getL S' q = some (es.map enD)
section
variable {P : Prog} {F k : Nat} {S : Store} {E : XP}
theorem en_seq {e : EnN} : seqOf S (enD e) = some [.int e.1, numD e.2] := rfl
theorem isN_num {v : Option Int} : isN (numD v) = v.isNone := by cases v <;> rfl
theorem rown_snoc {b : Nat} {es : List EnN} {M m : Int} {v : Option Int} (h : RowN b es) (hle : ∀ e ∈ es, e.1 ≤ M) (hm : M < m) (hn : m.natAbs < 2 ^ 42) (hv : ∀ q, v = some q → q.natAbs < 2 ^ b) : RowN b (es ++ [(m, v)]) ∧ ∀ e ∈ es ++ [(m, v)], e.1 ≤ m := by
  refine ⟨⟨?_, fun e he => ?_⟩, fun e he => ?_⟩
  · rw [List.pairwise_append]
    refine ⟨h.1, by simp, fun a ha b hb => ?_⟩
    rw [List.mem_singleton] at hb
    subst hb
    have := hle a ha
    show a.1 < m
    omega
  · rcases List.mem_append.mp he with z | z
    · exact h.2 e z
    · rw [List.mem_singleton] at z
      subst z
      exact ⟨hn, hv⟩
  · rcases List.mem_append.mp he with z | z
    · have := hle e z; omega
    · rw [List.mem_singleton] at z
      subst z
      exact Int.le_refl _
end
end Lt
set_option maxRecDepth 100000
set_option maxHeartbeats 2000000
namespace Lt
open PySem (Str)
open LawT
def Fr (W : List Nat) (S S' : Store) : Prop := S.length ≤ S'.length ∧ ∀ p, p < S.length → p ∉ W → S'[p]? = S[p]?
section
variable {S S' S2 : Store} {W W' : List Nat}
theorem Fr.refl : Fr W S S := ⟨Nat.le_refl _, fun _ _ _ => rfl⟩
theorem Fr.trans (a : Fr W S S') (b : Fr W S' S2) : Fr W S S2 := ⟨Nat.le_trans a.1 b.1, fun p h hp => by rw [b.2 p (Nat.lt_of_lt_of_le h a.1) hp, a.2 p h hp]⟩
theorem Fr.mono (a : Fr W S S') (h : ∀ p ∈ W, p ∈ W' ∨ S.length ≤ p) : Fr W' S S' := ⟨a.1, fun p hl hp => a.2 p hl fun z => by
  rcases h p z with h | h
  · exact hp h
  · omega⟩
theorem Fr.of (a : Ext S S') : Fr W S S' := by
  obtain ⟨T, rfl⟩ := a
  exact ⟨by simp, fun p h _ => by rw [List.getElem?_append_left h]⟩
theorem Fr.set {n : Nat} {c : Cell} (hn : n ∈ W) : Fr W S (S.set n c) := ⟨by simp, fun p h hp => by
  rw [List.getElem?_set_ne]; intro z; subst z; exact hp hn⟩
theorem Fr.app {T : Store} (a : Fr W S S') : Fr W S (S' ++ T) := a.trans (Fr.of Ext.one)
theorem Fr.getL (a : Fr W S S') {p : Nat} {xs : List D} (h : getL S p = some xs) (hp : p ∉ W) : getL S' p = some xs := by
  have hl := getL_lt h
  unfold Lt.getL at h ⊢
  rw [a.2 p hl hp]; exact h
theorem getI_lt {r : Nat} {x : Str × List (Str × D)} (h : getI S r = some x) : r < S.length := by
  unfold getI at h
  split at h
  · rename_i e; exact (List.getElem?_eq_some_iff.mp e).1
  · cases h
theorem Fr.getI (a : Fr W S S') {p : Nat} {x : Str × List (Str × D)} (h : getI S p = some x) (hp : p ∉ W) : getI S' p = some x := by
  have hl := getI_lt h
  unfold Lt.getI at h ⊢
  rw [a.2 p hl hp]; exact h
theorem Fr.ext (a : Fr [] S S') : Ext S S' := by
  refine ⟨S'.drop S.length, ?_⟩
  apply List.ext_getElem?
  intro i
  by_cases h : i < S.length
  · rw [List.getElem?_append_left h]; exact a.2 i h (by simp)
  · rw [List.getElem?_append_right (by omega), List.getElem?_drop]
    congr 1; omega
theorem getL_app_l {T : Store} {p : Nat} {xs : List D} (h : getL S p = some xs) : getL (S ++ T) p = some xs := Ext.one.getL h
end
abbrev Smp := Int × Rat
def smpD (s : Smp) : D := smD s.1 s.2
/-- of usual sizes -/
def SmB (s : Smp) : Prop := s.1.natAbs < 2 ^ 64 ∧ Sz 300 s.2
theorem smp_seq {S : Store} {s : Smp} : seqOf S (smpD s) = some [.int s.1, rD s.2] := rfl
end Lt
set_option maxHeartbeats 2000000
namespace Lt
def Lq (sp : Rat) (a b : Smp) : Rat := (b.2 - a.2 - sp) / ((b.1 : Rat) - (a.1 : Rat))
def Hq (sp : Rat) (a b : Smp) : Rat := (b.2 - a.2 + sp) / ((b.1 : Rat) - (a.1 : Rat))
def stq (a b c : Smp) : Rat := standF a.1 a.2 b.1 b.2 c.1 c.2
/-- some line bears them -/
def Borne (sp : Rat) (ts : List Smp) : Prop := ∀ a ∈ ts, ∀ b ∈ ts, ∀ c ∈ ts, ∀ d ∈ ts, a.1 < b.1 → c.1 < d.1 → Lq sp a b ≤ Hq sp c d
theorem cast_pos {a b : Int} (h : a < b) : (0 : Rat) < (b : Rat) - (a : Rat) := by
  have := (Rat.intCast_lt_intCast (a := a) (b := b)).mpr h
  grind
theorem lt_div {x y d : Rat} (hd : 0 < d) : x < y / d ↔ x * d < y := Rat.lt_div_iff hd
theorem div_lt {x y d : Rat} (hd : 0 < d) : y / d < x ↔ y < x * d := Rat.div_lt_iff hd
theorem le_div {x y d : Rat} (hd : 0 < d) : x ≤ y / d ↔ x * d ≤ y := by
  rw [← Rat.not_lt, ← Rat.not_lt, div_lt hd]
theorem div_le {x y d : Rat} (hd : 0 < d) : y / d ≤ x ↔ y ≤ x * d := by
  rw [← Rat.not_lt, ← Rat.not_lt, lt_div hd]
/-- the stand, without a fraction -/
theorem stq_mul {a b c : Smp} (h : a.1 < c.1) (s : Rat) : stq a b c * ((c.1 : Rat) - (a.1 : Rat)) = (b.2 - a.2 - s * ((b.1 : Rat) - (a.1 : Rat))) * ((c.1 : Rat) - (b.1 : Rat)) + (b.2 - c.2 + s * ((c.1 : Rat) - (b.1 : Rat))) * ((b.1 : Rat) - (a.1 : Rat)) := by
  have hd := cast_pos h
  unfold stq standF
  grind
theorem mul_pos_lt {x y d : Rat} (hd : 0 < d) (h : x < y) : x * d < y * d := Rat.mul_lt_mul_of_pos_right h hd
theorem mul_nn_le {x y d : Rat} (hd : 0 ≤ d) (h : x ≤ y) : x * d ≤ y * d := Rat.mul_le_mul_of_nonneg_right h hd
/-- the greatest lower slope -/
def Lo (sp : Rat) (ts : List Smp) (o : Option Rat) : Prop := match o with
  | none => ∀ a ∈ ts, ∀ b ∈ ts, ¬ a.1 < b.1
  | some l => (∃ a ∈ ts, ∃ b ∈ ts, a.1 < b.1 ∧ l = Lq sp a b) ∧ ∀ a ∈ ts, ∀ b ∈ ts, a.1 < b.1 → Lq sp a b ≤ l
/-- the least upper slope -/
def Hi (sp : Rat) (ts : List Smp) (o : Option Rat) : Prop := match o with
  | none => ∀ a ∈ ts, ∀ b ∈ ts, ¬ a.1 < b.1
  | some l => (∃ a ∈ ts, ∃ b ∈ ts, a.1 < b.1 ∧ l = Hq sp a b) ∧ ∀ a ∈ ts, ∀ b ∈ ts, a.1 < b.1 → l ≤ Hq sp a b
/-- the greatest lower slope of the old pairs and of some with the new one -/
def LoP (sp : Rat) (ts : List Smp) (x : Smp) (us : List Smp) (o : Option Rat) : Prop := match o with
  | none => (∀ a ∈ ts, ∀ b ∈ ts, ¬ a.1 < b.1) ∧ us = []
  | some l => ((∃ a ∈ ts, ∃ b ∈ ts, a.1 < b.1 ∧ l = Lq sp a b) ∨ ∃ a ∈ us, l = Lq sp a x) ∧ (∀ a ∈ ts, ∀ b ∈ ts, a.1 < b.1 → Lq sp a b ≤ l) ∧ ∀ a ∈ us, Lq sp a x ≤ l
def HiP (sp : Rat) (ts : List Smp) (x : Smp) (us : List Smp) (o : Option Rat) : Prop := match o with
  | none => (∀ a ∈ ts, ∀ b ∈ ts, ¬ a.1 < b.1) ∧ us = []
  | some l => ((∃ a ∈ ts, ∃ b ∈ ts, a.1 < b.1 ∧ l = Hq sp a b) ∨ ∃ a ∈ us, l = Hq sp a x) ∧ (∀ a ∈ ts, ∀ b ∈ ts, a.1 < b.1 → l ≤ Hq sp a b) ∧ ∀ a ∈ us, l ≤ Hq sp a x
theorem LoP.start {sp : Rat} {ts : List Smp} {x : Smp} {o : Option Rat} (h : Lo sp ts o) : LoP sp ts x [] o := by
  cases o with
  | none => exact ⟨h, rfl⟩
  | some l => exact ⟨.inl h.1, h.2, fun a ha => by cases ha⟩
theorem HiP.start {sp : Rat} {ts : List Smp} {x : Smp} {o : Option Rat} (h : Hi sp ts o) : HiP sp ts x [] o := by
  cases o with
  | none => exact ⟨h, rfl⟩
  | some l => exact ⟨.inl h.1, h.2, fun a ha => by cases ha⟩
/-- the greater one, where there is one -/
def upO (o : Option Rat) (q : Rat) : Rat := match o with
  | none => q
  | some l => if l < q then q else l
def dnO (o : Option Rat) (q : Rat) : Rat := match o with
  | none => q
  | some l => if q < l then q else l
theorem LoP.step {sp : Rat} {ts us : List Smp} {x a : Smp} {o : Option Rat} (h : LoP sp ts x us o) : LoP sp ts x (us ++ [a]) (some (upO o (Lq sp a x))) := by
  cases o with
  | none =>
    obtain ⟨h1, rfl⟩ := h
    exact ⟨.inr ⟨a, by simp, rfl⟩, fun c mc d md k => absurd k (h1 c mc d md), fun c mc => by simp at mc; subst mc; exact Rat.le_refl⟩
  | some l =>
    obtain ⟨h1, h2, h3⟩ := h
    show LoP sp ts x (us ++ [a]) (some (if l < Lq sp a x then Lq sp a x else l))
    by_cases k : l < Lq sp a x
    · rw [if_pos k]
      refine ⟨.inr ⟨a, by simp, rfl⟩, fun c mc d md hcd => ?_, fun c mc => ?_⟩
      · have := h2 c mc d md hcd; grind
      · rcases List.mem_append.mp mc with z | z
        · have := h3 c z; grind
        · simp at z; subst z; exact Rat.le_refl
    · rw [if_neg k]
      refine ⟨?_, h2, fun c mc => ?_⟩
      · rcases h1 with h1 | ⟨c, mc, e⟩
        · exact .inl h1
        · exact .inr ⟨c, by simp [mc], e⟩
      · rcases List.mem_append.mp mc with z | z
        · exact h3 c z
        · simp at z; subst z; grind
theorem HiP.step {sp : Rat} {ts us : List Smp} {x a : Smp} {o : Option Rat} (h : HiP sp ts x us o) : HiP sp ts x (us ++ [a]) (some (dnO o (Hq sp a x))) := by
  cases o with
  | none =>
    obtain ⟨h1, rfl⟩ := h
    exact ⟨.inr ⟨a, by simp, rfl⟩, fun c mc d md k => absurd k (h1 c mc d md), fun c mc => by simp at mc; subst mc; exact Rat.le_refl⟩
  | some l =>
    obtain ⟨h1, h2, h3⟩ := h
    show HiP sp ts x (us ++ [a]) (some (if Hq sp a x < l then Hq sp a x else l))
    by_cases k : Hq sp a x < l
    · rw [if_pos k]
      refine ⟨.inr ⟨a, by simp, rfl⟩, fun c mc d md hcd => ?_, fun c mc => ?_⟩
      · have := h2 c mc d md hcd; grind
      · rcases List.mem_append.mp mc with z | z
        · have := h3 c z; grind
        · simp at z; subst z; exact Rat.le_refl
    · rw [if_neg k]
      refine ⟨?_, h2, fun c mc => ?_⟩
      · rcases h1 with h1 | ⟨c, mc, e⟩
        · exact .inl h1
        · exact .inr ⟨c, by simp [mc], e⟩
      · rcases List.mem_append.mp mc with z | z
        · exact h3 c z
        · simp at z; subst z; grind
theorem LoP.fin {sp : Rat} {ts : List Smp} {x : Smp} {o : Option Rat} (h : LoP sp ts x ts o) (hx : ∀ a ∈ ts, a.1 < x.1) : Lo sp (ts ++ [x]) o := by
  have cases2 : ∀ a b : Smp, a ∈ ts ++ [x] → b ∈ ts ++ [x] → a.1 < b.1 → a ∈ ts ∧ (b ∈ ts ∨ b = x) := fun a b ma mb hab => by
    rcases List.mem_append.mp ma with z | z
    · refine ⟨z, ?_⟩
      rcases List.mem_append.mp mb with y | y
      · exact .inl y
      · simp at y; exact .inr y
    · simp at z; subst z
      rcases List.mem_append.mp mb with y | y
      · have := hx b y; omega
      · simp at y; subst y; omega
  cases o with
  | none =>
    obtain ⟨h1, rfl⟩ := h
    intro a ma b mb hab
    obtain ⟨z, _⟩ := cases2 a b ma mb hab
    cases z
  | some l =>
    obtain ⟨h1, h2, h3⟩ := h
    refine ⟨?_, fun a ma b mb hab => ?_⟩
    · rcases h1 with ⟨a, ma, b, mb, k⟩ | ⟨a, ma, k⟩
      · exact ⟨a, by simp [ma], b, by simp [mb], k⟩
      · exact ⟨a, by simp [ma], x, by simp, hx a ma, k⟩
    · obtain ⟨z, y⟩ := cases2 a b ma mb hab
      rcases y with y | rfl
      · exact h2 a z b y hab
      · exact h3 a z
theorem HiP.fin {sp : Rat} {ts : List Smp} {x : Smp} {o : Option Rat} (h : HiP sp ts x ts o) (hx : ∀ a ∈ ts, a.1 < x.1) : Hi sp (ts ++ [x]) o := by
  have cases2 : ∀ a b : Smp, a ∈ ts ++ [x] → b ∈ ts ++ [x] → a.1 < b.1 → a ∈ ts ∧ (b ∈ ts ∨ b = x) := fun a b ma mb hab => by
    rcases List.mem_append.mp ma with z | z
    · refine ⟨z, ?_⟩
      rcases List.mem_append.mp mb with y | y
      · exact .inl y
      · simp at y; exact .inr y
    · simp at z; subst z
      rcases List.mem_append.mp mb with y | y
      · have := hx b y; omega
      · simp at y; subst y; omega
  cases o with
  | none =>
    obtain ⟨h1, rfl⟩ := h
    intro a ma b mb hab
    obtain ⟨z, _⟩ := cases2 a b ma mb hab
    cases z
  | some l =>
    obtain ⟨h1, h2, h3⟩ := h
    refine ⟨?_, fun a ma b mb hab => ?_⟩
    · rcases h1 with ⟨a, ma, b, mb, k⟩ | ⟨a, ma, k⟩
      · exact ⟨a, by simp [ma], b, by simp [mb], k⟩
      · exact ⟨a, by simp [ma], x, by simp, hx a ma, k⟩
    · obtain ⟨z, y⟩ := cases2 a b ma mb hab
      rcases y with y | rfl
      · exact h2 a z b y hab
      · exact h3 a z
end Lt
set_option maxRecDepth 100000
set_option maxHeartbeats 2000000
namespace Lt
open PySem (Str)
open LawT
def stFs (a b c d : D) : List (Str × D) := [("span", a), ("samples", b), ("low", c), ("high", d)]
/-- an object that holds these samples -/
structure StrO (S : Store) (n q : Nat) (sp : Rat) (ts : List Smp) : Prop where
  nq : n ≠ q
  fs : ∃ lo hi, getI S n = some (("Stretch" : Str), stFs (rD sp) (.ref q) (valD lo) (valD hi)) ∧ Lo sp ts lo ∧ Hi sp ts hi
  sm : getL S q = some (ts.map smpD)
  sz : ∀ s ∈ ts, SmB s
  ss : Sz 310 sp
  up : ts.Pairwise fun a b => a.1 < b.1
  le : ts.length ≤ 100
  bo : Borne sp ts
end Lt
set_option maxRecDepth 100000
set_option maxHeartbeats 2000000
namespace Lt
open PySem (Str)
open LawT
abbrev EnI := Int × Int
def eiD (e : EnI) : D := .tup [.int e.1, .int e.2]
/-- the sample of such -/
def smo (b : Int) (e : EnI) : Smp := (e.1, Rat.divInt e.2 b)
/-- sizes -/
def EiB (e : EnI) : Prop := e.1.natAbs < 2 ^ 60 ∧ e.2.natAbs < 2 ^ 200
theorem smo_b {b : Int} {e : EnI} (hb : 0 < b) (hb2 : b.natAbs < 2 ^ 90) (h : EiB e) : SmB (smo b e) :=
  ⟨Nat.lt_of_lt_of_le h.1 (nat_pow_mono (by decide)), (sz_divInt hb h.2 (Nat.lt_of_lt_of_le hb2 (nat_pow_mono (by decide)))).mono (by decide)⟩
theorem mul_le_right {x y d : Rat} (hd : 0 < d) : x * d ≤ y * d ↔ x ≤ y := by
  rw [← Rat.not_lt, ← Rat.not_lt, Rat.mul_lt_mul_right hd]
end Lt
set_option maxRecDepth 100000
set_option maxHeartbeats 2000000
namespace Lt
open PySem (Str)
open LawT
def frV (p : Int × Int) : Rat := (p.1 : Rat) / (p.2 : Rat)
/-- the greatest of what is done -/
def GrP (f : EnI → EnI → Rat) (done : EnI → EnI → Prop) (o : Option (Int × Int)) : Prop := match o with
  | none => ∀ a c, ¬ done a c
  | some p => 0 < p.2 ∧ (∃ a c, done a c ∧ frV p = f a c) ∧ ∀ a c, done a c → f a c ≤ frV p
def LeP (f : EnI → EnI → Rat) (done : EnI → EnI → Prop) (o : Option (Int × Int)) : Prop := match o with
  | none => ∀ a c, ¬ done a c
  | some p => 0 < p.2 ∧ (∃ a c, done a c ∧ frV p = f a c) ∧ ∀ a c, done a c → frV p ≤ f a c
def grO (o : Option (Int × Int)) (q : Int × Int) : Int × Int := match o with
  | none => q
  | some p => if frV p < frV q then q else p
def leO (o : Option (Int × Int)) (q : Int × Int) : Int × Int := match o with
  | none => q
  | some p => if frV q < frV p then q else p
theorem GrP.step {f : EnI → EnI → Rat} {done done' : EnI → EnI → Prop} {o : Option (Int × Int)} {q : Int × Int} {a c : EnI} (h : GrP f done o) (hq : 0 < q.2) (hv : frV q = f a c) (hd : ∀ x y, done' x y ↔ done x y ∨ (x = a ∧ y = c)) : GrP f done' (some (grO o q)) := by
  cases o with
  | none =>
    refine ⟨hq, ⟨a, c, (hd a c).mpr (.inr ⟨rfl, rfl⟩), hv⟩, fun x y hxy => ?_⟩
    rcases (hd x y).mp hxy with z | ⟨rfl, rfl⟩
    · exact absurd z (h x y)
    · rw [← hv]; exact Rat.le_refl
  | some p =>
    obtain ⟨h1, ⟨a', c', h2, h3⟩, h4⟩ := h
    show GrP f done' (some (if frV p < frV q then q else p))
    by_cases k : frV p < frV q
    · rw [if_pos k]
      refine ⟨hq, ⟨a, c, (hd a c).mpr (.inr ⟨rfl, rfl⟩), hv⟩, fun x y hxy => ?_⟩
      rcases (hd x y).mp hxy with z | ⟨rfl, rfl⟩
      · have := h4 x y z; grind
      · rw [← hv]; exact Rat.le_refl
    · rw [if_neg k]
      refine ⟨h1, ⟨a', c', (hd a' c').mpr (.inl h2), h3⟩, fun x y hxy => ?_⟩
      rcases (hd x y).mp hxy with z | ⟨rfl, rfl⟩
      · exact h4 x y z
      · rw [← hv]; grind
theorem LeP.step {f : EnI → EnI → Rat} {done done' : EnI → EnI → Prop} {o : Option (Int × Int)} {q : Int × Int} {a c : EnI} (h : LeP f done o) (hq : 0 < q.2) (hv : frV q = f a c) (hd : ∀ x y, done' x y ↔ done x y ∨ (x = a ∧ y = c)) : LeP f done' (some (leO o q)) := by
  cases o with
  | none =>
    refine ⟨hq, ⟨a, c, (hd a c).mpr (.inr ⟨rfl, rfl⟩), hv⟩, fun x y hxy => ?_⟩
    rcases (hd x y).mp hxy with z | ⟨rfl, rfl⟩
    · exact absurd z (h x y)
    · rw [← hv]; exact Rat.le_refl
  | some p =>
    obtain ⟨h1, ⟨a', c', h2, h3⟩, h4⟩ := h
    show LeP f done' (some (if frV q < frV p then q else p))
    by_cases k : frV q < frV p
    · rw [if_pos k]
      refine ⟨hq, ⟨a, c, (hd a c).mpr (.inr ⟨rfl, rfl⟩), hv⟩, fun x y hxy => ?_⟩
      rcases (hd x y).mp hxy with z | ⟨rfl, rfl⟩
      · have := h4 x y z; grind
      · rw [← hv]; exact Rat.le_refl
    · rw [if_neg k]
      refine ⟨h1, ⟨a', c', (hd a' c').mpr (.inl h2), h3⟩, fun x y hxy => ?_⟩
      rcases (hd x y).mp hxy with z | ⟨rfl, rfl⟩
      · exact h4 x y z
      · rw [← hv]; grind
theorem GrP.iff {f : EnI → EnI → Rat} {d d' : EnI → EnI → Prop} {o : Option (Int × Int)} (h : GrP f d o) (e : ∀ x y, d' x y ↔ d x y) : GrP f d' o := by
  have : d' = d := by funext x y; exact propext (e x y)
  rw [this]; exact h
theorem LeP.iff {f : EnI → EnI → Rat} {d d' : EnI → EnI → Prop} {o : Option (Int × Int)} (h : LeP f d o) (e : ∀ x y, d' x y ↔ d x y) : LeP f d' o := by
  have : d' = d := by funext x y; exact propext (e x y)
  rw [this]; exact h
end Lt
set_option maxRecDepth 100000
set_option maxHeartbeats 2000000
namespace Lt
open PySem (Str)
open LawT
theorem StrO.fr {S S' : Store} {W : List Nat} {n q : Nat} {sp : Rat} {ts : List Smp} (o : StrO S n q sp ts) (f : Fr W S S') (h1 : n ∉ W) (h2 : q ∉ W) : StrO S' n q sp ts := by
  obtain ⟨a1, ⟨lo, hi, a2, a3, a4⟩, a5, a6, a7, a8, a9, a10⟩ := o
  exact ⟨a1, ⟨lo, hi, f.getI a2 h1, a3, a4⟩, f.getL a5 h2, a6, a7, a8, a9, a10⟩
/-- an object and the law's own list beside it -/
structure Kn (S : Store) (n q t : Nat) (b bd : Int) (es : List EnI) : Prop where
  o : StrO S n q (2 * Rat.divInt bd b) (es.map (smo b))
  ht : getL S t = some (es.map eiD)
  tn : t ≠ n
  tq : t ≠ q
  eb : ∀ e ∈ es, EiB e
theorem Kn.fr {S S' : Store} {W : List Nat} {n q t : Nat} {b bd : Int} {es : List EnI} (kn : Kn S n q t b bd es) (f : Fr W S S') (h1 : n ∉ W) (h2 : q ∉ W) (h3 : t ∉ W) : Kn S' n q t b bd es :=
  ⟨kn.o.fr f h1 h2, f.getL kn.ht h3, kn.tn, kn.tq, kn.eb⟩
theorem Kn.up {S : Store} {n q t : Nat} {b bd : Int} {es : List EnI} (kn : Kn S n q t b bd es) : es.Pairwise fun a c => a.1 < c.1 := by
  have h := kn.o.up
  rw [List.pairwise_map] at h; exact h
theorem Kn.lt {S : Store} {n q t : Nat} {b bd : Int} {es : List EnI} (kn : Kn S n q t b bd es) : n < S.length ∧ q < S.length ∧ t < S.length := by
  obtain ⟨lo, hi, hI, _, _⟩ := kn.o.fs
  exact ⟨getI_lt hI, getL_lt kn.o.sm, getL_lt kn.ht⟩
theorem Lo.uniq {sp : Rat} {ts : List Smp} {o o' : Option Rat} (h : Lo sp ts o) (h' : Lo sp ts o') : o = o' := by
  cases o with
  | none =>
    cases o' with
    | none => rfl
    | some l => obtain ⟨⟨a, ma, b, mb, hab, _⟩, _⟩ := h'; exact absurd hab (h a ma b mb)
  | some l =>
    cases o' with
    | none => obtain ⟨⟨a, ma, b, mb, hab, _⟩, _⟩ := h; exact absurd hab (h' a ma b mb)
    | some l' =>
      obtain ⟨⟨a, ma, b, mb, hab, e1⟩, k1⟩ := h
      obtain ⟨⟨c, mc, d, md, hcd, e2⟩, k2⟩ := h'
      have := k1 c mc d md hcd
      have := k2 a ma b mb hab
      congr 1
      grind
theorem Hi.uniq {sp : Rat} {ts : List Smp} {o o' : Option Rat} (h : Hi sp ts o) (h' : Hi sp ts o') : o = o' := by
  cases o with
  | none =>
    cases o' with
    | none => rfl
    | some l => obtain ⟨⟨a, ma, b, mb, hab, _⟩, _⟩ := h'; exact absurd hab (h a ma b mb)
  | some l =>
    cases o' with
    | none => obtain ⟨⟨a, ma, b, mb, hab, _⟩, _⟩ := h; exact absurd hab (h' a ma b mb)
    | some l' =>
      obtain ⟨⟨a, ma, b, mb, hab, e1⟩, k1⟩ := h
      obtain ⟨⟨c, mc, d, md, hcd, e2⟩, k2⟩ := h'
      have := k1 c mc d md hcd
      have := k2 a ma b mb hab
      congr 1
      grind
end Lt
set_option maxRecDepth 100000
set_option maxHeartbeats 2000000
namespace Lt
open PySem (Str)
open LawT
def LLD (S : Store) : List Nat → List (List D) → Prop
  | [], [] => True
  | q :: qs, r :: rs => getL S q = some r ∧ LLD S qs rs
  | _, _ => False
section
variable {S S' : Store} {W : List Nat}
theorem LLD.len : ∀ {qs : List Nat} {rs : List (List D)}, LLD S qs rs → qs.length = rs.length
  | [], [], _ => rfl
  | _ :: _, _ :: _, h => by simp [LLD.len h.2]
theorem LLD.snoc {q : Nat} {r : List D} (hq : getL S q = some r) : ∀ {qs : List Nat} {rs : List (List D)}, LLD S qs rs → LLD S (qs ++ [q]) (rs ++ [r])
  | [], [], _ => ⟨hq, trivial⟩
  | _ :: _, _ :: _, h => ⟨h.1, LLD.snoc hq h.2⟩
theorem LLD.fr (f : Fr W S S') : ∀ {qs : List Nat} {rs : List (List D)}, LLD S qs rs → (∀ q ∈ qs, q ∉ W) → LLD S' qs rs
  | [], [], _, _ => trivial
  | q :: qs, _ :: _, h, hn => ⟨f.getL h.1 (hn q (by simp)), LLD.fr f h.2 fun p hp => hn p (by simp [hp])⟩
theorem LLD.get : ∀ {qs : List Nat} {rs : List (List D)} {i : Nat} {q : Nat}, LLD S qs rs → qs[i]? = some q → ∃ r, rs[i]? = some r ∧ getL S q = some r
  | [], [], _, _, _, e => by simp at e
  | q :: qs, r :: rs, i, p, h, e => by
    cases i with
    | zero => simp at e; subst e; exact ⟨r, by simp, h.1⟩
    | succ i => simp at e; obtain ⟨x, h1, h2⟩ := LLD.get h.2 e; exact ⟨x, by simpa using h1, h2⟩
theorem LLD.mem : ∀ {qs : List Nat} {rs : List (List D)}, LLD S qs rs → ∀ q ∈ qs, ∃ r ∈ rs, getL S q = some r
  | [], [], _, q, hq => by cases hq
  | p :: qs, r :: rs, h, q, hq => by
    rcases List.mem_cons.mp hq with rfl | hq
    · exact ⟨r, List.mem_cons_self .., h.1⟩
    · obtain ⟨x, h1, h2⟩ := LLD.mem h.2 q hq
      exact ⟨x, List.mem_cons_of_mem _ h1, h2⟩
theorem LLD.lt {qs : List Nat} {rs : List (List D)} (h : LLD S qs rs) : ∀ q ∈ qs, q < S.length := fun q hq => by
  obtain ⟨r, _, e⟩ := h.mem q hq
  exact getL_lt e
end
theorem Ext.fr {B S S' : Store} {W : List Nat} (e : Ext B S) (f : Fr W S S') (h : ∀ w ∈ W, B.length ≤ w) : Ext B S' := by
  have l := e.len
  refine Fr.ext ⟨by have := f.1; omega, fun p hp _ => ?_⟩
  rw [f.2 p (by omega) (fun z => by have := h p z; omega)]
  exact (Fr.of (W := []) e).2 p hp (by simp)
/-- parted from the first sample on, each part as long as it goes; cur: the last one -/
inductive Parts (sp : Rat) : List Smp → List (List Smp) → List Smp → Prop
  | start {x : Smp} : Parts sp [x] [] [x]
  | more {ts : List Smp} {ps : List (List Smp)} {cur : List Smp} {x : Smp} : Parts sp ts ps cur → Borne sp (cur ++ [x]) → Parts sp (ts ++ [x]) ps (cur ++ [x])
  | next {ts : List Smp} {ps : List (List Smp)} {cur : List Smp} {x : Smp} : Parts sp ts ps cur → ¬ Borne sp (cur ++ [x]) → Parts sp (ts ++ [x]) (ps ++ [cur]) [x]
theorem borne_one {sp : Rat} {x : Smp} : Borne sp [x] := by
  intro a ha b hb c hc d hd hab
  simp at ha hb
  rw [ha, hb] at hab
  omega
theorem Parts.ne {sp : Rat} {ts : List Smp} {ps : List (List Smp)} {cur : List Smp} (h : Parts sp ts ps cur) : cur ≠ [] ∧ ∀ p ∈ ps, p ≠ [] := by
  induction h with
  | start => simp
  | more _ _ ih => exact ⟨by simp, ih.2⟩
  | next _ _ ih =>
    refine ⟨by simp, fun p hp => ?_⟩
    rcases List.mem_append.mp hp with z | z
    · exact ih.2 p z
    · simp at z; subst z; exact ih.1
theorem Parts.flat {sp : Rat} {ts : List Smp} {ps : List (List Smp)} {cur : List Smp} (h : Parts sp ts ps cur) : ps.flatten ++ cur = ts := by
  induction h with
  | start => rfl
  | more _ _ ih => rw [← List.append_assoc, ih]
  | next _ _ ih => rw [List.flatten_append]; simp; rw [← List.append_assoc, ih]
/-- each part with the next one's first sample is not borne -/
def Shuts (sp : Rat) : List (List Smp) → Prop
  | p :: p' :: r => (∃ x t, p' = x :: t ∧ ¬ Borne sp (p ++ [x])) ∧ Shuts sp (p' :: r)
  | _ => True
theorem shuts_snoc {sp : Rat} {x : Smp} : ∀ {ps : List (List Smp)} {cur : List Smp}, Shuts sp (ps ++ [cur]) → ¬ Borne sp (cur ++ [x]) → Shuts sp (ps ++ [cur] ++ [[x]])
  | [], cur, _, h => ⟨⟨x, [], rfl, h⟩, trivial⟩
  | [p], cur, h1, h => ⟨h1.1, shuts_snoc (ps := []) h1.2 h⟩
  | p :: p' :: r, cur, h1, h => ⟨h1.1, shuts_snoc (ps := p' :: r) h1.2 h⟩
theorem shuts_grow {sp : Rat} {x : Smp} : ∀ {ps : List (List Smp)} {cur : List Smp}, cur ≠ [] → Shuts sp (ps ++ [cur]) → Shuts sp (ps ++ [cur ++ [x]])
  | [], _, _, _ => trivial
  | [p], cur, hne, h => by
    obtain ⟨⟨y, t, e, hb⟩, _⟩ := h
    exact ⟨⟨y, t ++ [x], by rw [e]; rfl, hb⟩, trivial⟩
  | p :: p' :: r, cur, hne, h => ⟨h.1, shuts_grow (ps := p' :: r) hne h.2⟩
theorem Parts.shuts {sp : Rat} {ts : List Smp} {ps : List (List Smp)} {cur : List Smp} (h : Parts sp ts ps cur) : Shuts sp (ps ++ [cur]) := by
  induction h with
  | start => trivial
  | more h0 _ ih => exact shuts_grow h0.ne.1 ih
  | next _ hb ih => exact shuts_snoc ih hb
/-- all parts -/
def AllP (sp : Rat) (ts : List Smp) (ps : List (List Smp)) : Prop := (ts = [] ∧ ps = []) ∨ ∃ qs cur, ps = qs ++ [cur] ∧ Parts sp ts qs cur
def smps (ps : List (List Smp)) : List (List D) := ps.map fun p => p.map smpD
section
variable {P : Prog} {F k : Nat} {S : Store} {E : XP}
theorem StrO.lt {n q : Nat} {sp : Rat} {ts : List Smp} (o : StrO S n q sp ts) : n < S.length ∧ q < S.length := by
  obtain ⟨lo, hi, hI, _, _⟩ := o.fs
  exact ⟨getI_lt hI, getL_lt o.sm⟩
theorem parts_len {sp : Rat} {ts : List Smp} {ps : List (List Smp)} {cur : List Smp} (h : Parts sp ts ps cur) : ps.length < ts.length ∧ cur.length ≤ ts.length := by
  induction h with
  | start => simp
  | more _ _ ih => simp; omega
  | next _ _ ih => simp; omega
end
end Lt
set_option maxRecDepth 100000
set_option maxHeartbeats 2000000
namespace Lt
set_option exponentiation.threshold 4000
open PySem (Str)
open LawT
/-- the first greatest of some places -/
def FstMax (m : Nat → Rat) (lo hi : Nat) (o : Option (Nat × Rat)) : Prop := match o with
  | none => hi ≤ lo
  | some (p, v) => lo ≤ p ∧ p < hi ∧ v = m p ∧ (∀ k, lo ≤ k → k < hi → m k ≤ v) ∧ ∀ k, lo ≤ k → k < p → m k < v
def stepM (o : Option (Nat × Rat)) (i : Nat) (v : Rat) : Nat × Rat := match o with
  | none => (i, v)
  | some (p, w) => if w < v then (i, v) else (p, w)
theorem FstMax.step {m : Nat → Rat} {lo i : Nat} {o : Option (Nat × Rat)} (h : FstMax m lo i o) (hi : lo ≤ i) : FstMax m lo (i + 1) (some (stepM o i (m i))) := by
  cases o with
  | none =>
    have h : i ≤ lo := h
    refine ⟨hi, by omega, rfl, fun k h1 h2 => ?_, fun k h1 h2 => by omega⟩
    have : k = i := by omega
    subst this; exact Rat.le_refl
  | some x =>
    obtain ⟨p, w⟩ := x
    obtain ⟨h1, h2, h3, h4, h5⟩ := h
    by_cases k : w < m i
    · have e : stepM (some (p, w)) i (m i) = (i, m i) := if_pos k
      rw [e]
      refine ⟨hi, by omega, rfl, fun j j1 j2 => ?_, fun j j1 j2 => ?_⟩
      · by_cases hj : j = i
        · subst hj; exact Rat.le_refl
        · have := h4 j j1 (by omega); grind
      · have := h4 j j1 (by omega); grind
    · have e : stepM (some (p, w)) i (m i) = (p, w) := if_neg k
      rw [e]
      refine ⟨h1, by omega, h3, fun j j1 j2 => ?_, h5⟩
      by_cases hj : j = i
      · subst hj; exact Rat.not_lt.mp k
      · exact h4 j j1 (by omega)
theorem FstMax.uniq {m : Nat → Rat} {lo hi : Nat} {o o' : Option (Nat × Rat)} (h : FstMax m lo hi o) (h' : FstMax m lo hi o') : o = o' := by
  cases o with
  | none =>
    have h : hi ≤ lo := h
    cases o' with
    | none => rfl
    | some x => obtain ⟨p, v⟩ := x; have := h'.1; have := h'.2.1; omega
  | some x =>
    obtain ⟨p, v⟩ := x
    obtain ⟨a1, a2, a3, a4, a5⟩ := h
    cases o' with
    | none => have h' : hi ≤ lo := h'; omega
    | some y =>
      obtain ⟨q, w⟩ := y
      obtain ⟨b1, b2, b3, b4, b5⟩ := h'
      have e : p = q := by
        rcases Nat.lt_trichotomy p q with z | z | z
        · have z1 := b5 p a1 z
          have z2 := a4 q b1 b2
          rw [← a3] at z1; rw [← b3] at z2; grind
        · exact z
        · have z1 := a5 q b1 z
          have z2 := b4 p a1 a2
          rw [← b3] at z1; rw [← a3] at z2; grind
      subst e
      rw [a3, b3]
abbrev zS : Smp := (0, 0)
/-- how far a place is off the chord of two others -/
def msQ (ts : List Smp) (f l k : Nat) : Rat := absQ (stq (ts.getD f zS) (ts.getD k zS) (ts.getD l zS))
def farD : Option (Nat × Rat) → D
  | some (p, v) => .tup [.int p, rD v]
  | none => .non
theorem isN_far {o : Option (Nat × Rat)} : isN (farD o) = o.isNone := by rcases o with _ | ⟨p, v⟩ <;> rfl
structure HFar (P : Prog) (F : Nat) : Prop extends HS P where
  big : BIG ≤ F
  order : P.defs.lookup ("order" : Str) = some a_order
  size : P.defs.lookup ("size" : Str) = some a_size
  slope : P.defs.lookup ("slope" : Str) = some a_slope
  line_by : P.defs.lookup ("line_by" : Str) = some a_line_by
  height : P.defs.lookup ("height" : Str) = some a_height
  off : P.defs.lookup ("off" : Str) = some a_off
  far : Has P "farthest" 3 7 b_farthest
theorem off_stq {a b c : Smp} (h : a.1 ≠ c.1) : b.2 - ((c.2 - a.2) / ((c.1 : Rat) - (a.1 : Rat)) * (b.1 : Rat) + (a.2 - (c.2 - a.2) / ((c.1 : Rat) - (a.1 : Rat)) * (a.1 : Rat))) = stq a b c := by
  have : (c.1 : Rat) - (a.1 : Rat) ≠ 0 := rat_ne (by omega)
  unfold stq standF
  grind
theorem get_getD {α : Type} {ts : List α} {i : Nat} (z : α) (h : i < ts.length) : ts[i]? = some (ts.getD i z) := by simp [List.getD, h]
theorem getD_mem {α : Type} {ts : List α} {i : Nat} {z : α} (h : i < ts.length) : ts.getD i z ∈ ts := List.mem_of_getElem? (get_getD z h)
section
variable {P : Prog} {F k : Nat} {S : Store} {E : XP}
theorem smp_item {ts : List Smp} {i : Nat} {c : Smp} (h : ts[i]? = some c) : itemR (some (ts.map smpD)) (i : Int) S = .ok (smpD c) S := itemR_nat (by simp [h])
def FaI (S : Store) (t : Nat) (ts : List Smp) (f l : Nat) (x4 : D) (i : Nat) (e : Env) (S2 : Store) : Prop := S2 = S ∧ ∃ o x5 x6, e = [some (.ref t), some (.int f), some (.int l), some (farD o), some x4, x5, x6] ∧ FstMax (msQ ts f l) (f + 1) (f + 1 + i) o
theorem sz_ms {ts : List Smp} {f l k : Nat} (hz : ∀ s ∈ ts, SmB s) (hf : f < ts.length) (hk : k < ts.length) (hl : l < ts.length) : Sz 1200 (msQ ts f l k) := by
  have a := hz _ (getD_mem (z := zS) hf)
  have b := hz _ (getD_mem (z := zS) hk)
  have c := hz _ (getD_mem (z := zS) hl)
  have z1 : SZ (ts.getD f zS).2 300 := ⟨a.2⟩
  have z2 : SZ (ts.getD k zS).2 300 := ⟨b.2⟩
  have z3 : SZ (ts.getD l zS).2 300 := ⟨c.2⟩
  have y1 : IZ (ts.getD f zS).1 64 := ⟨a.1⟩
  have y2 : IZ (ts.getD k zS).1 64 := ⟨b.1⟩
  have y3 : IZ (ts.getD l zS).1 64 := ⟨c.1⟩
  have z := (inferInstance : SZ (absQ (standF (ts.getD f zS).1 (ts.getD f zS).2 (ts.getD k zS).1 (ts.getD k zS).2 (ts.getD l zS).1 (ts.getD l zS).2)) _)
  exact z.z.mono (by decide)
theorem farthest_wp (h : HFar P F) {t : Nat} {ts : List Smp} {f l : Nat} (ht : getL S t = some (ts.map smpD)) (hz : ∀ s ∈ ts, SmB s) (hl : ts.length ≤ 1000000) (hfl : f < l) (hll : l < ts.length) (hne : (ts.getD f zS).1 ≠ (ts.getD l zS).1) :
    Wp (callN P F (k + 6) "farthest" [.ref t, .int f, .int l] S) E fun r S' => S' = S ∧ ∃ o, r = farD o ∧ FstMax (msQ ts f l) (f + 1) l o := by
  apply wp_has h.far rfl
  simp only [b_farthest]
  have ha := get_getD zS (show f < ts.length by omega)
  have hc := get_getD zS hll
  have ab := hz _ (getD_mem (z := zS) (show f < ts.length by omega))
  have cb := hz _ (getD_mem (z := zS) hll)
  have hms : ∀ k, msQ ts f l k = absQ (stq (ts.getD f zS) (ts.getD k zS) (ts.getD l zS)) := fun _ => rfl
  have hsz := fun k (hk : k < ts.length) => sz_ms hz (show f < ts.length by omega) hk hll
  generalize ts.getD f zS = a at *
  generalize ts.getD l zS = c at *
  have z1 : SZ a.2 300 := ⟨ab.2⟩
  have z2 : SZ c.2 300 := ⟨cb.2⟩
  have y1 : IZ a.1 64 := ⟨ab.1⟩
  have y2 : IZ c.1 64 := ⟨cb.1⟩
  have sl : ∀ S, callN P F (k + 5) "slope" [smpD a, smpD c] S = .ok (rD ((c.2 - a.2) / ((c.1 : Rat) - (a.1 : Rat)))) S := fun S => slope_e (k := k + 1) (S := S) h.toHS h.big h.slope (v := a.2) (v' := c.2) (t := a.1) (t' := c.1) hne (by decide)
  have zs : SZ ((c.2 - a.2) / ((c.1 : Rat) - (a.1 : Rat))) 800 := ⟨(inferInstance : SZ ((c.2 - a.2) / ((c.1 : Rat) - (a.1 : Rat))) _).z.mono (by decide)⟩
  have li : ∀ S, callN P F (k + 5) "line_by" [rD ((c.2 - a.2) / ((c.1 : Rat) - (a.1 : Rat))), smpD a] S = .ok (lnD ((c.2 - a.2) / ((c.1 : Rat) - (a.1 : Rat))) (a.2 - (c.2 - a.2) / ((c.1 : Rat) - (a.1 : Rat)) * (a.1 : Rat))) S := fun S => line_by_e (k := k + 1) (S := S) h.toHS h.big h.line_by (v := (c.2 - a.2) / ((c.1 : Rat) - (a.1 : Rat))) (v' := a.2) (t := a.1) (by decide)
  have of := fun S (b : Smp) (hb : SmB b) => (by
    have z3 : SZ b.2 300 := ⟨hb.2⟩
    have y3 : IZ b.1 64 := ⟨hb.1⟩
    have zt : SZ (a.2 - (c.2 - a.2) / ((c.1 : Rat) - (a.1 : Rat)) * (a.1 : Rat)) 2000 := ⟨(inferInstance : SZ (a.2 - (c.2 - a.2) / ((c.1 : Rat) - (a.1 : Rat)) * (a.1 : Rat)) _).z.mono (by decide)⟩
    have := off_e (k := k) (S := S) h.toHS h.big h.height h.off (a := (c.2 - a.2) / ((c.1 : Rat) - (a.1 : Rat))) (b := a.2 - (c.2 - a.2) / ((c.1 : Rat) - (a.1 : Rat)) * (a.1 : Rat)) (v := b.2) (t := b.1) (by decide)
    rw [off_stq hne] at this
    exact this : callN P F (k + 5) "off" [lnD ((c.2 - a.2) / ((c.1 : Rat) - (a.1 : Rat))) (a.2 - (c.2 - a.2) / ((c.1 : Rat) - (a.1 : Rat)) * (a.1 : Rat)), smpD b] S = .ok (rD (stq a b c)) S)
  simp [wpx, wpo, wps, ht, smp_item ha, smp_item hc, sl, li]
  generalize hLn : lnD ((c.2 - a.2) / ((c.1 : Rat) - (a.1 : Rat))) (a.2 - (c.2 - a.2) / ((c.1 : Rat) - (a.1 : Rat)) * (a.1 : Rat)) = Ln at *
  refine for_rng (FaI S t ts f l Ln) (by omega) (by omega) (by omega) (by omega) ⟨rfl, none, none, none, rfl, Nat.le_refl _⟩ ?_ ?_
  · rintro i e S2 hi ⟨rfl, o, x5, x6, rfl, hI⟩
    refine ⟨_, bind_name (by simp), ?_⟩
    obtain ⟨m, hm0⟩ : ∃ m, m = f + 1 + i := ⟨_, rfl⟩
    rw [← hm0] at hI
    have hk : m < ts.length := by omega
    have hb := get_getD zS hk
    have bb := hz _ (getD_mem (z := zS) hk)
    have hm := hms m
    have hs := hsz _ hk
    generalize ts.getD m zS = b at *
    have e1 : (f : Int) + 1 + (i : Int) = (m : Int) := by omega
    rw [e1]
    have zm : SZ (absQ (stq a b c)) 1200 := ⟨by rw [← hm]; exact hs⟩
    have fin : ∀ e', e' = [some (.ref t), some (.int f), some (.int l), some (farD (some (stepM o m (absQ (stq a b c))))), some Ln, some (.int m), some (rD (absQ (stq a b c)))] → FaI S2 t ts f l Ln (i + 1) e' S2 := fun e' he => by
      rw [he, ← hm]
      refine ⟨rfl, _, _, _, rfl, ?_⟩
      have := hI.step (show f + 1 ≤ m by omega)
      rw [show f + 1 + (i + 1) = m + 1 by omega]
      exact this
    simp [wpx, wpo, wps, ht, smp_item hb, of _ b bb, size_e h.size, isN_far]
    rcases o with _ | ⟨p, w⟩
    · simp [wpx, wpo, wps]
      exact fin _ (by simp [farD, stepM])
    · have hw : Sz 1200 w := by
        obtain ⟨h1, h2, h3, _⟩ := hI
        rw [h3]
        exact hsz p (by omega)
      have zw : SZ w 1200 := ⟨hw⟩
      by_cases k1 : w < absQ (stq a b c)
      · simp [wpx, wpo, wps, farD, order_e h.order, ords, k1]
        exact fin _ (by simp [farD, stepM, k1])
      · simp [wpx, wpo, wps, farD, order_e h.order, ords, k1]
        exact fin _ (by simp [farD, stepM, k1])
  · rintro e S2 ⟨rfl, o, x5, x6, rfl, hI⟩
    simp [wpx, wpo, wps]
    refine ⟨o, rfl, ?_⟩
    have : f + 1 + ((l : Int) - ((f : Int) + 1)).toNat = l := by omega
    rw [this] at hI
    exact hI
abbrev GapS := Int × Option Rat
def gapD (g : GapS) : D := .tup [.int g.1, valD g.2]
def hdN (b : Int) (e : EnN) : GapS := (e.1, e.2.map fun n => Rat.divInt n b)
def HdI (S : Store) (t : Nat) (b : Int) (es : List EnN) (i : Nat) (e : Env) (S2 : Store) : Prop := ∃ x3 x4, e = [some (.ref t), some (.int b), some (.ref S.length), x3, x4] ∧ S2 = S ++ [.lst ((es.map fun e => gapD (hdN b e)).take i)]
/-- a new list of these -/
def IsG (S S' : Store) (x : D) (ds : List D) : Prop := Ext S S' ∧ ∃ q, x = .ref q ∧ S.length ≤ q ∧ getL S' q = some ds
theorem handed_wp (h : Has P "_law_handed" 2 5 b__law_handed) (hr : P.defs.lookup ("_law_ratio" : Str) = some a__law_ratio) (hF : BIG ≤ F) {t : Nat} {es : List EnN} {b : Int} (ht : getL S t = some (es.map enD)) (hb : 0 < b) (hb2 : b.natAbs < 2 ^ 1000) (hl : es.length ≤ 10000) :
    Wp (callN P F (k + 2) "_law_handed" [.ref t, .int b] S) E fun r S' => IsG S S' r (es.map fun e => gapD (hdN b e)) := by
  apply wp_has h rfl
  simp only [b__law_handed]
  have zb : IZ b 1000 := ⟨hb2⟩
  simp [wpx, wpo, wps]
  refine for_seq (xs := es.map enD) (HdI S t b es) (getL_app_l ht) ⟨_, _, rfl, by simp⟩ ?_ ?_
  · rintro i y e S2 hy hi ⟨x3, x4, rfl, rfl⟩
    obtain ⟨c, hc, rfl⟩ := map_get hy
    have hi2 := (List.getElem?_eq_some_iff.mp hc).1
    refine ⟨getL_app_l ht, ?_⟩
    have hlen : min i es.length < lim := by unfold lim; omega
    obtain ⟨m, v⟩ := c
    refine ⟨_, bind_two (by simp), ?_⟩
    have hc2 : (es.map fun e => gapD (hdN b e))[i]? = some (gapD (hdN b (m, v))) := by simp [hc]
    have fin : ∀ e' d, e' = [some (.ref t), some (.int b), some (.ref S.length), some (.int m), some (numD v)] → d = gapD (hdN b (m, v)) → HdI S t b es (i + 1) e' (S ++ [.lst ((es.map fun e => gapD (hdN b e)).take i ++ [d])]) := fun e' d he hd => ⟨_, _, he, by rw [hd, List.take_succ, hc2]; rfl⟩
    cases v with
    | none =>
      simp [wpx, wpo, wps, isN_num, hlen]
      exact fin _ _ rfl rfl
    | some n =>
      have e2 : isN (D.int n) = false := rfl
      simp [wpx, wpo, wps, isN_num, hlen, numD, e2, lratio_e hr hF hb]
      exact fin _ _ rfl rfl
  · rintro e S2 ⟨x3, x4, rfl, rfl⟩
    rw [List.take_of_length_le (by simp)]
    refine ⟨getL_app_l ht, ?_⟩
    simp [wpx, wpo, wps]
    exact ⟨Ext.one, _, rfl, Nat.le_refl _, by simp [getL]⟩
/-- what a list of samples is like -/
structure HeI (hs : List EnI) : Prop where
  up : hs.Pairwise fun a c => a.1 < c.1
  b : ∀ e ∈ hs, e.1.natAbs < 2 ^ 43 ∧ e.2.natAbs < 2 ^ 130
  l : hs.length < 95
theorem HeI.eb {hs : List EnI} (h : HeI hs) : ∀ e ∈ hs, EiB e := fun e he => ⟨Nat.lt_of_lt_of_le (h.b e he).1 (nat_pow_mono (by decide)), Nat.lt_of_lt_of_le (h.b e he).2 (nat_pow_mono (by decide))⟩
end
end Lt
set_option maxRecDepth 100000
set_option maxHeartbeats 2000000
namespace Lt
set_option exponentiation.threshold 9000
open PySem (Str)
open L2 (Key)
open LawT
def getT (S : Store) (r : Nat) : Option (List (List Key × D)) := match S[r]? with
  | some (.dT kvs) => some kvs
  | _ => none
def kk (f l : Int) : List Key := [.inl f, .inl l]
section
variable {S S' : Store} {r : Nat} {kvs : List (List Key × D)} {f l : Int} {v : D} {W : List Nat}
theorem getT_e (h : getT S r = some kvs) : S[r]? = some (.dT kvs) := by
  unfold getT at h
  split at h
  · cases h; assumption
  · cases h
theorem getT_lt (h : getT S r = some kvs) : r < S.length := (List.getElem?_eq_some_iff.mp (getT_e h)).1
theorem Fr.getT (a : Fr W S S') (h : Lt.getT S r = some kvs) (hp : r ∉ W) : Lt.getT S' r = some kvs := by
  have hl := getT_lt h
  unfold Lt.getT at h ⊢
  rw [a.2 r hl hp]; exact h
theorem getT_new : getT (S ++ [.dT kvs]) S.length = some kvs := by simp [getT]
theorem isDct_T (h : getT S r = some kvs) : isDct (.ref r) S = true := by simp [isDct, getT_e h]
theorem getR_T (h : getT S r = some kvs) : getR (.ref r) (.tup [.int f, .int l]) v S = .ok ((lookK kvs (kk f l)).getD v) S := by
  simp [getR, dgetO, getT_e h, keysD, mapO, keyD, kk]
theorem dgtR_T (h : getT S r = some kvs) {d : D} (hd : lookK kvs (kk f l) = some d) : dgtR (.ref r) (.tup [.int f, .int l]) S = .ok d S := by
  unfold kk at hd
  simp [dgtR, dgetO, getT_e h, keysD, mapO, keyD, hd]
theorem dstR_T (h : getT S r = some kvs) (hl : kvs.length < lim) : dstR (.ref r) (.tup [.int f, .int l]) v S = .ok .non (S.set r (.dT (putKD kvs (kk f l) v))) := by
  simp [dstR, getT_e h, keysD, mapO, keyD, hl, kk]
end
theorem look_put {κ : Type} [DecidableEq κ] {kvs : List (κ × D)} {k k' : κ} {v : D} (h : lookK kvs k = none) : putKD kvs k v = kvs ++ [(k, v)] ∧ lookK (kvs ++ [(k, v)]) k' = if k' = k then some v else lookK kvs k' := by
  unfold lookK at h
  rw [Option.map_eq_none_iff, List.find?_eq_none] at h
  have ha : ¬ (kvs.any fun kv => decide (kv.1 = k)) = true := by
    rw [List.any_eq_true]
    rintro ⟨x, hx, hk⟩
    exact h x hx hk
  constructor
  · unfold putKD
    rw [if_neg ha]
  · unfold lookK
    rw [List.find?_append]
    by_cases e : k' = k
    · subst e
      have : kvs.find? (fun kv => decide (kv.1 = k')) = none := List.find?_eq_none.mpr h
      rw [this]
      simp
    · rw [if_neg e]
      have : ¬ k = k' := fun z => e z.symm
      simp [this]
theorem kk_inj {f l f' l' : Nat} : kk f l = kk f' l' ↔ f = f' ∧ l = l' := by
  unfold kk
  simp
  omega
/-- what a table tells, for the places that are done -/
def TbD (ts : List Smp) (kvs : List (List Key × D)) (d : Nat → Nat → Prop) : Prop := ∀ f l : Nat, (d f l → ∃ o, lookK kvs (kk f l) = some (farD o) ∧ FstMax (msQ ts f l) (f + 1) l o) ∧ (¬ d f l → lookK kvs (kk f l) = none)
def TbP (ts : List Smp) (kvs : List (List Key × D)) : Prop := TbD ts kvs fun f l => f + 2 ≤ l ∧ l < ts.length
theorem TbD.put {ts : List Smp} {kvs : List (List Key × D)} {d d' : Nat → Nat → Prop} {f l : Nat} {o : Option (Nat × Rat)} (h : TbD ts kvs d) (hn : ¬ d f l) (ho : FstMax (msQ ts f l) (f + 1) l o) (hd : ∀ x y, d' x y ↔ d x y ∨ (x = f ∧ y = l)) : putKD kvs (kk f l) (farD o) = kvs ++ [(kk f l, farD o)] ∧ TbD ts (kvs ++ [(kk f l, farD o)]) d' := by
  have h0 := (h f l).2 hn
  refine ⟨(look_put (k' := kk f l) h0).1, fun x y => ?_⟩
  rw [(look_put (k' := kk x y) h0).2]
  constructor
  · intro hxy
    by_cases e : x = f ∧ y = l
    · rw [if_pos (kk_inj.mpr e)]
      obtain ⟨rfl, rfl⟩ := e
      exact ⟨o, rfl, ho⟩
    · rw [if_neg fun z => e (kk_inj.mp z)]
      rcases (hd x y).mp hxy with z | z
      · exact (h x y).1 z
      · exact absurd z e
  · intro hxy
    have e : ¬ (x = f ∧ y = l) := fun z => hxy ((hd x y).mpr (.inr z))
    rw [if_neg fun z => e (kk_inj.mp z)]
    exact (h x y).2 fun z => hxy ((hd x y).mpr (.inl z))
theorem TbD.iff {ts : List Smp} {kvs : List (List Key × D)} {d d' : Nat → Nat → Prop} (h : TbD ts kvs d) (hd : ∀ x y, d' x y ↔ d x y) : TbD ts kvs d' := fun f l => by
  have := h f l
  rw [← hd f l] at this
  exact this
section
variable {P : Prog} {F k : Nat} {S : Store} {E : XP}
def TbI (B : Store) (t : Nat) (ts : List Smp) (i j : Nat) (x2 : Option D) (e : Env) (S : Store) : Prop := ∃ x3 kvs, e = [some (.ref t), some (.ref B.length), x2, x3] ∧ S = B ++ [.dT kvs] ∧ kvs.length ≤ i * 200 + j ∧ TbD ts kvs fun f l => f + 2 ≤ l ∧ l < ts.length ∧ (f < i ∨ f = i ∧ l < i + 2 + j)
theorem far_table_wp (h : HFar P F) (hft : Has P "far_table" 1 4 b_far_table) {t : Nat} {ts : List Smp} (ht : getL S t = some (ts.map smpD)) (hz : ∀ s ∈ ts, SmB s) (hl : ts.length ≤ 100) (hup : ts.Pairwise fun a c => a.1 < c.1) :
    Wp (callN P F (k + 7) "far_table" [.ref t] S) E fun r S' => ∃ kvs, r = .ref S.length ∧ S' = S ++ [.dT kvs] ∧ TbP ts kvs := by
  apply wp_has hft rfl
  simp only [b_far_table]
  simp [wpx, wpo, wps, getL_app_l ht]
  refine for_rng (fun i e S2 => ∃ x2, TbI S t ts i 0 x2 e S2) (by omega) (by omega) (by omega) (by omega) ⟨none, none, [], rfl, rfl, by simp, fun f l => ⟨fun z => by omega, fun _ => rfl⟩⟩ ?_ ?_
  · rintro i e S2 hi ⟨x2, x3, kvs, rfl, rfl, hkl, hd⟩
    refine ⟨_, bind_name (by simp), ?_⟩
    have hi2 : i < ts.length := by omega
    have ht2 : getL (S ++ [.dT kvs]) t = some (ts.map smpD) := getL_app_l ht
    simp [wpx, wpo, wps, ht2]
    refine for_rng (TbI S t ts i · (some (.int i))) (by omega) (by omega) (by omega) (by omega) ⟨x3, kvs, rfl, rfl, hkl, hd⟩ ?_ ?_
    · rintro j e S2 hj ⟨x3, kvs, rfl, rfl, hkl, hd⟩
      refine ⟨_, bind_name (by simp), ?_⟩
      obtain ⟨l, hl0⟩ : ∃ l, l = i + 2 + j := ⟨_, rfl⟩
      have e1 : (i : Int) + 2 + (j : Int) = (l : Int) := by omega
      rw [e1]
      have hll : l < ts.length := by omega
      have ht2 : getL (S ++ [.dT kvs]) t = some (ts.map smpD) := getL_app_l ht
      have hne : (ts.getD i zS).1 ≠ (ts.getD l zS).1 := by
        have := List.pairwise_iff_getElem.mp hup i l (by omega) hll (by omega)
        have h2 : (ts.getD i zS).1 < (ts.getD l zS).1 := by simpa [List.getD, show i < ts.length by omega, hll] using this
        omega
      simp [wpx, wpo, wps]
      refine (farthest_wp h ht2 hz (by omega) (by omega) hll hne).imp ?_
      rintro r S3 ⟨rfl, o, rfl, ho⟩
      have hlim : kvs.length < lim := by
        have : i * 200 ≤ 100 * 200 := Nat.mul_le_mul_right 200 (by omega)
        unfold lim; omega
      have hn : ¬ (i + 2 ≤ l ∧ l < ts.length ∧ (i < i ∨ i = i ∧ l < i + 2 + j)) := by omega
      obtain ⟨p1, p2⟩ := hd.put hn ho (d' := fun f l => f + 2 ≤ l ∧ l < ts.length ∧ (f < i ∨ f = i ∧ l < i + 2 + (j + 1))) (fun x y => by omega)
      simp [wpx, wpo, wps, dstR_T (getT_new (S := S) (kvs := kvs)) hlim, p1]
      exact ⟨_, _, rfl, rfl, by simp; omega, p2⟩
    · rintro e S2 ⟨x3, kvs, rfl, rfl, hkl, hd⟩
      refine ⟨_, x3, kvs, rfl, rfl, ?_, hd.iff fun x y => by omega⟩
      rw [Nat.succ_mul]
      omega
  · rintro e S2 ⟨x2, x3, kvs, rfl, rfl, hkl, hd⟩
    simp [wpx, wpo, wps]
    exact hd.iff fun x y => by omega
/-- the place of the last sample of what leads to a label's place -/
def epT (tied : Bool) (at_ : Nat) : Nat := if tied = true then at_ else at_ - 1
/-- no sample between is off by more -/
def LeadQ (ts : List Smp) (s e : Nat) (q : Rat) : Prop := ∀ k, s < k → k < e → msQ ts s e k ≤ q
structure HLab (P : Prog) (F : Nat) : Prop extends HFar P F where
  tab : Has P "far_table" 1 4 b_far_table
  endp : Has P "end_place" 2 2 b_end_place
  leads : Has P "leads" 5 6 b_leads
  labs : Has P "labels_by" 4 8 b_labels_by
  places : Has P "places_of" 2 2 b_places_of
theorem end_place_e (h : Has P "end_place" 2 2 b_end_place) {at_ : Nat} {tied : Bool} (ha : 1 ≤ at_) (hb : at_ < 1000000) : callN P F (k + 1) "end_place" [.int at_, .bl tied] S = .ok (.int (epT tied at_)) S := by
  apply has_eq h rfl
  simp only [b_end_place]
  cases tied with
  | true => simp [wpx, wpo, wps, epT]
  | false =>
    have : ((at_ : Int) - 1) = ((at_ - 1 : Nat) : Int) := by omega
    simp [wpx, wpo, wps, epT, this]
theorem places_e (h : Has P "places_of" 2 2 b_places_of) {t : Nat} {ds : List D} {tied : Bool} (ht : getL S t = some ds) (hl : ds.length < 10000) : callN P F (k + 1) "places_of" [.ref t, .bl tied] S = .ok (.int ((if tied = true then ds.length else ds.length + 1 : Nat) : Int)) S := by
  apply has_eq h rfl
  simp only [b_places_of]
  cases tied with
  | true => simp [wpx, wpo, wps, ht]
  | false => simp [wpx, wpo, wps, ht]
theorem lead_look {ts : List Smp} {kvs : List (List Key × D)} (h : TbP ts kvs) {s e : Nat} (he : e < ts.length) : ∃ o, (lookK kvs (kk s e)).getD .non = farD o ∧ (o = none ∨ FstMax (msQ ts s e) (s + 1) e o) ∧ (o = none → e < s + 2) := by
  by_cases hse : s + 2 ≤ e
  · obtain ⟨o, h1, h2⟩ := (h s e).1 ⟨hse, he⟩
    refine ⟨o, by rw [h1]; rfl, .inr h2, fun z => ?_⟩
    subst z
    have h2 : e ≤ s + 1 := h2
    omega
  · have := (h s e).2 (fun z => hse z.1)
    exact ⟨none, by rw [this]; rfl, .inl rfl, fun _ => by omega⟩
theorem leads_wp (h : HLab P F) {r : Nat} {ts : List Smp} {kvs : List (List Key × D)} {q : Rat} {s at_ : Nat} {tied : Bool} (hr : getT S r = some kvs) (ht : TbP ts kvs) (hz : ∀ s ∈ ts, SmB s) (hl : ts.length ≤ 1000) (hq : Sz 1000 q) (ha : 1 ≤ at_) (he : epT tied at_ < ts.length) (ha2 : at_ < 100000) :
    Wp (callN P F (k + 2) "leads" [.ref r, .int s, .int at_, rD q, .bl tied] S) E fun x S' => S' = S ∧ ∃ b : Bool, x = .bl b ∧ (b = true ↔ LeadQ ts s (epT tied at_) q) := by
  apply wp_has h.leads rfl
  simp only [b_leads]
  obtain ⟨o, h1, h2, h3⟩ := lead_look ht (s := s) he
  have zq : SZ q 1000 := ⟨hq⟩
  simp [wpx, wpo, wps, isDct_T hr, end_place_e h.endp ha (by omega), getR_T hr, h1, isN_far]
  rcases o with _ | ⟨p, w⟩
  · simp [wpx, wpo, wps]
    intro k k1 k2
    have := h3 rfl
    omega
  · rcases h2 with h2 | h2
    · cases h2
    have hw : Sz 1200 w := by
      rw [h2.2.2.1]
      have := h2.1
      have := h2.2.1
      exact sz_ms hz (by omega) (by omega) he
    have zw : SZ w 1200 := ⟨hw⟩
    simp [wpx, wpo, wps, farD, order_e h.order, ords]
    have hiff : w ≤ q ↔ LeadQ ts s (epT tied at_) q := by
      obtain ⟨a1, a2, a3, a4, _⟩ := h2
      constructor
      · intro hwq k k1 k2
        have := a4 k (by omega) k2
        grind
      · intro hL
        rw [a3]
        exact hL p (by omega) a2
    by_cases hwq : w ≤ q
    · exact .inr ⟨hwq, hiff.mp hwq⟩
    · exact .inl ⟨hwq, fun z => hwq (hiff.mpr z)⟩
def nD (n : Nat) : D := .int n
def gN (ls : List Nat) (i : Nat) : Nat := ls.getD i 0
/-- the fewest that lead to each -/
def LabP (L : Nat → Nat → Prop) (ls : List Nat) : Prop := gN ls 0 = 0 ∧ ∀ a, 1 ≤ a → a < ls.length → (∃ s, s < a ∧ L s a ∧ gN ls a = gN ls s + 1) ∧ ∀ s, s < a → L s a → gN ls a ≤ gN ls s + 1
/-- the least so far -/
def LeastW (L : Nat → Nat → Prop) (ls : List Nat) (a i w : Nat) : Prop := (∃ s, s < a ∧ L s a ∧ w = gN ls s + 1) ∧ ∀ s, (s < i ∨ s = a - 1) → L s a → w ≤ gN ls s + 1
theorem LabP.snoc {L : Nat → Nat → Prop} {ls : List Nat} {w : Nat} (h : LabP L ls) (h1 : 1 ≤ ls.length) (hw : LeastW L ls ls.length (ls.length - 1) w) : LabP L (ls ++ [w]) := by
  have old : ∀ j, j < ls.length → gN (ls ++ [w]) j = gN ls j := fun j hj => by simp [gN, List.getD, List.getElem?_append_left hj]
  have new : gN (ls ++ [w]) ls.length = w := by simp [gN, List.getD]
  refine ⟨by rw [old 0 (by omega)]; exact h.1, fun a h2 h3 => ?_⟩
  rw [List.length_append, List.length_singleton] at h3
  by_cases e : a = ls.length
  · subst e
    obtain ⟨⟨s, k1, k2, k3⟩, k4⟩ := hw
    rw [new]
    refine ⟨⟨s, k1, k2, by rw [old s k1]; exact k3⟩, fun s' z1 z2 => ?_⟩
    rw [old s' z1]
    exact k4 s' (by omega) z2
  · obtain ⟨⟨s, k1, k2, k3⟩, k4⟩ := h.2 a h2 (by omega)
    rw [old a (by omega)]
    refine ⟨⟨s, k1, k2, by rw [old s (by omega)]; exact k3⟩, fun s' z1 z2 => ?_⟩
    rw [old s' (by omega)]
    exact k4 s' z1 z2
theorem LabP.le {L : Nat → Nat → Prop} {ls : List Nat} (h : LabP L ls) : ∀ a, a < ls.length → gN ls a ≤ a := by
  intro a
  induction a using Nat.strongRecOn with
  | ind a ih =>
    intro ha
    by_cases h0 : a = 0
    · subst h0; rw [h.1]; omega
    · obtain ⟨⟨s, k1, k2, k3⟩, _⟩ := h.2 a (by omega) ha
      have := ih s k1 (by omega)
      omega
theorem nd_item {ls : List Nat} {i : Nat} (h : i < ls.length) : itemR (some (ls.map nD)) (i : Int) S = .ok (.int (gN ls i : Nat)) S := itemR_nat (by simp [gN, List.getD, h]; rfl)
def LbI (B : Store) (L : Nat → Nat → Prop) (r c : Nat) (q : Rat) (tied : Bool) (i : Nat) (e : Env) (S : Store) : Prop := ∃ ls x5 x6 x7, e = [some (.ref r), some (.int c), some (rD q), some (.bl tied), some (.ref B.length), x5, x6, x7] ∧ S = B ++ [.lst (ls.map nD)] ∧ ls.length = i + 1 ∧ LabP L ls
def LbJ (B : Store) (L : Nat → Nat → Prop) (r c : Nat) (q : Rat) (tied : Bool) (ls : List Nat) (a i : Nat) (e : Env) (S : Store) : Prop := ∃ (w : Nat) (wi : Int) (x7 : Option D), wi = w ∧ e = [some (.ref r), some (.int c), some (rD q), some (.bl tied), some (.ref B.length), some (.int a), some (.int wi), x7] ∧ S = B ++ [.lst (ls.map nD)] ∧ LeastW L ls a i w ∧ w ≤ a
theorem labels_by_wp (h : HLab P F) {r : Nat} {ts : List Smp} {kvs : List (List Key × D)} {q : Rat} {c : Nat} {tied : Bool} (hr : getT S r = some kvs) (ht : TbP ts kvs) (hz : ∀ s ∈ ts, SmB s) (hl : ts.length ≤ 1000) (hq : Sz 1000 q) (hc : 1 ≤ c) (hc2 : c = if tied = true then ts.length else ts.length + 1) :
    Wp (callN P F (k + 3) "labels_by" [.ref r, .int c, rD q, .bl tied] S) E fun x S' => ∃ ls, x = .ref S.length ∧ S' = S ++ [.lst (ls.map nD)] ∧ ls.length = c ∧ LabP (fun s a => LeadQ ts s (epT tied a) q) ls := by
  apply wp_has h.labs rfl
  simp only [b_labels_by]
  have hc3 : c ≤ 1001 := by rw [hc2]; split <;> omega
  generalize hL : (fun s a => LeadQ ts s (epT tied a) q) = L
  have hlead : ∀ a, L a (a + 1) := fun a => by
    rw [← hL]
    intro k k1 k2
    unfold epT at k2
    split at k2 <;> omega
  simp [wpx, wpo, wps]
  refine for_rng (LbI S L r c q tied) (by omega) (by omega) (by omega) (by omega) ⟨[0], none, none, none, rfl, rfl, rfl, rfl, fun a h1 h2 => by simp at h2; omega⟩ ?_ ?_
  · rintro i e S2 hi ⟨ls, x5, x6, x7, rfl, rfl, hll, hP⟩
    refine ⟨_, bind_name (by simp), ?_⟩
    have e1 : (1 : Int) + (i : Int) = ((i + 1 : Nat) : Int) := by omega
    have hls : getL (S ++ [.lst (ls.map nD)]) S.length = some (ls.map nD) := by simp [getL]
    have e2 : ((i + 1 : Nat) : Int) - 1 = (i : Int) := by omega
    rw [e1]
    obtain ⟨a, ha⟩ : ∃ a, a = i + 1 := ⟨_, rfl⟩
    rw [← ha] at e2 ⊢
    have hii : i < ls.length := by omega
    have hle := hP.le
    simp [wpx, wpo, wps, hls, e2, nd_item hii]
    refine for_rng (LbJ S L r c q tied ls a) (by omega) (by omega) (by omega) (by omega) ⟨gN ls i + 1, _, x7, by omega, rfl, rfl, ⟨⟨i, by omega, by rw [ha]; exact hlead i, rfl⟩, fun s hs _ => ?_⟩, ?_⟩ ?_ ?_
    · have : s = i := by omega
      subst this; omega
    · have := hle i hii; omega
    · rintro j e S2 hj ⟨w, wi, x7, hwi, rfl, rfl, hw, hwa⟩
      refine ⟨_, bind_name (by simp), ?_⟩
      have hjl : j < ls.length := by omega
      have hls : getL (S ++ [.lst (ls.map nD)]) S.length = some (ls.map nD) := by simp [getL]
      have hr2 : getT (S ++ [.lst (ls.map nD)]) r = some kvs := (Fr.of Ext.one : Fr [] _ _).getT hr (by simp)
      have hjw := hle j hjl
      have e4 : (0 : Int) + (j : Int) = (j : Int) := by omega
      have stay : (¬ (gN ls j + 1 < w ∧ L j a)) → LeastW L ls a (j + 1) w := fun hn => ⟨hw.1, fun s hs hL => by
        by_cases e : s = j
        · subst e
          have : ¬ gN ls s + 1 < w := fun z => hn ⟨z, hL⟩
          omega
        · exact hw.2 s (by omega) hL⟩
      have better : gN ls j + 1 < w → L j a → LeastW L ls a (j + 1) (gN ls j + 1) := fun h1 h2 => ⟨⟨j, by omega, h2, rfl⟩, fun s hs hL => by
        by_cases e : s = j
        · subst e; omega
        · have := hw.2 s (by omega) hL; omega⟩
      by_cases k1 : gN ls j + 1 < w
      · have k2 : (gN ls j : Int) + 1 < wi := by omega
        simp [wpx, wpo, wps, hls, nd_item hjl, k2]
        have hep : epT tied a < ts.length := by
          unfold epT
          cases tied <;> simp at hc2 ⊢ <;> omega
        refine (leads_wp (s := j) (at_ := a) (tied := tied) h hr2 ht hz hl hq (by omega) hep (by omega)).imp ?_
        rintro x S3 ⟨rfl, b, rfl, hb⟩
        have hb : b = true ↔ L j a := by rw [hb, ← hL]
        cases b with
        | true =>
          simp [wpx, wpo, wps, hls, nd_item hjl]
          exact ⟨gN ls j + 1, _, _, by omega, rfl, rfl, better k1 (hb.mp rfl), by omega⟩
        | false =>
          simp [wpx, wpo, wps]
          exact ⟨w, wi, _, hwi, rfl, rfl, stay (fun z => by have := hb.mpr z.2; cases this), hwa⟩
      · have k2 : ¬ (gN ls j : Int) + 1 < wi := by omega
        simp [wpx, wpo, wps, hls, nd_item hjl, k2]
        exact ⟨w, wi, _, hwi, rfl, rfl, stay (fun z => k1 z.1), hwa⟩
    · rintro e S2 ⟨w, wi, x7, hwi, rfl, rfl, hw, hwa⟩
      have hls : getL (S ++ [.lst (ls.map nD)]) S.length = some (ls.map nD) := by simp [getL]
      have hlim : ls.length < lim := by unfold lim; omega
      simp [wpx, wpo, wps, hls, hlim]
      have h0 : ((i : Int) - 0).toNat = ls.length - 1 := by omega
      have h3 : a = ls.length := by omega
      rw [h0, h3] at hw
      refine ⟨ls ++ [w], _, _, _, rfl, by simp [nD, hwi], by simp; omega, hP.snoc (by omega) hw⟩
  · rintro e S2 ⟨ls, x5, x6, x7, rfl, rfl, hll, hP⟩
    simp [wpx, wpo, wps]
    exact ⟨ls, rfl, by omega, hP⟩
end
end Lt
set_option maxRecDepth 100000
set_option maxHeartbeats 2000000
namespace Lt
set_option exponentiation.threshold 9000
open PySem (Str)
open L2 (Key)
open LawT
abbrev T3 := Int × Int × Int
def thD (t : T3) : D := .tup [.int t.1, .int t.2.1, .int t.2.2]
def jump (ls : List Nat) (s a : Nat) : Bool := decide (gN ls s + 1 < gN ls a)
noncomputable def farPl (ts : List Smp) (f l : Nat) : Nat := by
  classical
  exact if h : ∃ p v, FstMax (msQ ts f l) (f + 1) l (some (p, v)) then h.choose else 0
theorem farPl_eq {ts : List Smp} {f l p : Nat} {v : Rat} (h : FstMax (msQ ts f l) (f + 1) l (some (p, v))) : farPl ts f l = p := by
  have h0 : ∃ p v, FstMax (msQ ts f l) (f + 1) l (some (p, v)) := ⟨p, v, h⟩
  unfold farPl
  rw [dif_pos h0]
  obtain ⟨w, hw⟩ := h0.choose_spec
  have := hw.uniq h
  simp only [Option.some.injEq, Prod.mk.injEq] at this
  exact this.1
noncomputable def thr (ts : List Smp) (tied : Bool) (s a : Nat) : T3 := ((ts.getD s zS).1, (ts.getD (farPl ts s (epT tied a)) zS).1, (ts.getD (epT tied a) zS).1)
def barRow (ls : List Nat) (g : Nat → Nat → T3) (s j : Nat) : List T3 := ((List.range j).filter fun j => jump ls s (s + 1 + j)).map fun j => g s (s + 1 + j)
def barsL (ls : List Nat) (g : Nat → Nat → T3) (i : Nat) : List T3 := (List.range i).flatMap fun s => barRow ls g s (ls.length - (s + 1))
theorem barRow_succ {ls : List Nat} {g : Nat → Nat → T3} {s j : Nat} : barRow ls g s (j + 1) = barRow ls g s j ++ if jump ls s (s + 1 + j) = true then [g s (s + 1 + j)] else [] := by
  unfold barRow
  rw [List.range_succ, List.filter_append, List.map_append]
  by_cases h : jump ls s (s + 1 + j) = true
  · simp [h]
  · simp [h]
theorem barsL_succ {ls : List Nat} {g : Nat → Nat → T3} {i : Nat} : barsL ls g (i + 1) = barsL ls g i ++ barRow ls g i (ls.length - (i + 1)) := by
  unfold barsL
  rw [List.range_succ, List.flatMap_append]
  simp
theorem barRow_len {ls : List Nat} {g : Nat → Nat → T3} {s j : Nat} : (barRow ls g s j).length ≤ j := by
  unfold barRow
  rw [List.length_map]
  exact Nat.le_trans (List.length_filter_le _ _) (by simp)
theorem barsL_len {ls : List Nat} {g : Nat → Nat → T3} : ∀ i, (barsL ls g i).length ≤ i * ls.length
  | 0 => by simp [barsL]
  | i + 1 => by
    rw [barsL_succ, List.length_append, Nat.succ_mul]
    have := barsL_len (ls := ls) (g := g) i
    have := barRow_len (ls := ls) (g := g) (s := i) (j := ls.length - (i + 1))
    omega
/-- no piece leads over a jump -/
theorem jump_far {ts : List Smp} {ls : List Nat} {q : Rat} {tied : Bool} (hP : LabP (fun s a => LeadQ ts s (epT tied a) q) ls) {s a : Nat} (hsa : s < a) (ha : a < ls.length) (hj : jump ls s a = true) : ¬ LeadQ ts s (epT tied a) q ∧ s + 2 ≤ epT tied a := by
  have hn : ¬ LeadQ ts s (epT tied a) q := fun z => by
    have := (hP.2 a (by omega) ha).2 s hsa z
    unfold jump at hj
    have := of_decide_eq_true hj
    omega
  refine ⟨hn, ?_⟩
  apply Decidable.byContradiction
  intro z
  exact hn fun k k1 k2 => by omega
section
variable {P : Prog} {F k : Nat} {S : Store} {E : XP}
def BaI (B : Store) (t r n : Nat) (tied : Bool) (us : List T3) (x5 : Option D) (e : Env) (S : Store) : Prop := ∃ x6 x7 x8, e = [some (.ref t), some (.ref r), some (.ref n), some (.bl tied), some (.ref B.length), x5, x6, x7, x8] ∧ S = B ++ [.lst (us.map thD)]
theorem bars_by_wp (h : HLab P F) (hb : Has P "bars_by" 4 9 b_bars_by) {t r n : Nat} {ts : List Smp} {kvs : List (List Key × D)} {ls : List Nat} {q : Rat} {tied : Bool} (ht : getL S t = some (ts.map smpD)) (hr : getT S r = some kvs) (hT : TbP ts kvs) (hn : getL S n = some (ls.map nD)) (hl : ts.length ≤ 100) (hll : ls.length = if tied = true then ts.length else ts.length + 1) (hP : LabP (fun s a => LeadQ ts s (epT tied a) q) ls) :
    Wp (callN P F (k + 2) "bars_by" [.ref t, .ref r, .ref n, .bl tied] S) E fun x S' => IsG S S' x ((barsL ls (thr ts tied) ls.length).map thD) := by
  apply wp_has hb rfl
  simp only [b_bars_by]
  have hl101 : ls.length ≤ 101 := by rw [hll]; split <;> omega
  have hep : ∀ a, a < ls.length → 1 ≤ a → epT tied a < ts.length := fun a ha h1 => by
    unfold epT
    cases tied <;> simp at hll ⊢ <;> omega
  have hle := hP.le
  simp [wpx, wpo, wps, getL_app_l hn]
  refine for_rng (fun i e S2 => ∃ x5, BaI S t r n tied (barsL ls (thr ts tied) i) x5 e S2) (by omega) (by omega) (by omega) (by omega) ⟨none, none, none, none, rfl, by simp [barsL]⟩ ?_ ?_
  · rintro i e S2 hi ⟨x5, x6, x7, x8, rfl, rfl⟩
    refine ⟨_, bind_name (by simp), ?_⟩
    have hi2 : i < ls.length := by omega
    have e0 : (0 : Int) + (i : Int) = (i : Int) := by omega
    rw [e0]
    have hn2 : getL (S ++ [.lst ((barsL ls (thr ts tied) i).map thD)]) n = some (ls.map nD) := getL_app_l hn
    simp [wpx, wpo, wps, hn2]
    refine for_rng (fun j e S2 => BaI S t r n tied (barsL ls (thr ts tied) i ++ barRow ls (thr ts tied) i j) (some (.int i)) e S2) (by omega) (by omega) (by omega) (by omega) ⟨_, _, _, rfl, by simp [barRow]⟩ ?_ ?_
    · rintro j e S2 hj ⟨x6, x7, x8, rfl, rfl⟩
      refine ⟨_, bind_name (by simp), ?_⟩
      obtain ⟨a, ha0⟩ : ∃ a, a = i + 1 + j := ⟨_, rfl⟩
      have e1 : (i : Int) + 1 + (j : Int) = (a : Int) := by omega
      rw [e1]
      have hal : a < ls.length := by omega
      have hn2 : getL (S ++ [.lst ((barsL ls (thr ts tied) i ++ barRow ls (thr ts tied) i j).map thD)]) n = some (ls.map nD) := getL_app_l hn
      have ht2 : getL (S ++ [.lst ((barsL ls (thr ts tied) i ++ barRow ls (thr ts tied) i j).map thD)]) t = some (ts.map smpD) := getL_app_l ht
      have hr2 : getT (S ++ [.lst ((barsL ls (thr ts tied) i ++ barRow ls (thr ts tied) i j).map thD)]) r = some kvs := (Fr.of Ext.one : Fr [] _ _).getT hr (by simp)
      have hlen : (barsL ls (thr ts tied) i ++ barRow ls (thr ts tied) i j).length < lim := by
        have z1 := barsL_len (ls := ls) (g := thr ts tied) i
        have z2 := barRow_len (ls := ls) (g := thr ts tied) (s := i) (j := j)
        have z3 : i * ls.length ≤ 101 * 101 := Nat.mul_le_mul (by omega) hl101
        rw [List.length_append]
        unfold lim; omega
      rw [barRow_succ, ← ha0, ← List.append_assoc]
      generalize barsL ls (thr ts tied) i ++ barRow ls (thr ts tied) i j = us at *
      have b1 := hle i hi2
      have b2 := hle a hal
      by_cases hj : jump ls i a = true
      · obtain ⟨j1, j2⟩ := jump_far hP (show i < a by omega) hal hj
        obtain ⟨o, q1, q2⟩ := (hT i (epT tied a)).1 ⟨j2, hep a hal (by omega)⟩
        rcases o with _ | ⟨p, v⟩
        · have q2 : epT tied a ≤ i + 1 := q2
          omega
        have hpl := farPl_eq q2
        have hp2 : p < ts.length := by
          have := q2.2.1
          have := hep a hal (by omega)
          omega
        have k2 : (gN ls i : Int) + 1 < (gN ls a : Int) := by
          have := of_decide_eq_true hj
          omega
        have w1 := get_getD zS (show i < ts.length by have := hep a hal (by omega); omega)
        have w2 := get_getD zS hp2
        have w3 := get_getD zS (hep a hal (by omega))
        have ee : thr ts tied i a = ((ts.getD i zS).1, (ts.getD p zS).1, (ts.getD (epT tied a) zS).1) := by unfold thr; rw [hpl]
        rw [if_pos hj, ee]
        generalize ts.getD i zS = c1 at *
        generalize ts.getD p zS = c2 at *
        generalize ts.getD (epT tied a) zS = c3 at *
        have g := fun {S2} (h2 : getT S2 r = some kvs) => dgtR_T (S := S2) (f := i) (l := epT tied a) h2 q1
        have hlen2 : us.length < lim := hlen
        simp [wpx, wpo, wps, hn2, ht2, nd_item hi2, nd_item hal, k2, end_place_e h.endp (show 1 ≤ a by omega) (show a < 1000000 by omega), g hr2, farD, smp_item w1, smp_item w2, smp_item w3, smp_seq, hlen2]
        exact ⟨_, _, _, rfl, by simp; rfl⟩
      · have k2 : ¬ (gN ls i : Int) + 1 < (gN ls a : Int) := by
          intro z
          exact hj (decide_eq_true (by omega))
        rw [if_neg hj, List.append_nil]
        simp [wpx, wpo, wps, hn2, nd_item hi2, nd_item hal, k2]
        exact ⟨_, _, _, rfl, rfl⟩
    · rintro e S2 ⟨x6, x7, x8, rfl, rfl⟩
      refine ⟨_, x6, x7, x8, rfl, ?_⟩
      have : ((ls.length : Int) - ((i : Int) + 1)).toNat = ls.length - (i + 1) := by omega
      rw [this, barsL_succ]
  · rintro e S2 ⟨x5, x6, x7, x8, rfl, rfl⟩
    simp [wpx, wpo, wps]
    refine ⟨Ext.one, _, rfl, Nat.le_refl _, ?_⟩
    simp [getL]
theorem LabP.uniq {L : Nat → Nat → Prop} {ls ls' : List Nat} (h : LabP L ls) (h' : LabP L ls') (hl : ls.length = ls'.length) : ls = ls' := by
  have key : ∀ a, a < ls.length → gN ls a = gN ls' a := by
    intro a
    induction a using Nat.strongRecOn with
    | ind a ih =>
      intro ha
      by_cases h0 : a = 0
      · subst h0; rw [h.1, h'.1]
      · obtain ⟨⟨s, k1, k2, k3⟩, k4⟩ := h.2 a (by omega) ha
        obtain ⟨⟨s', z1, z2, z3⟩, z4⟩ := h'.2 a (by omega) (by omega)
        have e1 := ih s k1 (by omega)
        have e2 := ih s' z1 (by omega)
        have := k4 s' z1 z2
        have := z4 s k1 k2
        omega
  apply List.ext_getElem hl
  intro i h1 h2
  have := key i h1
  simpa [gN, List.getD, h1, h2] using this
end
end Lt
set_option maxRecDepth 100000
set_option maxHeartbeats 2000000
namespace Lt
set_option exponentiation.threshold 9000
open PySem (Str)
open L2 (Key)
open LawT
theorem big_ge : 1000000 ≤ BIG := by
  unfold BIG
  exact Nat.le_trans (show 1000000 ≤ 2 ^ 20 by decide) (nat_pow_mono (by decide))
def BegP (L : Nat → Nat → Prop) (ls : List Nat) (s a : Nat) : Prop := gN ls s + 1 = gN ls a ∧ L s a ∧ ∀ s', s' < s → ¬ (gN ls s' + 1 = gN ls a ∧ L s' a)
theorem BegP.uniq {L : Nat → Nat → Prop} {ls : List Nat} {s s' a : Nat} (h : BegP L ls s a) (h' : BegP L ls s' a) : s = s' := by
  rcases Nat.lt_trichotomy s s' with z | z | z
  · exact absurd ⟨h.1, h.2.1⟩ (h'.2.2 s z)
  · exact z
  · exact absurd ⟨h'.1, h'.2.1⟩ (h.2.2 s' z)
noncomputable def begF (L : Nat → Nat → Prop) (ls : List Nat) (a : Nat) : Nat := by
  classical
  exact if h : ∃ s, BegP L ls s a then h.choose else 0
theorem begF_eq {L : Nat → Nat → Prop} {ls : List Nat} {s a : Nat} (h : BegP L ls s a) : begF L ls a = s := by
  have h0 : ∃ s, BegP L ls s a := ⟨s, h⟩
  unfold begF
  rw [dif_pos h0]
  exact h0.choose_spec.uniq h
noncomputable def wk (L : Nat → Nat → Prop) (ls : List Nat) (a : Nat) : List (Nat × Nat) := if a = 0 then [] else if h : begF L ls a < a then (begF L ls a, a) :: wk L ls (begF L ls a) else []
termination_by a
theorem wk_zero {L : Nat → Nat → Prop} {ls : List Nat} : wk L ls 0 = [] := by rw [wk]; simp
theorem wk_step {L : Nat → Nat → Prop} {ls : List Nat} {s a : Nat} (h : BegP L ls s a) (hsa : s < a) : wk L ls a = (s, a) :: wk L ls s := by
  have e := begF_eq h
  rw [wk]
  rw [if_neg (by omega), dif_pos (by omega), e]
theorem wk_len {L : Nat → Nat → Prop} {ls : List Nat} : ∀ a, (wk L ls a).length ≤ a := by
  intro a
  induction a using Nat.strongRecOn with
  | ind a ih =>
    rw [wk]
    split
    · simp
    · split
      · rename_i h
        have := ih _ h
        simp; omega
      · simp
abbrev Pc := Smp × Smp
def pcD (p : Pc) : D := .tup [rD (p.1.1 : Rat), rD p.1.2, rD (p.2.1 : Rat), rD p.2.2]
def sA (ts : List Smp) (i : Nat) : Smp := ts.getD i zS
noncomputable def pcs (ts : List Smp) (tied : Bool) (L : Nat → Nat → Prop) (ls : List Nat) (a0 : Nat) : List Pc := if a0 = 0 then [(sA ts 0, sA ts 0)] else (wk L ls a0).reverse.map fun x => (sA ts x.1, sA ts (epT tied x.2))
def LP (ts : List Smp) (q : Rat) (tied : Bool) (s a : Nat) : Prop := LeadQ ts s (epT tied a) q
def cnt (tied : Bool) (n : Nat) : Nat := if tied = true then n else n + 1
noncomputable def labF (ts : List Smp) (q : Rat) (tied : Bool) : List Nat := by
  classical
  exact if h : ∃ ls, LabP (LP ts q tied) ls ∧ ls.length = cnt tied ts.length then h.choose else []
theorem labF_eq {ts : List Smp} {q : Rat} {tied : Bool} {ls : List Nat} (h : LabP (LP ts q tied) ls) (hl : ls.length = cnt tied ts.length) : labF ts q tied = ls := by
  have h0 : ∃ ls, LabP (LP ts q tied) ls ∧ ls.length = cnt tied ts.length := ⟨ls, h, hl⟩
  unfold labF
  rw [dif_pos h0]
  obtain ⟨a, b⟩ := h0.choose_spec
  exact a.uniq h (by omega)
noncomputable def pcF (ts : List Smp) (q : Rat) (tied : Bool) : List Pc := pcs ts tied (LP ts q tied) (labF ts q tied) ((labF ts q tied).length - 1)
noncomputable def barF (ts : List Smp) (q : Rat) (tied : Bool) : List T3 := barsL (labF ts q tied) (thr ts tied) (labF ts q tied).length
structure HTel (P : Prog) (F : Nat) : Prop extends HLab P F where
  bars : Has P "bars_by" 4 9 b_bars_by
  beg : Has P "begin_of" 5 6 b_begin_of
  rp : Has P "run_pieces" 5 8 b_run_pieces
  pb : Has P "piece_between" 2 2 b_piece_between
  told : Has P "told_by" 3 8 b_told_by
  runs : P.defs.lookup ("runs" : Str) = some a_runs
section
variable {P : Prog} {F k : Nat} {S : Store} {E : XP}
theorem piece_between_e (h : Has P "piece_between" 2 2 b_piece_between) {a c : Smp} : callN P F (k + 1) "piece_between" [smpD a, smpD c] S = .ok (pcD (a, c)) S := by
  apply has_eq h rfl
  simp only [b_piece_between]
  simp [wpx, wpo, wps, smp_seq, rD_int, pcD]
theorem begin_of_wp (h : HTel P F) {r n : Nat} {ts : List Smp} {kvs : List (List Key × D)} {ls : List Nat} {q : Rat} {a : Nat} {tied : Bool} (hr : getT S r = some kvs) (ht : TbP ts kvs) (hz : ∀ s ∈ ts, SmB s) (hl : ts.length ≤ 1000) (hq : Sz 1000 q) (hn : getL S n = some (ls.map nD)) (hll : ls.length = cnt tied ts.length) (hP : LabP (LP ts q tied) ls) (ha : 1 ≤ a) (hal : a < ls.length) :
    Wp (callN P F (k + 3) "begin_of" [.ref r, .ref n, .int a, rD q, .bl tied] S) E fun x S' => S' = S ∧ ∃ s : Nat, x = .int s ∧ s < a ∧ BegP (LP ts q tied) ls s a := by
  apply wp_has h.beg rfl
  simp only [b_begin_of]
  obtain ⟨⟨s0, p1, p2, p3⟩, _⟩ := hP.2 a ha hal
  have hlen : ls.length ≤ 1001 := by rw [hll]; unfold cnt; split <;> omega
  have hep : epT tied a < ts.length := by
    unfold epT
    unfold cnt at hll
    cases tied <;> simp at hll ⊢ <;> omega
  have hF := h.big
  have hB := big_ge
  have hle := hP.le
  simp [wpx, wpo, wps]
  refine wh_rule (fun e S2 => S2 = S ∧ ∃ s : Nat, e = [some (.ref r), some (.ref n), some (.int a), some (rD q), some (.bl tied), some (.int s)] ∧ s ≤ s0 ∧ ∀ s', s' < s → ¬ (gN ls s' + 1 = gN ls a ∧ LP ts q tied s' a)) (fun e _ => match e with
    | [_, _, _, _, _, some (.int i)] => s0 - i.toNat
    | _ => 0) ?_ F _ _ ⟨rfl, 0, rfl, by omega, fun s' hs => by omega⟩ (by simp; omega)
  rintro e S2 ⟨rfl, s, rfl, hs, hno⟩
  have hsl : s < ls.length := by omega
  have b1 := hle s hsl
  have b2 := hle a hal
  simp [wpx, wpo, wps, hn, nd_item hsl, nd_item hal, eqD_int]
  have next : ¬ (gN ls s + 1 = gN ls a ∧ LP ts q tied s a) → (∃ s1 : Nat, (s : Int) + 1 = s1 ∧ s1 ≤ s0 ∧ ∀ s' : Nat, s' < s1 → gN ls s' + 1 = gN ls a → ¬ LP ts q tied s' a) ∧ s0 - (s + 1) < s0 - s := fun hns => by
    have hs0 : s ≠ s0 := fun z => by subst z; exact hns ⟨p3.symm, p2⟩
    refine ⟨⟨s + 1, by omega, by omega, fun s' hs' e1 e2 => ?_⟩, by omega⟩
    by_cases e : s' = s
    · subst e; exact hns ⟨e1, e2⟩
    · exact hno s' (by omega) ⟨e1, e2⟩
  by_cases k1 : (gN ls s : Int) + 1 = (gN ls a : Int)
  · simp [wpx, wpo, wps, k1]
    refine (leads_wp (s := s) (at_ := a) (tied := tied) h.toHLab hr ht hz hl hq ha hep (by omega)).imp ?_
    rintro x S3 ⟨rfl, b, rfl, hb⟩
    cases b with
    | true =>
      simp [wpx, wpo, wps]
      exact ⟨s, rfl, by omega, by omega, hb.mp rfl, hno⟩
    | false =>
      simp [wpx, wpo, wps]
      exact next fun z => by
        have := hb.mpr z.2
        cases this
  · simp [wpx, wpo, wps, k1]
    exact next fun z => by
      have := z.1
      omega
theorem sA_item {ts : List Smp} {i : Nat} (h : i < ts.length) : itemR (some (ts.map smpD)) (i : Int) S = .ok (smpD (sA ts i)) S := smp_item (get_getD zS h)
def RpI (B : Store) (t r n : Nat) (q : Rat) (tied : Bool) (ts : List Smp) (L : Nat → Nat → Prop) (ls : List Nat) (a0 : Nat) (e : Env) (S : Store) : Prop := ∃ (a : Nat) (x7 : Option D) (w : List (Nat × Nat)), e = [some (.ref t), some (.ref r), some (.ref n), some (rD q), some (.bl tied), some (.ref B.length), some (.int a), x7] ∧ S = B ++ [.lst (w.map fun x => pcD (sA ts x.1, sA ts (epT tied x.2)))] ∧ a ≤ a0 ∧ w ++ wk L ls a = wk L ls a0
theorem run_pieces_wp (h : HTel P F) {t r n : Nat} {ts : List Smp} {kvs : List (List Key × D)} {ls : List Nat} {q : Rat} {tied : Bool} (hs : getL S t = some (ts.map smpD)) (hr : getT S r = some kvs) (ht : TbP ts kvs) (hz : ∀ s ∈ ts, SmB s) (hl : ts.length ≤ 1000) (hl1 : 1 ≤ ts.length) (hq : Sz 1000 q) (hn : getL S n = some (ls.map nD)) (hll : ls.length = cnt tied ts.length) (hP : LabP (LP ts q tied) ls) :
    Wp (callN P F (k + 4) "run_pieces" [.ref t, .ref r, .ref n, rD q, .bl tied] S) E fun x S' => IsG S S' x ((pcs ts tied (LP ts q tied) ls (ls.length - 1)).map pcD) := by
  apply wp_has h.rp rfl
  simp only [b_run_pieces]
  have hlen : ls.length ≤ 1001 := by rw [hll]; unfold cnt; split <;> omega
  have hlen1 : 1 ≤ ls.length := by rw [hll]; unfold cnt; split <;> omega
  have hF := h.big
  have hB := big_ge
  have e1 : (ls.length : Int) - 1 = ((ls.length - 1 : Nat) : Int) := by omega
  obtain ⟨a0, ha0⟩ : ∃ a0, a0 = ls.length - 1 := ⟨_, rfl⟩
  rw [← ha0] at e1 ⊢
  simp [wpx, wpo, wps, getL_app_l hn, e1, eqD_int]
  have s0 : itemR (some (ts.map smpD)) 0 (S ++ [.lst []]) = .ok (smpD (sA ts 0)) (S ++ [.lst []]) := smp_item (get_getD zS (show 0 < ts.length by omega))
  by_cases h0 : a0 = 0
  · subst h0
    have hlim : 0 < lim := by decide
    simp [wpx, wpo, wps, getL_app_l hs, s0, piece_between_e h.pb, hlim]
    refine wh_rule (fun e S2 => e = [some (.ref t), some (.ref r), some (.ref n), some (rD q), some (.bl tied), some (.ref S.length), some (.int 0), none] ∧ S2 = S ++ [.lst [pcD (sA ts 0, sA ts 0)]]) (fun _ _ => 0) ?_ F _ _ ⟨rfl, rfl⟩ (by omega)
    rintro e S2 ⟨rfl, rfl⟩
    have g2 : getL (S ++ [.lst [pcD (sA ts 0, sA ts 0)]]) S.length = some [pcD (sA ts 0, sA ts 0)] := by simp [getL]
    simp [wpx, wpo, wps, revR, g2, pcs]
    exact ⟨Ext.one, _, rfl, by omega, by rw [getL_app]; rfl⟩
  · have h00 : ¬ (a0 : Int) = 0 := by omega
    simp [wpx, wpo, wps, h0]
    refine wh_rule (RpI S t r n q tied ts (LP ts q tied) ls a0) (fun e _ => match e with
      | [_, _, _, _, _, _, some (.int i), _] => i.toNat
      | _ => 0) ?_ F _ _ ⟨a0, none, [], rfl, rfl, Nat.le_refl _, rfl⟩ (by simp; omega)
    rintro e S2 ⟨a, x7, w, rfl, rfl, haa, hw⟩
    have hn2 : getL (S ++ [.lst (w.map fun x => pcD (sA ts x.1, sA ts (epT tied x.2)))]) n = some (ls.map nD) := getL_app_l hn
    have hs2 : getL (S ++ [.lst (w.map fun x => pcD (sA ts x.1, sA ts (epT tied x.2)))]) t = some (ts.map smpD) := getL_app_l hs
    have hr2 : getT (S ++ [.lst (w.map fun x => pcD (sA ts x.1, sA ts (epT tied x.2)))]) r = some kvs := (Fr.of Ext.one : Fr [] _ _).getT hr (by simp)
    have g2 : getL (S ++ [.lst (w.map fun x => pcD (sA ts x.1, sA ts (epT tied x.2)))]) S.length = some (w.map fun x => pcD (sA ts x.1, sA ts (epT tied x.2))) := by simp [getL]
    by_cases hpos : 0 < a
    · have hposI : (0 : Int) < (a : Int) := by omega
      have hep : epT tied a < ts.length := by
        unfold epT
        unfold cnt at hll
        cases tied <;> simp at hll ⊢ <;> omega
      have hwl : w.length < lim := by
        have h1 := congrArg List.length hw
        have h2 := wk_len (L := LP ts q tied) (ls := ls) a0
        rw [List.length_append] at h1
        unfold lim; omega
      simp [wpx, wpo, wps, hpos]
      refine (begin_of_wp (a := a) (tied := tied) h hr2 ht hz hl hq hn2 hll hP hpos (by omega)).imp ?_
      rintro x S3 ⟨rfl, s, rfl, hsa, hb⟩
      have w1 : s < ts.length := by
        have : ls.length ≤ ts.length + 1 := by rw [hll]; unfold cnt; split <;> omega
        omega
      simp [wpx, wpo, wps, hs2, sA_item w1, sA_item hep, end_place_e h.endp hpos (show a < 1000000 by omega), piece_between_e h.pb, hwl]
      refine ⟨⟨s, _, w ++ [(s, a)], rfl, by simp, by omega, ?_⟩, hsa⟩
      rw [List.append_assoc, ← hw, wk_step hb hsa]
      rfl
    · have : a = 0 := by omega
      subst this
      rw [wk_zero, List.append_nil] at hw
      simp [wpx, wpo, wps, revR, g2]
      refine ⟨Ext.one, _, rfl, by omega, ?_⟩
      rw [getL_app]
      simp [getL, pcs, h0, ← hw]
theorem ext_e {r q : Nat} {xs ys : List D} (h1 : getL S r = some xs) (h2 : getL S q = some ys) (hl : xs.length + ys.length ≤ lim) : extend (.ref r) (.ref q) S = .ok .non (S.set r (.lst (xs ++ ys))) := by
  simp [extend, h1, h2, hl]
theorem pcs_len {ts : List Smp} {tied : Bool} {L : Nat → Nat → Prop} {ls : List Nat} {a0 : Nat} : (pcs ts tied L ls a0).length ≤ a0 + 1 := by
  unfold pcs
  split
  · simp
  · have := wk_len (L := L) (ls := ls) a0
    simp; omega
def papD (p : Nat × Nat) : D := .tup [.ref p.1, .ref p.2]
def PaP (S : Store) : List (Nat × Nat) → List (List Nat × List T3) → Prop
  | [], [] => True
  | p :: ps, r :: rs => (getL S p.1 = some (r.1.map nD) ∧ getL S p.2 = some (r.2.map thD)) ∧ PaP S ps rs
  | _, _ => False
theorem PaP.snoc {p : Nat × Nat} {r : List Nat × List T3} (h1 : getL S p.1 = some (r.1.map nD)) (h2 : getL S p.2 = some (r.2.map thD)) : ∀ {ps : List (Nat × Nat)} {rs : List (List Nat × List T3)}, PaP S ps rs → PaP S (ps ++ [p]) (rs ++ [r])
  | [], [], _ => ⟨⟨h1, h2⟩, trivial⟩
  | _ :: _, _ :: _, h => ⟨h.1, PaP.snoc h1 h2 h.2⟩
theorem PaP.len : ∀ {ps : List (Nat × Nat)} {rs : List (List Nat × List T3)}, PaP S ps rs → ps.length = rs.length
  | [], [], _ => rfl
  | _ :: _, _ :: _, h => by simp [PaP.len h.2]
theorem PaP.fr {S' : Store} {W : List Nat} (f : Fr W S S') : ∀ {ps : List (Nat × Nat)} {rs : List (List Nat × List T3)}, PaP S ps rs → (∀ p ∈ ps, p.1 ∉ W ∧ p.2 ∉ W) → PaP S' ps rs
  | [], [], _, _ => trivial
  | p :: ps, _ :: _, h, hn => ⟨⟨f.getL h.1.1 (hn p (by simp)).1, f.getL h.1.2 (hn p (by simp)).2⟩, PaP.fr f h.2 fun x hx => hn x (by simp [hx])⟩
/-- all the lists of a paper are apart -/
def refsP (ps : List (Nat × Nat)) : List Nat := ps.flatMap fun p => [p.1, p.2]
def Sep (ps : List (Nat × Nat)) : Prop := (refsP ps).Nodup
theorem PaP.lt : ∀ {ps : List (Nat × Nat)} {rs : List (List Nat × List T3)}, PaP S ps rs → ∀ x ∈ refsP ps, x < S.length
  | [], [], _, x, hx => by simp [refsP] at hx
  | p :: ps, _ :: _, h, x, hx => by
    have hx : x ∈ [p.1, p.2] ++ refsP ps := by simpa [refsP] using hx
    rcases List.mem_append.mp hx with z | z
    · simp at z
      rcases z with rfl | rfl
      · exact getL_lt h.1.1
      · exact getL_lt h.1.2
    · exact PaP.lt h.2 x z
theorem Sep.snoc {ps : List (Nat × Nat)} {p : Nat × Nat} {n : Nat} (h : Sep ps) (hl : ∀ x ∈ refsP ps, x < n) (h1 : n ≤ p.1) (h2 : p.1 < p.2) : Sep (ps ++ [p]) := by
  unfold Sep refsP at *
  rw [List.flatMap_append, List.nodup_append]
  refine ⟨h, by simp; omega, fun a ha b hb => ?_⟩
  have := hl a ha
  simp at hb
  omega
/-- what a run is like -/
structure RunP (ts : List Smp) : Prop where
  z : ∀ s ∈ ts, SmB s
  l : ts.length ≤ 100
  l1 : 1 ≤ ts.length
  up : ts.Pairwise fun a c => a.1 < c.1
/-- told by some way: pieces and paper -/
def ToldP (S S' : Store) (x : D) (te pa : Nat) (tl : List Pc) (pp : List (List Nat × List T3)) : Prop := Ext S S' ∧ x = .tup [.ref te, .ref pa] ∧ S.length ≤ te ∧ te < pa ∧ getL S' te = some (tl.map pcD) ∧ ∃ ps, getL S' pa = some (ps.map papD) ∧ PaP S' ps pp ∧ (∀ p ∈ ps, pa < p.1 ∧ pa < p.2) ∧ Sep ps
/-- the runs as lists -/
structure RnP (S : Store) (t : Nat) (qs : List Nat) (rss : List (List Smp)) : Prop where
  t : getL S t = some (qs.map .ref)
  q : LLD S qs (smps rss)
def ToI (B S1 : Store) (te pa : Nat) (r : Nat) (q : Rat) (tied : Bool) (rss : List (List Smp)) (i : Nat) (e : Env) (S2 : Store) : Prop := ∃ x5 x6 x7 ps, e = [some (.ref r), some (rD q), some (.bl tied), some (.ref te), some (.ref pa), x5, x6, x7] ∧ Fr [te, pa] S1 S2 ∧ getL S2 te = some (((rss.take i).flatMap fun ts => pcF ts q tied).map pcD) ∧ getL S2 pa = some (ps.map papD) ∧ PaP S2 ps ((rss.take i).map fun ts => (labF ts q tied, barF ts q tied)) ∧ (∀ p ∈ ps, pa < p.1 ∧ pa < p.2) ∧ ((rss.take i).flatMap fun ts => pcF ts q tied).length ≤ i * 110 ∧ Sep ps
theorem told_loop (h : HTel P F) {r : Nat} {q : Rat} {tied : Bool} {rss : List (List Smp)} {S1 : Store} {te pa t : Nat} {qs : List Nat} {x5 x6 x7 : Option D} {Z : Zs} {X : XP} (hte : te < pa) (hpa : pa < S1.length) (h1 : getL S1 te = some []) (h2 : getL S1 pa = some []) (hr : RnP S1 t qs rss) (hq : Sz 1000 q) (hrp : ∀ ts ∈ rss, RunP ts) (htn : pa < t) (hqn : ∀ p ∈ qs, pa < p) (hrl : rss.length ≤ 200)
    (hZ : ∀ e S2, ToI S S1 te pa r q tied rss rss.length e S2 → Z.nx e S2) (hX : Z.ex = fun c _ S => E c S) :
    Wp (optR (seqItr (.ref t) S1) S1) X fun j S2 => WpS (forGo (.name 5) j (exB (P.cx F (callN P F (k + 8))) [(.asg (.name 6) (.call "far_table" [(.var 5)])), (.asg (.name 7) (.call "labels_by" [(.var 6), (.call "places_of" [(.var 5), (.var 2)]), (.var 1), (.var 2)])), (.exp (.ext (.var 3) (.call "run_pieces" [(.var 5), (.var 6), (.var 7), (.var 1), (.var 2)]))), (.exp (.app (.var 4) (.tup [(.var 7), (.call "bars_by" [(.var 5), (.var 6), (.var 7), (.var 2)])])))]) j.n 0 [some (.ref r), some (rD q), some (.bl tied), some (.ref te), some (.ref pa), x5, x6, x7] S2) Z := by
  refine for_seq (xs := qs.map .ref) (ToI S S1 te pa r q tied rss) hr.t ⟨_, _, _, [], rfl, Fr.refl, by simpa using h1, by simpa using h2, trivial, fun p hp => (nomatch hp), by simp, by simp [Sep, refsP]⟩ ?_ ?_
  · rintro i y e S2 hy hi ⟨y5, y6, y7, ps, rfl, hf, g1, g2, hp, hfresh, htl, hsep⟩
    obtain ⟨c, hc, rfl⟩ := map_get hy
    refine ⟨hf.getL hr.t (by simp; omega), _, bind_name (by simp), ?_⟩
    obtain ⟨rd, hrd, hcd⟩ := hr.q.get hc
    unfold smps at hrd
    rw [List.getElem?_map, Option.map_eq_some_iff] at hrd
    obtain ⟨ts, hts, rfl⟩ := hrd
    have R := hrp ts (List.mem_of_getElem? hts)
    have hcm : pa < c := hqn c (List.mem_of_getElem? hc)
    have hs2 := hf.getL hcd (by simp; omega)
    have hlen2 := hf.1
    try simp [wpx, wpo, wps]
    refine (far_table_wp (k := k + 1) h.toHFar h.tab hs2 R.z R.l R.up).imp ?_
    rintro x S3 ⟨kvs, rfl, rfl, hT⟩
    have f3 : Fr [] S2 (S2 ++ [.dT kvs]) := Fr.of Ext.one
    have hs3 := f3.getL hs2 (by simp)
    have T3' := getT_new (S := S2) (kvs := kvs)
    have g13 := f3.getL g1 (by simp)
    have g23 := f3.getL g2 (by simp)
    have hp3 := hp.fr f3 (fun p _ => by simp)
    have pl := places_e (P := P) (F := F) (k := k + 7) (tied := tied) h.places hs3 (by have := R.l; simp; omega)
    simp only [List.length_map] at pl
    have hl1 := R.l1
    have hl100 := R.l
    have cl : (S2 ++ [Cell.dT kvs]).length = S2.length + 1 := by simp
    generalize S2 ++ [.dT kvs] = S3 at *
    generalize hc' : (if tied = true then ts.length else ts.length + 1) = cc at *
    simp [wpx, wpo, wps, pl]
    refine (labels_by_wp (k := k + 5) h.toHLab T3' hT R.z (by omega) hq (by rw [← hc']; split <;> omega) hc'.symm).imp ?_
    rintro x S4 ⟨ls, rfl, rfl, hll, hP⟩
    have hll2 : ls.length = cnt tied ts.length := by rw [hll, ← hc']; rfl
    have hlf := labF_eq hP hll2
    have f4 : Fr [] S3 (S3 ++ [.lst (ls.map nD)]) := Fr.of Ext.one
    have hs4 := f4.getL hs3 (by simp)
    have T4 := f4.getT T3' (by simp)
    have n4 : getL (S3 ++ [.lst (ls.map nD)]) S3.length = some (ls.map nD) := by simp [getL]
    have g14 := f4.getL g13 (by simp)
    have g24 := f4.getL g23 (by simp)
    have hp4 := hp3.fr f4 (fun p _ => by simp)
    have cl4 : (S3 ++ [Cell.lst (ls.map nD)]).length = S3.length + 1 := by simp
    generalize S3 ++ [.lst (ls.map nD)] = S4 at *
    simp [wpx, wpo, wps, g14]
    refine (run_pieces_wp (k := k + 4) h hs4 T4 hT R.z (by omega) hl1 hq n4 hll2 hP).imp ?_
    rintro x S5 ⟨h5, m, rfl, hml, hm⟩
    have l5 := h5.len
    have hs5 := h5.getL hs4
    have T5 := (Fr.of h5 : Fr [] _ _).getT T4 (by simp)
    have n5 := h5.getL n4
    have g15 := h5.getL g14
    have g25 := h5.getL g24
    have hp5 := hp4.fr (Fr.of h5 : Fr [] _ _) (fun p _ => by simp)
    have pcl := pcs_len (ts := ts) (tied := tied) (L := LP ts q tied) (ls := ls) (a0 := ls.length - 1)
    have hlc : ls.length ≤ 101 := by rw [hll2]; unfold cnt; split <;> omega
    have epc : pcs ts tied (LP ts q tied) ls (ls.length - 1) = pcF ts q tied := by unfold pcF; rw [hlf]
    have ebr : barsL ls (thr ts tied) ls.length = barF ts q tied := by unfold barF; rw [hlf]
    rw [epc] at hm pcl
    have tke : (rss.take (i + 1)) = rss.take i ++ [ts] := by rw [List.take_succ, hts]; rfl
    have hi200 : i < 200 := by
      have := (List.getElem?_eq_some_iff.mp hts).1
      omega
    have ex := ext_e (S := S5) g15 hm (by
      simp only [List.length_map]
      have : i * 110 ≤ 200 * 110 := Nat.mul_le_mul_right 110 (by omega)
      unfold lim; omega)
    have lt5 := getL_lt g15
    simp [wpx, wpo, wps, ex]
    have tene : te ≠ pa := by omega
    have ts6 : getL (S5.set te (.lst ((((rss.take i).flatMap fun ts => pcF ts q tied).map pcD) ++ (pcF ts q tied).map pcD))) te = some ((((rss.take (i + 1)).flatMap fun ts => pcF ts q tied).map pcD)) := by
      rw [getL_set lt5, tke]
      simp
    have f6 : Fr [te] S5 (S5.set te (.lst ((((rss.take i).flatMap fun ts => pcF ts q tied).map pcD) ++ (pcF ts q tied).map pcD))) := Fr.set (by simp)
    have nfr := getL_lt n4
    have hs6 := f6.getL hs5 (by simp; omega)
    have T6 := f6.getT T5 (by
      have := getT_lt T3'
      simp; omega)
    have n6 := f6.getL n5 (by simp; omega)
    have g26 := f6.getL g25 (by simp; omega)
    have hp6 := hp5.fr f6 (fun p hp' => by have := hfresh p hp'; simp; omega)
    have l6 : (S5.set te (.lst ((((rss.take i).flatMap fun ts => pcF ts q tied).map pcD) ++ (pcF ts q tied).map pcD))).length = S5.length := by simp
    simp only [List.map_flatMap] at ts6 f6 hs6 T6 n6 g26 hp6 l6 ⊢
    generalize S5.set te (.lst (((rss.take i).flatMap fun a => List.map pcD (pcF a q tied)) ++ (pcF ts q tied).map pcD)) = S6 at *
    simp [wpx, wpo, wps, g26]
    refine (bars_by_wp (k := k + 6) h.toHLab h.bars hs6 T6 hT n6 hl100 hll2 hP).imp ?_
    rintro x S7 ⟨h7, b, rfl, hbl, hb⟩
    have g27 := h7.getL g26
    have pll : ps.length < lim := by
      have := hp.len
      simp at this
      unfold lim; omega
    have lt7 := getL_lt g27
    have f8 : Fr [pa] S7 (S7.set pa (.lst (ps.map papD ++ [papD (S3.length, b)]))) := Fr.set (by simp)
    simp [wpx, wpo, wps, g27, pll]
    have n7 := h7.getL n6
    refine ⟨_, _, _, ps ++ [(S3.length, b)], rfl, ?_, ?_, ?_, ?_, ?_, ?_, hsep.snoc (n := S2.length) hp.lt (by simp only; omega) (by have := h5.len; simp only; omega)⟩
    · refine hf.trans ((f3.mono (by simp)).trans ((f4.mono (by simp)).trans ((Fr.of h5).trans ((f6.mono (by simp)).trans ((Fr.of h7).trans (f8.mono (by simp)))))))
    · rw [List.map_flatMap]; exact f8.getL (h7.getL ts6) (by simp; omega)
    · rw [getL_set lt7]; simp; rfl
    · rw [tke]
      simp only [List.map_append, List.map_cons, List.map_nil]
      refine PaP.snoc (f8.getL ?_ (by simp; omega)) (f8.getL ?_ (by simp; omega)) (hp6.fr ((Fr.of h7 : Fr [pa] _ _).trans f8) (fun p hp' => by have := hfresh p hp'; simp; omega))
      · rw [hlf]; exact n7
      · rw [← ebr]; exact hb
    · intro p hp'
      rcases List.mem_append.mp hp' with z | z
      · exact hfresh p z
      · rw [List.mem_singleton] at z; subst z
        have := h5.len
        simp only
        omega
    · rw [tke, List.flatMap_append, List.length_append, Nat.succ_mul]
      simp
      simp at htl
      omega
  · rintro e S2 hI
    have hl : qs.length = rss.length := by
      have := hr.q.len
      simpa [smps] using this
    have hI2 := hI
    obtain ⟨y5, y6, y7, ps, rfl, hf, _⟩ := hI2
    rw [List.length_map, hl] at hI
    exact ⟨hf.getL hr.t (by simp; omega), hZ _ _ hI⟩
def smE (e : Ent) : Smp := (e.1, e.2.getD 0)
def sruns (es : List Ent) : List (List Smp) := (runsF es).map fun r => r.map smE
theorem ent_smp {e : Ent} (h : e.2.isSome = true) : entD e = smpD (smE e) := by
  obtain ⟨m, v⟩ := e
  cases v with
  | none => cases h
  | some q => rfl
theorem fold_all : ∀ es : List Ent, (foldR es).1.flatten ++ (foldR es).2 = es.filter (fun e => e.2.isSome) ∧ ∀ r ∈ (foldR es).1, r ≠ [] := by
  have key : ∀ (es : List Ent) (s : List (List Ent) × List Ent), (es.foldl stepR s).1.flatten ++ (es.foldl stepR s).2 = s.1.flatten ++ s.2 ++ es.filter (fun e => e.2.isSome) ∧ ((∀ r ∈ s.1, r ≠ []) → ∀ r ∈ (es.foldl stepR s).1, r ≠ []) := by
    intro es
    induction es with
    | nil => intro s; simp
    | cons e es ih =>
      intro s
      obtain ⟨h1, h2⟩ := ih (stepR s e)
      rw [List.foldl_cons]
      refine ⟨?_, fun hs => h2 ?_⟩
      · rw [h1]
        unfold stepR
        by_cases hv : e.2.isSome = true
        · simp [hv]
        · by_cases hc : 0 < s.2.length
          · simp [hv, hc]
          · have : s.2 = [] := by cases h : s.2 with
              | nil => rfl
              | cons _ _ => rw [h] at hc; simp at hc
            simp [hv, this]
      · unfold stepR
        by_cases hv : e.2.isSome = true
        · simpa [hv] using hs
        · by_cases hc : 0 < s.2.length
          · simp only [hv, hc, if_true]
            intro r hr
            simp at hr
            rcases hr with z | z
            · exact hs r z
            · subst z
              intro w
              rw [w] at hc
              simp at hc
          · simpa [hv, hc] using hs
  intro es
  have := key es ([], [])
  exact ⟨by simpa [foldR] using this.1, by have := this.2 (fun r hr => (nomatch hr)); exact this⟩
theorem runs_all (es : List Ent) : (runsF es).flatten = es.filter (fun e => e.2.isSome) ∧ ∀ r ∈ runsF es, r ≠ [] := by
  obtain ⟨h1, h2⟩ := fold_all es
  unfold runsF closeR
  by_cases hc : 0 < (foldR es).2.length
  · rw [if_pos hc]
    refine ⟨by simpa using h1, fun r hr => ?_⟩
    simp at hr
    rcases hr with z | z
    · exact h2 r z
    · subst z
      intro w
      rw [w] at hc
      simp at hc
  · rw [if_neg hc]
    have : (foldR es).2 = [] := by cases h : (foldR es).2 with
      | nil => rfl
      | cons _ _ => rw [h] at hc; simp at hc
    rw [this] at h1
    exact ⟨by simpa using h1, h2⟩
theorem run_sub {es : List Ent} {r : List Ent} (h : r ∈ runsF es) : r.Sublist es ∧ (∀ e ∈ r, e.2.isSome = true) ∧ r ≠ [] := by
  obtain ⟨h1, h2⟩ := runs_all es
  have hs : r.Sublist (es.filter (fun e => e.2.isSome)) := by rw [← h1]; exact List.sublist_flatten_of_mem h
  refine ⟨hs.trans List.filter_sublist, fun e he => ?_, h2 r h⟩
  have := hs.subset he
  rw [List.mem_filter] at this
  exact this.2
theorem runs_len2 (es : List Ent) : (runsF es).length ≤ es.length + 1 := by
  have := fold_len es
  unfold runsF closeR
  split
  · simp; omega
  · omega
theorem runs_P {es : List Ent} (hup : es.Pairwise fun a c => a.1 < c.1) (hz : ∀ e ∈ es, ∀ q, e.2 = some q → SmB (e.1, q)) (hl : es.length ≤ 100) : ∀ ts ∈ sruns es, RunP ts := by
  intro ts hts
  unfold sruns at hts
  obtain ⟨r, hr, rfl⟩ := List.mem_map.mp hts
  obtain ⟨h1, h2, h3⟩ := run_sub hr
  refine ⟨fun s hs => ?_, by have := h1.length_le; simp; omega, ?_, ?_⟩
  · obtain ⟨e, he, rfl⟩ := List.mem_map.mp hs
    have := h2 e he
    obtain ⟨q, hq⟩ := Option.isSome_iff_exists.mp this
    have := hz e (h1.subset he) q hq
    unfold smE
    rw [hq]
    exact this
  · rw [List.length_map]
    cases r with
    | nil => exact absurd rfl h3
    | cons _ _ => simp
  · rw [List.pairwise_map]
    exact hup.sublist h1
theorem lls_lld {S : Store} : ∀ {qs : List Nat} {rs : List (List Ent)}, LLs S qs rs → (∀ r ∈ rs, ∀ e ∈ r, e.2.isSome = true) → LLD S qs (smps (rs.map fun r => r.map smE))
  | [], [], _, _ => trivial
  | q :: qs, r :: rs, h, hs => ⟨by
      rw [h.1]
      congr 1
      show r.map entD = (r.map smE).map smpD
      rw [List.map_map]
      exact List.map_congr_left fun e he => ent_smp (hs r (by simp) e he), lls_lld h.2 fun r' hr' => hs r' (by simp [hr'])⟩
noncomputable def telF (rss : List (List Smp)) (q : Rat) (tied : Bool) : List Pc := rss.flatMap fun ts => pcF ts q tied
noncomputable def papF (rss : List (List Smp)) (q : Rat) (tied : Bool) : List (List Nat × List T3) := rss.map fun ts => (labF ts q tied, barF ts q tied)
def ToldR (S S' : Store) (x : D) (tl : List Pc) (pp : List (List Nat × List T3)) : Prop := (∃ te pa, ToldP S S' x te pa tl pp) ∧ tl.length ≤ 12000
theorem told_by_wp (h : HTel P F) {r : Nat} {es : List Ent} {q : Rat} {tied : Bool} (hr : getL S r = some (es.map entD)) (hup : es.Pairwise fun a c => a.1 < c.1) (hz : ∀ e ∈ es, ∀ q, e.2 = some q → SmB (e.1, q)) (hl : es.length ≤ 100) (hq : Sz 1000 q) :
    Wp (callN P F (k + 9) "told_by" [.ref r, rD q, .bl tied] S) E fun x S' => ToldR S S' x (telF (sruns es) q tied) (papF (sruns es) q tied) := by
  apply wp_has h.told rfl
  simp only [b_told_by]
  simp [wpx, wpo, wps]
  have f0 : Fr [] S (S ++ [.lst [], .lst []]) := Fr.of Ext.one
  refine (runs_wp h.runs (getL_app_l hr) hl).imp ?_
  rintro x S1 ⟨hE, t, qs, rfl, htl, ht, hqs, hll⟩
  have hrl := runs_len2 es
  have hR : RnP S1 t qs (sruns es) := ⟨ht, lls_lld hll fun r hr => (run_sub hr).2.1⟩
  have hsl : (sruns es).length = (runsF es).length := by simp [sruns]
  have hlen : (S ++ [Cell.lst [], .lst []]).length = S.length + 2 := by simp
  have hl1 := hE.len
  have g1 : getL S1 S.length = some [] := hE.getL (by simp [getL])
  have g2 : getL S1 (S.length + 1) = some [] := hE.getL (by rw [getL_app]; rfl)
  refine told_loop (S := S) (rss := sruns es) (te := S.length) (pa := S.length + 1) h (by omega) (by omega) g1 g2 hR hq (runs_P hup hz hl) (by omega) (fun p hp => by have := (hqs p hp).1; omega) (by omega) ?_ rfl
  rintro e S2 ⟨x5, x6, x7, ps, rfl, hf, k1, k2, k3, k4, k5, k6⟩
  rw [List.take_of_length_le (Nat.le_refl _)] at k1 k3 k5
  simp [wpx, wpo, wps]
  have eS : Ext S S1 := Ext.one.trans hE
  refine ⟨⟨_, _, eS.fr hf (by simp), rfl, Nat.le_refl _, by omega, k1, ps, k2, k3, k4, k6⟩, ?_⟩
  unfold telF
  have : (sruns es).length * 110 ≤ 101 * 110 := Nat.mul_le_mul_right 110 (by omega)
  omega
end
end Lt
set_option maxRecDepth 100000
set_option maxHeartbeats 2000000
namespace Lt
set_option exponentiation.threshold 9000
open PySem (Str)
open L2 (Key)
open LawT
/-- the handed row's entries -/
theorem hd_up {b : Int} {n : Nat} {es : List EnN} (h : RowN n es) : (es.map (hdN b)).Pairwise fun a c => a.1 < c.1 := by
  rw [List.pairwise_map]
  exact h.1
theorem hd_B {b : Int} {es : List EnN} (h : RowN 130 es) (hb : 0 < b) (hb2 : b.natAbs < 2 ^ 90) : ∀ e ∈ es.map (hdN b), ∀ q, e.2 = some q → SmB (e.1, q) := by
  intro e he q hq
  obtain ⟨x, hx, rfl⟩ := List.mem_map.mp he
  obtain ⟨m, v⟩ := x
  cases v with
  | none => cases hq
  | some n =>
    have hh := h.2 _ hx
    have : q = Rat.divInt n b := by
      simp [hdN] at hq
      exact hq.symm
    subst this
    have h1 := hh.1
    have h2 := hh.2 n rfl
    exact smo_b (e := (m, n)) hb hb2 ⟨Nat.lt_of_lt_of_le h1 (nat_pow_mono (by decide)), Nat.lt_of_lt_of_le h2 (nat_pow_mono (by decide))⟩
theorem gap_ent (g : GapS) : gapD g = entD g := (entD_eq g).symm
end Lt
set_option maxRecDepth 100000
set_option maxHeartbeats 2000000
namespace Lt
set_option exponentiation.threshold 9000
open PySem (Str)
open L2 (Key)
open LawT
theorem leastW_ex {L : Nat → Nat → Prop} {ls : List Nat} {a : Nat} (ha : 1 ≤ a) (hl : L (a - 1) a) : ∀ i, i ≤ a → ∃ w, LeastW L ls a i w := by
  intro i
  induction i with
  | zero => intro _; exact ⟨gN ls (a - 1) + 1, ⟨a - 1, by omega, hl, rfl⟩, fun s hs _ => by
      have : s = a - 1 := by omega
      subst this; omega⟩
  | succ i ih =>
    intro hi
    obtain ⟨w, hw⟩ := ih (by omega)
    by_cases h : gN ls i + 1 < w ∧ L i a
    · refine ⟨gN ls i + 1, ⟨i, by omega, h.2, rfl⟩, fun s hs hL => ?_⟩
      by_cases e : s = i
      · subst e; omega
      · have := hw.2 s (by omega) hL; omega
    · refine ⟨w, hw.1, fun s hs hL => ?_⟩
      by_cases e : s = i
      · subst e
        have : ¬ gN ls s + 1 < w := fun z => h ⟨z, hL⟩
        omega
      · exact hw.2 s (by omega) hL
theorem lab_ex {L : Nat → Nat → Prop} (hl : ∀ a, L a (a + 1)) : ∀ c, ∃ ls, LabP L ls ∧ ls.length = c + 1
  | 0 => ⟨[0], ⟨rfl, fun a h1 h2 => by simp at h2; omega⟩, rfl⟩
  | c + 1 => by
    obtain ⟨ls, h, hc⟩ := lab_ex hl c
    have h1 : L (ls.length - 1) ls.length := by
      have := hl c
      rw [hc]
      exact this
    obtain ⟨w, hw⟩ := leastW_ex (ls := ls) (a := ls.length) (by omega) h1 (ls.length - 1) (by omega)
    exact ⟨ls ++ [w], h.snoc (by omega) hw, by simp; omega⟩
theorem LP_next {ts : List Smp} {q : Rat} {tied : Bool} (a : Nat) : LP ts q tied a (a + 1) := by
  intro k k1 k2
  unfold epT at k2
  split at k2 <;> omega
theorem labF_spec {ts : List Smp} {q : Rat} {tied : Bool} (h : 1 ≤ ts.length) : LabP (LP ts q tied) (labF ts q tied) ∧ (labF ts q tied).length = cnt tied ts.length := by
  have h1 : cnt tied ts.length = (cnt tied ts.length - 1) + 1 := by unfold cnt; split <;> omega
  obtain ⟨ls, a, b⟩ := lab_ex (L := LP ts q tied) LP_next (cnt tied ts.length - 1)
  have h0 : ∃ ls, LabP (LP ts q tied) ls ∧ ls.length = cnt tied ts.length := ⟨ls, a, by omega⟩
  unfold labF
  rw [dif_pos h0]
  exact h0.choose_spec
theorem least_ex {p : Nat → Prop} : ∀ n, p n → ∃ m, m ≤ n ∧ p m ∧ ∀ k, k < m → ¬ p k := by
  intro n
  induction n using Nat.strongRecOn with
  | ind n ih =>
    intro hn
    by_cases h : ∃ k, k < n ∧ p k
    · obtain ⟨k, hk, hpk⟩ := h
      obtain ⟨m, a, b, c⟩ := ih k hk hpk
      exact ⟨m, by omega, b, c⟩
    · exact ⟨n, Nat.le_refl _, hn, fun k hk hpk => h ⟨k, hk, hpk⟩⟩
theorem beg_ex {L : Nat → Nat → Prop} {ls : List Nat} (h : LabP L ls) {a : Nat} (h1 : 1 ≤ a) (h2 : a < ls.length) : ∃ s, s < a ∧ BegP L ls s a := by
  obtain ⟨⟨s0, p1, p2, p3⟩, _⟩ := h.2 a h1 h2
  obtain ⟨m, q1, q2, q3⟩ := least_ex (p := fun s => gN ls s + 1 = gN ls a ∧ L s a) s0 ⟨p3.symm, p2⟩
  exact ⟨m, by omega, q2.1, q2.2, q3⟩
theorem wk_count {L : Nat → Nat → Prop} {ls : List Nat} (h : LabP L ls) : ∀ a, a < ls.length → (wk L ls a).length = gN ls a := by
  intro a
  induction a using Nat.strongRecOn with
  | ind a ih =>
    intro ha
    by_cases h0 : a = 0
    · subst h0; rw [wk_zero, h.1]; rfl
    · obtain ⟨s, hs, hb⟩ := beg_ex h (by omega) ha
      rw [wk_step hb hs, List.length_cons, ih s hs (by omega)]
      exact hb.1
theorem pcF_count {ts : List Smp} {q : Rat} {tied : Bool} (h : 1 ≤ ts.length) : (pcF ts q tied).length = max (gN (labF ts q tied) ((labF ts q tied).length - 1)) 1 := by
  obtain ⟨h1, h2⟩ := labF_spec (q := q) (tied := tied) h
  have hpos : 1 ≤ (labF ts q tied).length := by rw [h2]; unfold cnt; split <;> omega
  unfold pcF pcs
  by_cases h0 : (labF ts q tied).length - 1 = 0
  · rw [if_pos h0, h0, h1.1]; rfl
  · rw [if_neg h0]
    have e := wk_count h1 ((labF ts q tied).length - 1) (by omega)
    obtain ⟨s, hs, hb⟩ := beg_ex h1 (show 1 ≤ (labF ts q tied).length - 1 by omega) (by omega)
    have := hb.1
    simp only [List.length_map, List.length_reverse, e]
    omega
end Lt
set_option maxRecDepth 100000
set_option maxHeartbeats 2000000
namespace Lt
open PySem (Str)
open LawT
def offQ (s l : Rat) (x : Smp) : Rat := x.2 - (s * (x.1 : Rat) + l)
theorem absQ_le {x y : Rat} : absQ x ≤ y ↔ x ≤ y ∧ -x ≤ y := by
  unfold absQ
  split
  · constructor
    · intro h; grind
    · intro h; exact h.2
  · constructor
    · intro h; grind
    · intro h; exact h.1
theorem absQ_nn (x : Rat) : 0 ≤ absQ x := by
  unfold absQ
  split <;> grind
theorem st_off {a b c : Smp} (h : a.1 < c.1) (s l : Rat) : stq a b c * ((c.1 : Rat) - (a.1 : Rat)) = offQ s l b * ((c.1 : Rat) - (a.1 : Rat)) - offQ s l a * ((c.1 : Rat) - (b.1 : Rat)) - offQ s l c * ((b.1 : Rat) - (a.1 : Rat)) := by
  have := stq_mul (b := b) h s
  unfold offQ; grind
theorem mul_lt3 {x y d : Rat} (hd : 0 < d) (h : x < y) : x * d < y * d := Rat.mul_lt_mul_of_pos_right h hd
theorem mul_le3 {x y d : Rat} (hd : 0 < d) (h : x ≤ y) : x * d ≤ y * d := by rw [mul_le_right hd]; exact h
/-- three places with one more in the stead of one -/
def exF (same : Bool) (p : Nat × Nat × Nat) (i : Nat) : Nat × Nat × Nat :=
  if i < p.1 then (if same = true then (i, p.2.1, p.2.2) else (i, p.1, p.2.1))
  else if i < p.2.1 then (if same = true then (i, p.2.1, p.2.2) else (p.1, i, p.2.2))
  else if i < p.2.2 then (if same = true then (p.1, p.2.1, i) else (p.1, i, p.2.2))
  else (if same = true then (p.1, p.2.1, i) else (p.2.1, p.2.2, i))
def Rise3 (n : Nat) (p : Nat × Nat × Nat) : Prop := p.1 < p.2.1 ∧ p.2.1 < p.2.2 ∧ p.2.2 < n
def st3 (ts : List Smp) (p : Nat × Nat × Nat) : Rat := stq (sA ts p.1) (sA ts p.2.1) (sA ts p.2.2)
end Lt
set_option maxRecDepth 100000
set_option maxHeartbeats 2000000
namespace Lt
set_option exponentiation.threshold 9000
open PySem (Str)
open LawT
structure LnB (s l : Rat) : Prop where
  s : Sz 800 s
  l : Sz 2400 l
section
variable {P : Prog} {F k : Nat} {S : Store} {E : XP}
/-- what is told of a best line -/
structure BestP (ts : List Smp) (s l w : Rat) (o : Option (Nat × Nat × Nat)) : Prop where
  ln : LnB s l
  wz : Sz 3600 w
  le : ∀ i, i < ts.length → absQ (offQ s l (sA ts i)) ≤ w
  w0 : 0 ≤ w
  on : o = none ↔ w = 0
  os : ∀ p, o = some p → Rise3 ts.length p ∧ ∃ e, absQ e = w ∧ offQ s l (sA ts p.1) = -e ∧ offQ s l (sA ts p.2.1) = e ∧ offQ s l (sA ts p.2.2) = -e
  one : ts.length = 1 → s = 0 ∧ l = (sA ts 0).2
end
end Lt
set_option maxRecDepth 100000
set_option maxHeartbeats 2000000
namespace Lt
open PySem (Str)
theorem stand_le {a b c : Smp} (h1 : a.1 < b.1) (h2 : b.1 < c.1) {s l w : Rat} (ha : absQ (offQ s l a) ≤ w) (hb : absQ (offQ s l b) ≤ w) (hc : absQ (offQ s l c) ≤ w) : absQ (stq a b c) ≤ 2 * w := by
  have hac : a.1 < c.1 := by omega
  have e := st_off (b := b) hac s l
  have d1 := cast_pos h1
  have d2 := cast_pos h2
  have d3 := cast_pos hac
  obtain ⟨a1, a2⟩ := absQ_le.mp ha
  obtain ⟨b1, b2⟩ := absQ_le.mp hb
  obtain ⟨c1, c2⟩ := absQ_le.mp hc
  have k1 := mul_le3 (d2) a1
  have k2 := mul_le3 (d2) a2
  have k3 := mul_le3 (d3) b1
  have k4 := mul_le3 (d3) b2
  have k5 := mul_le3 (d1) c1
  have k6 := mul_le3 (d1) c2
  rw [absQ_le]
  constructor
  · rw [← mul_le_right d3]; grind
  · rw [← mul_le_right d3]; grind
theorem lines_eq {s l s' l' : Rat} {a b : Smp} (h : a.1 < b.1) (ha : offQ s l a = offQ s' l' a) (hb : offQ s l b = offQ s' l' b) : s = s' ∧ l = l' := by
  have d := cast_pos h
  unfold offQ at ha hb
  have e : (s - s') * ((b.1 : Rat) - (a.1 : Rat)) = 0 := by grind
  have hs : s = s' := by
    rcases Rat.mul_eq_zero.mp e with z | z
    · grind
    · grind
  subst hs
  exact ⟨rfl, by grind⟩
/-- a stand that the misses just reach forces them -/
theorem forced_up {a b c : Smp} (h1 : a.1 < b.1) (h2 : b.1 < c.1) {s l w : Rat} (ha : absQ (offQ s l a) ≤ w) (hb : absQ (offQ s l b) ≤ w) (hc : absQ (offQ s l c) ≤ w) (h : 2 * w ≤ stq a b c) : offQ s l a = -w ∧ offQ s l b = w ∧ offQ s l c = -w := by
  have hac : a.1 < c.1 := by omega
  have e := st_off (b := b) hac s l
  have d1 := cast_pos h1
  have d2 := cast_pos h2
  have d3 := cast_pos hac
  have h3 := mul_le3 (d3) h
  obtain ⟨a1, a2⟩ := absQ_le.mp ha
  obtain ⟨b1, b2⟩ := absQ_le.mp hb
  obtain ⟨c1, c2⟩ := absQ_le.mp hc
  have k2 := mul_le3 (d2) a2
  have k3 := mul_le3 (d3) b1
  have k6 := mul_le3 (d1) c2
  refine ⟨?_, ?_, ?_⟩
  · apply Classical.byContradiction; intro z
    have z : -offQ s l a < w := by grind
    have := mul_lt3 d2 z; grind
  · apply Classical.byContradiction; intro z
    have z : offQ s l b < w := by grind
    have := mul_lt3 d3 z; grind
  · apply Classical.byContradiction; intro z
    have z : -offQ s l c < w := by grind
    have := mul_lt3 d1 z; grind
theorem forced_dn {a b c : Smp} (h1 : a.1 < b.1) (h2 : b.1 < c.1) {s l w : Rat} (ha : absQ (offQ s l a) ≤ w) (hb : absQ (offQ s l b) ≤ w) (hc : absQ (offQ s l c) ≤ w) (h : 2 * w ≤ -stq a b c) : offQ s l a = w ∧ offQ s l b = -w ∧ offQ s l c = w := by
  have hac : a.1 < c.1 := by omega
  have e := st_off (b := b) hac s l
  have d1 := cast_pos h1
  have d2 := cast_pos h2
  have d3 := cast_pos hac
  have h3 := mul_le3 (d3) h
  obtain ⟨a1, a2⟩ := absQ_le.mp ha
  obtain ⟨b1, b2⟩ := absQ_le.mp hb
  obtain ⟨c1, c2⟩ := absQ_le.mp hc
  have k2 := mul_le3 (d2) a1
  have k3 := mul_le3 (d3) b2
  have k6 := mul_le3 (d1) c1
  refine ⟨?_, ?_, ?_⟩
  · apply Classical.byContradiction; intro z
    have z : offQ s l a < w := by grind
    have := mul_lt3 d2 z; grind
  · apply Classical.byContradiction; intro z
    have z : -offQ s l b < w := by grind
    have := mul_lt3 d3 z; grind
  · apply Classical.byContradiction; intro z
    have z : offQ s l c < w := by grind
    have := mul_lt3 d1 z; grind
theorem up_lt {ts : List Smp} (hup : ts.Pairwise fun a c => a.1 < c.1) {i j : Nat} (hij : i < j) (hj : j < ts.length) : (sA ts i).1 < (sA ts j).1 := by
  have := List.pairwise_iff_getElem.mp hup i j (by omega) hj hij
  unfold sA
  simpa [List.getD, show i < ts.length by omega, hj] using this
/-- the forcing three has just that stand -/
theorem BestP.st_eq {ts : List Smp} {s l w : Rat} {o : Option (Nat × Nat × Nat)} (h : BestP ts s l w o) (hup : ts.Pairwise fun a c => a.1 < c.1) {p : Nat × Nat × Nat} (hp : o = some p) : Rise3 ts.length p ∧ absQ (st3 ts p) = 2 * w := by
  obtain ⟨hr, e, he, e1, e2, e3⟩ := h.os p hp
  obtain ⟨h1, h2, h3⟩ := hr
  have l1 := up_lt hup h1 (by omega)
  have l2 := up_lt hup h2 h3
  have lac : (sA ts p.1).1 < (sA ts p.2.2).1 := by omega
  have d3 := cast_pos lac
  have k := st_off (b := sA ts p.2.1) lac s l
  refine ⟨⟨h1, h2, h3⟩, ?_⟩
  have : st3 ts p = 2 * e := by
    unfold st3
    rw [e1, e2, e3] at k
    have z : (stq (sA ts p.1) (sA ts p.2.1) (sA ts p.2.2) - 2 * e) * (((sA ts p.2.2).1 : Rat) - ((sA ts p.1).1 : Rat)) = 0 := by grind
    rcases Rat.mul_eq_zero.mp z with z | z <;> grind
  rw [this, ← he]
  unfold absQ
  split <;> split <;> grind
/-- any line misses some by as much; by more where it is another -/
theorem BestP.least {ts : List Smp} {s l w : Rat} {o : Option (Nat × Nat × Nat)} (h : BestP ts s l w o) (hup : ts.Pairwise fun a c => a.1 < c.1) {s' l' w' : Rat} (h0 : 0 ≤ w') (h' : ∀ x ∈ ts, absQ (offQ s' l' x) ≤ w') : w ≤ w' ∧ (w' ≤ w → 2 ≤ ts.length → s' = s ∧ l' = l) := by
  have hA : ∀ i, i < ts.length → absQ (offQ s' l' (sA ts i)) ≤ w' := fun i hi => h' _ (getD_mem hi)
  by_cases hw : w = 0
  · refine ⟨by grind, fun hle h2 => ?_⟩
    have z : ∀ i, i < ts.length → offQ s' l' (sA ts i) = offQ s l (sA ts i) := fun i hi => by
      have k1 := absQ_le.mp (hA i hi)
      have k2 := absQ_le.mp (h.le i hi)
      grind
    exact lines_eq (up_lt hup (i := 0) (j := 1) (by omega) (by omega)) (z 0 (by omega)) (z 1 (by omega))
  · cases o with
    | none => exact absurd (h.on.mp rfl) hw
    | some p =>
      obtain ⟨⟨h1, h2, h3⟩, he⟩ := h.st_eq hup rfl
      have l1 := up_lt hup h1 (by omega)
      have l2 := up_lt hup h2 h3
      have k := stand_le l1 l2 (hA _ (by omega)) (hA _ (by omega)) (hA _ h3)
      have k' : absQ (st3 ts p) ≤ 2 * w' := k
      refine ⟨by grind, fun hle hn => ?_⟩
      have hww : w' = w := by grind
      subst hww
      have e1 : absQ (stq (sA ts p.1) (sA ts p.2.1) (sA ts p.2.2)) = 2 * w' := he
      have hcase : 2 * w' ≤ stq (sA ts p.1) (sA ts p.2.1) (sA ts p.2.2) ∨ 2 * w' ≤ -stq (sA ts p.1) (sA ts p.2.1) (sA ts p.2.2) := by
        unfold absQ at e1
        split at e1
        · right; grind
        · left; grind
      rcases hcase with z | z
      · obtain ⟨a1, a2, a3⟩ := forced_up l1 l2 (hA _ (by omega)) (hA _ (by omega)) (hA _ h3) z
        obtain ⟨b1, b2, b3⟩ := forced_up l1 l2 (h.le _ (by omega)) (h.le _ (by omega)) (h.le _ h3) z
        exact lines_eq l1 (by rw [a1, b1]) (by rw [a2, b2])
      · obtain ⟨a1, a2, a3⟩ := forced_dn l1 l2 (hA _ (by omega)) (hA _ (by omega)) (hA _ h3) z
        obtain ⟨b1, b2, b3⟩ := forced_dn l1 l2 (h.le _ (by omega)) (h.le _ (by omega)) (h.le _ h3) z
        exact lines_eq l1 (by rw [a1, b1]) (by rw [a2, b2])
theorem BestP.all {ts : List Smp} {s l w : Rat} {o : Option (Nat × Nat × Nat)} (h : BestP ts s l w o) : ∀ x ∈ ts, absQ (offQ s l x) ≤ w := fun x hx => by
  obtain ⟨i, hi, rfl⟩ := List.getElem_of_mem hx
  have := h.le i hi
  unfold sA at this
  simpa [List.getD, hi] using this
theorem BestP.uniq {ts : List Smp} {s l w s' l' w' : Rat} {o o' : Option (Nat × Nat × Nat)} (h : BestP ts s l w o) (h' : BestP ts s' l' w' o') (hup : ts.Pairwise fun a c => a.1 < c.1) (h1 : 1 ≤ ts.length) : s = s' ∧ l = l' ∧ w = w' := by
  obtain ⟨k1, k2⟩ := h.least hup h'.w0 h'.all
  obtain ⟨k3, k4⟩ := h'.least hup h.w0 h.all
  have hw : w = w' := by grind
  by_cases h2 : 2 ≤ ts.length
  · obtain ⟨e1, e2⟩ := k2 k3 h2
    exact ⟨e1.symm, e2.symm, hw⟩
  · have hl : ts.length = 1 := by omega
    obtain ⟨a1, a2⟩ := h.one hl
    obtain ⟨b1, b2⟩ := h'.one hl
    exact ⟨by rw [a1, b1], by rw [a2, b2], hw⟩
end Lt
set_option maxRecDepth 100000
set_option maxHeartbeats 2000000
namespace Lt
set_option exponentiation.threshold 9000
open PySem (Str)
open LawT
def htQ (s l : Rat) (m : Int) : Rat := s * (m : Rat) + l
section
variable {P : Prog} {F k : Nat} {S : Store} {E : XP}
def mo3 (ts : List Smp) (p : Nat × Nat × Nat) : T3 := ((sA ts p.1).1, (sA ts p.2.1).1, (sA ts p.2.2).1)
end
abbrev P4 := Rat × Rat × Rat × Rat
def p4D (p : P4) : D := .tup [rD p.1, rD p.2.1, rD p.2.2.1, rD p.2.2.2]
def alP (s l : Rat) (m m' : Int) : P4 := ((m : Rat), htQ s l m, (m' : Rat), htQ s l m')
def PieceP (part : List Smp) (p : P4) : Prop := ∃ s l w o, BestP part s l w o ∧ p = alP s l (sA part 0).1 (sA part (part.length - 1)).1
def ThreeP (ts : List Smp) (t : T3) : Prop := ∃ s l w p, BestP ts s l w (some p) ∧ t = mo3 ts p
def TelP : List (List Smp) → List P4 → Prop
  | [], [] => True
  | p :: ps, d :: ds => PieceP p d ∧ TelP ps ds
  | _, _ => False
theorem TelP.snoc {p : List Smp} {d : P4} (h : PieceP p d) : ∀ {ps : List (List Smp)} {ds : List P4}, TelP ps ds → TelP (ps ++ [p]) (ds ++ [d])
  | [], [], _ => ⟨h, trivial⟩
  | _ :: _, _ :: _, k => ⟨k.1, TelP.snoc h k.2⟩
theorem TelP.len : ∀ {ps : List (List Smp)} {ds : List P4}, TelP ps ds → ps.length = ds.length
  | [], [], _ => rfl
  | _ :: _, _ :: _, k => by simp [TelP.len k.2]
/-- one three for each two neighbours -/
def PapP : List (List Smp) → List T3 → Prop
  | [], [] => True
  | [_], [] => True
  | p :: p' :: r, t :: ts => ThreeP (p ++ [sA p' 0]) t ∧ PapP (p' :: r) ts
  | _, _ => False
theorem PapP.snoc {p p' : List Smp} {t : T3} (h : ThreeP (p ++ [sA p' 0]) t) : ∀ {ps : List (List Smp)} {ts : List T3}, PapP (ps ++ [p]) ts → PapP (ps ++ [p] ++ [p']) (ts ++ [t])
  | [], [], _ => ⟨h, trivial⟩
  | [q], ts, k => by
    cases ts with
    | nil => exact k.elim
    | cons u us => exact ⟨k.1, PapP.snoc (ps := []) h k.2⟩
  | q :: q' :: r, ts, k => by
    cases ts with
    | nil => exact k.elim
    | cons u us => exact ⟨k.1, PapP.snoc (ps := q' :: r) h k.2⟩
theorem PapP.len : ∀ {ps : List (List Smp)} {ds : List T3}, PapP ps ds → ds.length = ps.length - 1
  | [], [], _ => rfl
  | [_], [], _ => rfl
  | p :: p' :: r, t :: ts, k => by
    have := PapP.len k.2
    simp at this ⊢
    exact this
/-- what is told of one run -/
def RunT (sp : Rat) (ts : List Smp) (tel : List P4) (pap : List T3) : Prop := ∃ ps, AllP sp ts ps ∧ TelP ps tel ∧ PapP ps pap
def RowT (sp : Rat) : List (List Smp) → List P4 → List T3 → Prop
  | [], d, t => d = [] ∧ t = []
  | ts :: r, d, t => ∃ d1 d2 t1 t2, d = d1 ++ d2 ∧ t = t1 ++ t2 ∧ RunT sp ts d1 t1 ∧ RowT sp r d2 t2
theorem RowT.snoc {sp : Rat} {ts : List Smp} {d1 : List P4} {t1 : List T3} (h : RunT sp ts d1 t1) : ∀ {rs : List (List Smp)} {d : List P4} {t : List T3}, RowT sp rs d t → RowT sp (rs ++ [ts]) (d ++ d1) (t ++ t1)
  | [], d, t, k => by
    obtain ⟨rfl, rfl⟩ := k
    exact ⟨d1, [], t1, [], by simp, by simp, h, rfl, rfl⟩
  | x :: r, d, t, k => by
    obtain ⟨a, b, c, e, rfl, rfl, h1, h2⟩ := k
    exact ⟨a, b ++ d1, c, e ++ t1, by simp, by simp, h1, RowT.snoc h h2⟩
structure PtsP (sp : Rat) (ps : List (List Smp)) : Prop where
  z : ∀ s ∈ ps.flatten, SmB s
  l : ps.flatten.length ≤ 89
  ne : ∀ p ∈ ps, 1 ≤ p.length
  up : ps.flatten.Pairwise fun a c => a.1 < c.1
  sh : Shuts sp ps
section
variable {P : Prog} {F k : Nat} {S : Store} {E : XP}
theorem allp_pts {sp : Rat} {ts : List Smp} {ps : List (List Smp)} (h : AllP sp ts ps) (hz : ∀ s ∈ ts, SmB s) (hl : ts.length ≤ 89) (hup : ts.Pairwise fun a c => a.1 < c.1) : PtsP sp ps ∧ ps.length ≤ ts.length ∧ ps.flatten = ts := by
  rcases h with ⟨rfl, rfl⟩ | ⟨qs, cur, rfl, hp⟩
  · exact ⟨⟨fun s hs => (nomatch hs), by simp, fun p hp => (nomatch hp), List.Pairwise.nil, trivial⟩, by simp, rfl⟩
  · have hf : (qs ++ [cur]).flatten = ts := by
      rw [← hp.flat]; simp
    have hn := hp.ne
    refine ⟨⟨by rw [hf]; exact hz, by rw [hf]; exact hl, fun p h => ?_, by rw [hf]; exact hup, hp.shuts⟩, ?_, hf⟩
    · have : p ≠ [] := by
        rcases List.mem_append.mp h with z | z
        · exact hn.2 p z
        · rw [List.mem_singleton] at z; subst z; exact hn.1
      exact List.length_pos_iff.mpr this
    · have := parts_len hp
      simp; omega
end
end Lt
set_option maxRecDepth 100000
set_option maxHeartbeats 2000000
namespace Lt
open PySem (Str)
section
open Classical
noncomputable def stepQ (sp : Rat) (s : List (List Smp) × List Smp) (x : Smp) : List (List Smp) × List Smp := if Borne sp (s.2 ++ [x]) then (s.1, s.2 ++ [x]) else (s.1 ++ [s.2], [x])
noncomputable def foldQ (sp : Rat) (ts : List Smp) : List (List Smp) × List Smp := ts.foldl (stepQ sp) ([], [])
noncomputable def partsF (sp : Rat) (ts : List Smp) : List (List Smp) := if (foldQ sp ts).2 = [] then [] else (foldQ sp ts).1 ++ [(foldQ sp ts).2]
theorem foldQ_snoc (sp : Rat) (ts : List Smp) (x : Smp) : foldQ sp (ts ++ [x]) = stepQ sp (foldQ sp ts) x := by
  unfold foldQ; rw [List.foldl_append]; rfl
theorem parts_fold {sp : Rat} {ts : List Smp} {ps : List (List Smp)} {cur : List Smp} (h : Parts sp ts ps cur) : foldQ sp ts = (ps, cur) := by
  induction h with
  | start =>
    unfold foldQ stepQ
    simp [borne_one]
  | more h hb ih =>
    rw [foldQ_snoc, ih]
    unfold stepQ
    rw [if_pos hb]
  | next h hb ih =>
    rw [foldQ_snoc, ih]
    unfold stepQ
    rw [if_neg hb]
theorem allp_eq {sp : Rat} {ts : List Smp} {ps : List (List Smp)} (h : AllP sp ts ps) : ps = partsF sp ts := by
  rcases h with ⟨rfl, rfl⟩ | ⟨qs, cur, rfl, hp⟩
  · rfl
  · unfold partsF
    rw [parts_fold hp, if_neg hp.ne.1]
theorem fold_parts {sp : Rat} (ts : List Smp) (x : Smp) : Parts sp (ts ++ [x]) (foldQ sp (ts ++ [x])).1 (foldQ sp (ts ++ [x])).2 := by
  have key : ∀ n, ∀ ts : List Smp, ts.length = n → ∀ x, Parts sp (ts ++ [x]) (foldQ sp (ts ++ [x])).1 (foldQ sp (ts ++ [x])).2 := by
    intro n
    induction n with
    | zero =>
      intro ts h x
      have : ts = [] := List.length_eq_zero_iff.mp h
      subst this
      have : foldQ sp ([] ++ [x]) = ([], [x]) := by
        unfold foldQ stepQ
        simp [borne_one]
      rw [this]
      exact .start
    | succ n ih =>
      intro ts h x
      have hne : ts ≠ [] := fun z => by rw [z] at h; simp at h
      have e := List.dropLast_concat_getLast hne
      have hp := ih ts.dropLast (by simp; omega) (ts.getLast hne)
      rw [e] at hp
      rw [foldQ_snoc]
      generalize foldQ sp ts = s at *
      unfold stepQ
      by_cases hb : Borne sp (s.2 ++ [x])
      · rw [if_pos hb]; exact .more hp hb
      · rw [if_neg hb]; exact .next hp hb
  exact key _ ts rfl x
theorem allp_partsF {sp : Rat} (ts : List Smp) : AllP sp ts (partsF sp ts) := by
  by_cases h : ts = []
  · subst h; exact .inl ⟨rfl, rfl⟩
  · right
    have e := List.dropLast_concat_getLast h
    have hp := fold_parts (sp := sp) ts.dropLast (ts.getLast h)
    rw [e] at hp
    refine ⟨_, _, ?_, hp⟩
    unfold partsF
    rw [if_neg hp.ne.1]
end
/-- how many stretches -/
noncomputable def gP (sp : Rat) (ts : List Smp) : Nat := (partsF sp ts).length
theorem gP_nil {sp : Rat} : gP sp [] = 0 := rfl
/-- some samples between two places -/
def seg {α : Type} (ts : List α) (f u : Nat) : List α := (ts.take u).drop f
theorem borne_sub {sp : Rat} {ts us : List Smp} (h : Borne sp ts) (hs : ∀ x ∈ us, x ∈ ts) : Borne sp us :=
  fun a ha b hb c hc d hd => h a (hs a ha) b (hs b hb) c (hs c hc) d (hs d hd)
theorem seg_sub {α : Type} {ts : List α} {f u f' u' : Nat} (h1 : f ≤ f') (h2 : u' ≤ u) : ∀ x ∈ seg ts f' u', x ∈ seg ts f u := by
  intro x hx
  unfold seg at *
  obtain ⟨i, hi, e⟩ := List.getElem_of_mem hx
  rw [List.getElem_drop, List.getElem_take] at e
  simp at hi
  rw [List.mem_iff_getElem]
  refine ⟨f' + i - f, by simp; omega, ?_⟩
  rw [List.getElem_drop, List.getElem_take, ← e]
  congr 1
  omega
theorem borne_seg {sp : Rat} {ts : List Smp} {f u f' u' : Nat} (h : Borne sp (seg ts f u)) (h1 : f ≤ f') (h2 : u' ≤ u) : Borne sp (seg ts f' u') := borne_sub h (seg_sub h1 h2)
/-- the greedy walk: where the last stretch begins and how many there are -/
structure GrW (sp : Rat) (ts : List Smp) (u st : Nat) : Prop where
  lt : st < u
  good : Borne sp (seg ts st u)
  cnt : gP sp (ts.take st) + 1 = gP sp (ts.take u)
  same : ∀ f, st < f → f ≤ u → gP sp (ts.take f) = gP sp (ts.take u)
  least : ∀ f, f < u → Borne sp (seg ts f u) → gP sp (ts.take u) ≤ gP sp (ts.take f) + 1
  cur : (foldQ sp (ts.take u)).2 = seg ts st u
  len : (foldQ sp (ts.take u)).1.length + 1 = gP sp (ts.take u)
theorem gP_snoc {sp : Rat} {ts : List Smp} {x : Smp} : gP sp (ts ++ [x]) = (foldQ sp (ts ++ [x])).1.length + 1 := by
  have hp := fold_parts (sp := sp) ts x
  unfold gP partsF
  rw [if_neg hp.ne.1]
  simp
theorem seg_snoc {ts : List Smp} {f u : Nat} {x : Smp} (h : ts[u]? = some x) (hf : f ≤ u) : seg ts f (u + 1) = seg ts f u ++ [x] := by
  unfold seg
  rw [List.take_succ, h, Option.toList, List.drop_append_of_le_length]
  have := (List.getElem?_eq_some_iff.mp h).1
  simp; omega
theorem grw {sp : Rat} {ts : List Smp} : ∀ u, 1 ≤ u → u ≤ ts.length → ∃ st, GrW sp ts u st
  | 0, h, _ => by omega
  | 1, _, h => by
    have hx : ts[0]? = some ts[0] := by simp [show 0 < ts.length by omega]
    have et : ts.take 1 = [] ++ [ts[0]] := by rw [List.take_succ, hx]; rfl
    have e : foldQ sp (ts.take 1) = ([], [ts[0]]) := by
      rw [et]
      unfold foldQ stepQ
      simp [borne_one]
    have es : seg ts 0 1 = [ts[0]] := by unfold seg; rw [List.drop_zero, et]; rfl
    have g1 : gP sp (ts.take 1) = 1 := by
      rw [et, gP_snoc, ← et, e]; rfl
    refine ⟨0, by omega, by rw [es]; exact borne_one, by rw [g1]; rfl, fun f h1 h2 => ?_, fun f h1 _ => ?_, by rw [e, es], by rw [e, g1]; rfl⟩
    · have : f = 1 := by omega
      subst this; rfl
    · have : f = 0 := by omega
      subst this
      rw [g1]; simp [gP_nil]
  | u + 2, _, h => by
    obtain ⟨st, W⟩ := grw (sp := sp) (ts := ts) (u + 1) (by omega) (by omega)
    have hx : ts[u + 1]? = some ts[u + 1] := by simp [show u + 1 < ts.length by omega]
    have et : ts.take (u + 2) = ts.take (u + 1) ++ [ts[u + 1]] := by rw [List.take_succ, hx]; rfl
    have ef : foldQ sp (ts.take (u + 2)) = stepQ sp (foldQ sp (ts.take (u + 1))) ts[u + 1] := by rw [et, foldQ_snoc]
    have eg : gP sp (ts.take (u + 2)) = (foldQ sp (ts.take (u + 2))).1.length + 1 := by rw [et, gP_snoc]
    have es := seg_snoc (f := st) hx (by have := W.lt; omega)
    have W1 := W.lt
    have ec : (foldQ sp (ts.take (u + 1))).2 ++ [ts[u + 1]] = seg ts st (u + 2) := by rw [W.cur]; exact es.symm
    unfold stepQ at ef
    by_cases hb : Borne sp (seg ts st (u + 2))
    · rw [ec, if_pos hb] at ef
      have g2 : gP sp (ts.take (u + 2)) = gP sp (ts.take (u + 1)) := by rw [eg, ef]; exact W.len
      refine ⟨st, by omega, hb, by rw [g2]; exact W.cnt, fun f h1 h2 => ?_, fun f h1 h2 => ?_, by rw [ef], by rw [eg]⟩
      · rw [g2]
        by_cases hf : f = u + 2
        · subst hf; exact g2
        · exact W.same f h1 (by omega)
      · rw [g2]
        by_cases hf : f = u + 1
        · subst hf; omega
        · exact W.least f (by omega) (borne_seg h2 (Nat.le_refl _) (by omega))
    · rw [ec, if_neg hb] at ef
      have g2 : gP sp (ts.take (u + 2)) = gP sp (ts.take (u + 1)) + 1 := by
        rw [eg, ef]
        have := W.len
        simp; omega
      have es1 : seg ts (u + 1) (u + 2) = [ts[u + 1]] := by
        rw [seg_snoc hx (Nat.le_refl _)]
        unfold seg
        simp
      refine ⟨u + 1, by omega, by rw [es1]; exact borne_one, by rw [g2], fun f h1 h2 => ?_, fun f h1 h2 => ?_, by rw [ef, es1], by rw [eg]⟩
      · have : f = u + 2 := by omega
        subst this; rfl
      · have hf : st < f := by
          apply Classical.byContradiction
          intro z
          exact hb (borne_seg h2 (by omega) (Nat.le_refl _))
        rw [g2, W.same f hf (by omega)]
        exact Nat.le_refl _
end Lt
set_option maxRecDepth 100000
set_option maxHeartbeats 2000000
namespace Lt
set_option exponentiation.threshold 9000
open PySem (Str)
open LawT
end Lt
set_option maxRecDepth 100000
set_option maxHeartbeats 2000000
namespace Lt
set_option exponentiation.threshold 9000
open PySem (Str)
open LawT
/-- the greatest miss -/
structure WorP (ts : List Smp) (s l w : Rat) : Prop where
  le : ∀ x ∈ ts, absQ (offQ s l x) ≤ w
  at_ : w = 0 ∨ ∃ x ∈ ts, w = absQ (offQ s l x)
  nn : 0 ≤ w
theorem WorP.snoc {ts : List Smp} {s l w : Rat} {x : Smp} (h : WorP ts s l w) : WorP (ts ++ [x]) s l (if w < absQ (offQ s l x) then absQ (offQ s l x) else w) := by
  by_cases k : w < absQ (offQ s l x)
  · rw [if_pos k]
    refine ⟨fun y hy => ?_, .inr ⟨x, by simp, rfl⟩, absQ_nn _⟩
    rcases List.mem_append.mp hy with z | z
    · have := h.le y z; grind
    · rw [List.mem_singleton] at z; subst z; exact Rat.le_refl
  · rw [if_neg k]
    refine ⟨fun y hy => ?_, ?_, h.nn⟩
    · rcases List.mem_append.mp hy with z | z
      · exact h.le y z
      · rw [List.mem_singleton] at z; subst z; exact Rat.not_lt.mp k
    · rcases h.at_ with z | ⟨y, hy, z⟩
      · exact .inl z
      · exact .inr ⟨y, by simp [hy], z⟩
end Lt
set_option maxRecDepth 100000
set_option maxHeartbeats 2000000
namespace Lt
set_option exponentiation.threshold 9000
open PySem (Str)
open LawT
end Lt
set_option maxRecDepth 100000
set_option maxHeartbeats 2000000
namespace Lt
set_option exponentiation.threshold 9000
open PySem (Str)
open LawT
structure GrM (f : Nat × Nat × Nat → Rat) (d : Nat × Nat × Nat → Prop) (q : Int × Int) : Prop where
  pos : 0 < q.2
  le : ∀ p, d p → f p ≤ frV q
  at_ : q = (0, 1) ∨ ∃ p, d p ∧ frV q = f p
  z1 : q.1.natAbs < 2 ^ 300
  z2 : q.2.natAbs < 2 ^ 300
theorem GrM.iff {f : Nat × Nat × Nat → Rat} {d d' : Nat × Nat × Nat → Prop} {q : Int × Int} (h : GrM f d q) (e : ∀ p, d' p ↔ d p) : GrM f d' q :=
  ⟨h.pos, fun p hp => h.le p ((e p).mp hp), by
    rcases h.at_ with z | ⟨p, hp, z⟩
    · exact .inl z
    · exact .inr ⟨p, (e p).mpr hp, z⟩, h.z1, h.z2⟩
theorem GrM.step {f : Nat × Nat × Nat → Rat} {d d' : Nat × Nat × Nat → Prop} {q q' : Int × Int} {p0 : Nat × Nat × Nat} (h : GrM f d q) (hq : 0 < q'.2) (hf : frV q' = f p0) (y1 : q'.1.natAbs < 2 ^ 300) (y2 : q'.2.natAbs < 2 ^ 300) (e : ∀ p, d' p ↔ d p ∨ p = p0) :
    GrM f d' (if frV q < frV q' then q' else q) := by
  by_cases k : frV q < frV q'
  · rw [if_pos k]
    refine ⟨hq, fun p hp => ?_, .inr ⟨p0, (e p0).mpr (.inr rfl), hf⟩, y1, y2⟩
    rcases (e p).mp hp with z | z
    · have := h.le p z; grind
    · subst z; rw [hf]; exact Rat.le_refl
  · rw [if_neg k]
    refine ⟨h.pos, fun p hp => ?_, ?_, h.z1, h.z2⟩
    · rcases (e p).mp hp with z | z
      · exact h.le p z
      · subst z; rw [← hf]; exact Rat.not_lt.mp k
    · rcases h.at_ with z | ⟨p, hp, z⟩
      · exact .inl z
      · exact .inr ⟨p, (e p).mpr (.inl hp), z⟩
theorem TelP.app : ∀ {ps : List (List Smp)} {ds : List P4} {ps' : List (List Smp)} {ds' : List P4}, TelP ps ds → TelP ps' ds' → TelP (ps ++ ps') (ds ++ ds')
  | [], [], _, _, _, h => h
  | _ :: _, _ :: _, _, _, h, h' => ⟨h.1, TelP.app h.2 h'⟩
theorem TelP.at : ∀ {ps : List (List Smp)} {ds : List P4} {i : Nat} {p : List Smp}, TelP ps ds → ps[i]? = some p → ∃ d, ds[i]? = some d ∧ PieceP p d
  | [], [], i, p, _, h => by simp at h
  | a :: ps, d :: ds, 0, p, h, hp => by
    simp at hp; subst hp
    exact ⟨d, rfl, h.1⟩
  | a :: ps, d :: ds, i + 1, p, h, hp => by
    have hp : ps[i]? = some p := by simpa using hp
    obtain ⟨e, he, h'⟩ := TelP.at h.2 hp
    exact ⟨e, by simpa using he, h'⟩
theorem rowT_tel {sp : Rat} : ∀ {rss : List (List Smp)} {tel : List P4} {pap : List T3}, RowT sp rss tel pap → TelP (rss.flatMap (partsF sp)) tel
  | [], d, t, h => by
    obtain ⟨rfl, rfl⟩ := h
    trivial
  | ts :: r, d, t, h => by
    obtain ⟨d1, d2, t1, t2, rfl, rfl, ⟨ps, hA, hT, hP⟩, h2⟩ := h
    rw [List.flatMap_cons, ← allp_eq hA]
    exact TelP.app hT (rowT_tel h2)
theorem rowT_len {sp : Rat} {rss : List (List Smp)} {d : List P4} {t : List T3} (h : RowT sp rss d t) : d.length = (rss.map (gP sp)).sum := by
  have := (rowT_tel h).len
  rw [← this]
  clear this h
  induction rss with
  | nil => rfl
  | cons a r ih => rw [List.flatMap_cons, List.length_append, ih]; simp [gP]
end Lt
set_option maxRecDepth 100000
set_option maxHeartbeats 2000000
namespace Lt
abbrev Seq := Nat → Smp
theorem le_of_mul {x y d : Rat} (hd : 0 < d) (h : x * d ≤ y * d) : x ≤ y := Rat.not_lt.mp fun z => by
  have := mul_pos_lt hd z
  grind
/-- rising moments -/
def Inc (t : Seq) (n : Nat) : Prop := ∀ i j, i < j → j < n → (t i).1 < (t j).1
def mir (s : Smp) : Smp := (s.1, -s.2)
def mirT (t : Seq) : Seq := fun i => mir (t i)
/-- the slope from a high end to a low end -/
def slL (b : Rat) (t : Seq) (q p : Nat) : Rat := ((t p).2 - b - ((t q).2 + b)) / (((t p).1 : Rat) - ((t q).1 : Rat))
def slH (b : Rat) (t : Seq) (q p : Nat) : Rat := ((t p).2 + b - ((t q).2 - b)) / (((t p).1 : Rat) - ((t q).1 : Rat))
def evL (l : Rat × Rat) (x : Int) : Rat := l.1 * (x : Rat) + l.2
/-- the line through a high end and a low end behind it -/
def lnL (b : Rat) (t : Seq) (qp : Nat × Nat) : Rat × Rat := (slL b t qp.1 qp.2, (t qp.2).2 - b - slL b t qp.1 qp.2 * ((t qp.2).1 : Rat))
def lnH (b : Rat) (t : Seq) (qp : Nat × Nat) : Rat × Rat := (slH b t qp.1 qp.2, (t qp.2).2 + b - slH b t qp.1 qp.2 * ((t qp.2).1 : Rat))
def upF (b : Rat) (t : Seq) (o : Option (Nat × Nat)) (qp : Nat × Nat) : Option (Nat × Nat) := match o with
  | none => some qp
  | some x => if slL b t x.1 x.2 ≤ slL b t qp.1 qp.2 then some qp else some x
def inL (b : Rat) (t : Seq) (r p : Nat) (o : Option (Nat × Nat)) : Nat → Option (Nat × Nat)
  | 0 => o
  | n + 1 => if r ≤ n then upF b t (inL b t r p o n) (n, p) else inL b t r p o n
/-- the pair that holds a link from below -/
def loF (b : Rat) (t : Seq) (f r : Nat) : Nat → Option (Nat × Nat)
  | 0 => none
  | k + 1 => if f ≤ k then inL b t r k (loF b t f r k) k else loF b t f r k
def hiF (b : Rat) (t : Seq) (f r k : Nat) : Option (Nat × Nat) := loF b (mirT t) r f k
/-- does the link end at a sample: in a cap, in a cup -/
def capP (b : Rat) (t : Seq) (f r k : Nat) : Option (Nat × Nat) := match loF b t f r k with
  | none => none
  | some x => if (t k).2 + b < evL (lnL b t x) (t k).1 then some x else none
def cupP (b : Rat) (t : Seq) (f r k : Nat) : Option (Nat × Nat) := capP b (mirT t) r f k
/-- from which samples on the link is held, below and above -/
def stF (b : Rat) (t : Seq) : Nat → Nat × Nat
  | 0 => (0, 0)
  | k + 1 => match capP b t (stF b t k).1 (stF b t k).2 k with
    | some x => (x.2, k)
    | none => match cupP b t (stF b t k).1 (stF b t k).2 k with
      | some x => (k, x.2)
      | none => stF b t k
section
variable {b : Rat} {t : Seq} {f r k n : Nat}
theorem mir_mir (t : Seq) : mirT (mirT t) = t := by
  funext i; simp [mirT, mir]
theorem mirT_1 (i : Nat) : (mirT t i).1 = (t i).1 := rfl
theorem mirT_2 (i : Nat) : (mirT t i).2 = -(t i).2 := rfl
theorem Inc.mir (h : Inc t n) : Inc (mirT t) n := h
theorem Inc.pos (h : Inc t n) {i j : Nat} (hij : i < j) (hj : j < n) : (0 : Rat) < ((t j).1 : Rat) - ((t i).1 : Rat) := cast_pos (h i j hij hj)
theorem Inc.mono (h : Inc t n) {m : Nat} (hm : m ≤ n) : Inc t m := fun i j a c => h i j a (by omega)
theorem Inc.le_iff (h : Inc t n) {i j : Nat} (hi : i < n) (hj : j < n) : (t i).1 ≤ (t j).1 ↔ i ≤ j := by
  constructor
  · intro z
    by_cases c : j < i
    · have := h j i c hi; omega
    · omega
  · intro z
    by_cases c : i = j
    · subst c; omega
    · have := h i j (by omega) hj; omega
theorem sl_neg {a d : Rat} : (-a) / d = -(a / d) := by grind
theorem slL_mir {q p : Nat} : slL b (mirT t) q p = -slH b t q p := by
  unfold slL slH mirT mir
  simp only
  rw [← sl_neg]
  congr 1
  grind
theorem slH_mir {q p : Nat} : slH b (mirT t) q p = -slL b t q p := by
  have := slL_mir (b := b) (t := mirT t) (q := q) (p := p)
  rw [mir_mir] at this
  grind
theorem slL_m (h : Inc t n) {q p : Nat} (hq : q < p) (hp : p < n) : slL b t q p * (((t p).1 : Rat) - ((t q).1 : Rat)) = (t p).2 - b - ((t q).2 + b) := by
  have := h.pos hq hp
  unfold slL; grind
theorem slH_m (h : Inc t n) {q p : Nat} (hq : q < p) (hp : p < n) : slH b t q p * (((t p).1 : Rat) - ((t q).1 : Rat)) = (t p).2 + b - ((t q).2 - b) := by
  have := h.pos hq hp
  unfold slH; grind
/-- the greatest of the pairs -/
def LoS (b : Rat) (t : Seq) (f r k : Nat) (o : Option (Nat × Nat)) : Prop := match o with
  | none => ∀ q p, r ≤ q → q < p → f ≤ p → p < k → False
  | some x => r ≤ x.1 ∧ x.1 < x.2 ∧ f ≤ x.2 ∧ x.2 < k ∧ ∀ q p, r ≤ q → q < p → f ≤ p → p < k → slL b t q p ≤ slL b t x.1 x.2
def LoS2 (b : Rat) (t : Seq) (f r k m : Nat) (o : Option (Nat × Nat)) : Prop := match o with
  | none => ∀ q p, r ≤ q → q < p → f ≤ p → (p < k ∨ p = k ∧ q < m) → False
  | some x => r ≤ x.1 ∧ x.1 < x.2 ∧ f ≤ x.2 ∧ (x.2 < k ∨ x.2 = k ∧ x.1 < m) ∧ ∀ q p, r ≤ q → q < p → f ≤ p → (p < k ∨ p = k ∧ q < m) → slL b t q p ≤ slL b t x.1 x.2
theorem LoS2.step {m : Nat} {o : Option (Nat × Nat)} (h : LoS2 b t f r k m o) (hr : r ≤ m) (hf : f ≤ k) (hm : m < k) : LoS2 b t f r k (m + 1) (upF b t o (m, k)) := by
  cases o with
  | none =>
    refine ⟨hr, hm, hf, .inr ⟨rfl, Nat.lt_succ_self m⟩, fun q p h1 h2 h3 h4 => ?_⟩
    by_cases c : p < k ∨ p = k ∧ q < m
    · exact (h q p h1 h2 h3 c).elim
    · have e1 : p = k := by omega
      have e2 : q = m := by omega
      subst e1; subst e2; exact Rat.le_refl
  | some x =>
    obtain ⟨y1, y2, y3, y4, y5⟩ := h
    unfold upF
    simp only
    by_cases c : slL b t x.1 x.2 ≤ slL b t m k
    · rw [if_pos c]
      refine ⟨hr, hm, hf, .inr ⟨rfl, Nat.lt_succ_self m⟩, fun q p h1 h2 h3 h4 => ?_⟩
      by_cases c2 : p < k ∨ p = k ∧ q < m
      · exact Rat.le_trans (y5 q p h1 h2 h3 c2) c
      · have e1 : p = k := by omega
        have e2 : q = m := by omega
        subst e1; subst e2; exact Rat.le_refl
    · rw [if_neg c]
      refine ⟨y1, y2, y3, by omega, fun q p h1 h2 h3 h4 => ?_⟩
      by_cases c2 : p < k ∨ p = k ∧ q < m
      · exact y5 q p h1 h2 h3 c2
      · have e1 : p = k := by omega
        have e2 : q = m := by omega
        subst e1; subst e2; grind
theorem LoS2.skip {m : Nat} {o : Option (Nat × Nat)} (h : LoS2 b t f r k m o) (hr : ¬ r ≤ m) : LoS2 b t f r k (m + 1) o := by
  cases o with
  | none => exact fun q p h1 h2 h3 h4 => h q p h1 h2 h3 (by omega)
  | some x => exact ⟨h.1, h.2.1, h.2.2.1, by have := h.2.2.2.1; omega, fun q p h1 h2 h3 h4 => h.2.2.2.2 q p h1 h2 h3 (by omega)⟩
theorem inL_spec {o : Option (Nat × Nat)} (h : LoS b t f r k o) (hf : f ≤ k) : ∀ m, m ≤ k → LoS2 b t f r k m (inL b t r k o m)
  | 0, _ => by
    cases o with
    | none => exact fun q p h1 h2 h3 h4 => h q p h1 h2 h3 (by omega)
    | some x => exact ⟨h.1, h.2.1, h.2.2.1, .inl h.2.2.2.1, fun q p h1 h2 h3 h4 => h.2.2.2.2 q p h1 h2 h3 (by omega)⟩
  | m + 1, hm => by
    have ih := inL_spec h hf m (by omega)
    unfold inL
    by_cases c : r ≤ m
    · rw [if_pos c]; exact ih.step c hf (by omega)
    · rw [if_neg c]; exact ih.skip c
theorem loF_spec : ∀ k, LoS b t f r k (loF b t f r k)
  | 0 => fun q p _ _ _ h => absurd h (Nat.not_lt_zero _)
  | k + 1 => by
    have ih := loF_spec k
    unfold loF
    by_cases c : f ≤ k
    · rw [if_pos c]
      have h2 := inL_spec ih c k (Nat.le_refl _)
      cases hx : inL b t r k (loF b t f r k) k with
      | none => rw [hx] at h2; exact fun q p h1 h3 h4 h5 => h2 q p h1 h3 h4 (by omega)
      | some x =>
        rw [hx] at h2
        obtain ⟨y1, y2, y3, y4, y5⟩ := h2
        exact ⟨y1, y2, y3, by omega, fun q p h1 h3 h4 h5 => y5 q p h1 h3 h4 (by omega)⟩
    · rw [if_neg c]
      cases hx : loF b t f r k with
      | none => rw [hx] at ih; exact fun q p h1 h3 h4 h5 => ih q p h1 h3 h4 (by omega)
      | some x =>
        rw [hx] at ih
        obtain ⟨y1, y2, y3, y4, y5⟩ := ih
        exact ⟨y1, y2, y3, by omega, fun q p h1 h3 h4 h5 => y5 q p h1 h3 h4 (by omega)⟩
theorem loF_some {x : Nat × Nat} (h : loF b t f r k = some x) : r ≤ x.1 ∧ x.1 < x.2 ∧ f ≤ x.2 ∧ x.2 < k ∧ ∀ q p, r ≤ q → q < p → f ≤ p → p < k → slL b t q p ≤ slL b t x.1 x.2 := by
  have := loF_spec (b := b) (t := t) (f := f) (r := r) k
  rw [h] at this; exact this
theorem loF_none (h : loF b t f r k = none) : ∀ q p, r ≤ q → q < p → f ≤ p → p < k → False := by
  have := loF_spec (b := b) (t := t) (f := f) (r := r) k
  rw [h] at this; exact this
theorem hiF_some {x : Nat × Nat} (h : hiF b t f r k = some x) : f ≤ x.1 ∧ x.1 < x.2 ∧ r ≤ x.2 ∧ x.2 < k ∧ ∀ q p, f ≤ q → q < p → r ≤ p → p < k → slH b t x.1 x.2 ≤ slH b t q p := by
  obtain ⟨h1, h2, h3, h4, h5⟩ := loF_some h
  refine ⟨h1, h2, h3, h4, fun q p a c d e => ?_⟩
  have := h5 q p a c d e
  rw [slL_mir, slL_mir] at this
  grind
theorem hiF_none (h : hiF b t f r k = none) : ∀ q p, f ≤ q → q < p → r ≤ p → p < k → False := loF_none h
def Ov (b : Rat) (t : Seq) (l : Rat × Rat) (i : Nat) : Prop := (t i).2 - b ≤ evL l (t i).1
def Un (b : Rat) (t : Seq) (l : Rat × Rat) (i : Nat) : Prop := evL l (t i).1 ≤ (t i).2 + b
def Ln (b : Rat) (t : Seq) (f r k : Nat) (l : Rat × Rat) : Prop := (∀ i, f ≤ i → i < k → Ov b t l i) ∧ ∀ i, r ≤ i → i < k → Un b t l i
/-- some line goes through -/
def Fe (b : Rat) (t : Seq) (f r k : Nat) : Prop := ∀ q p q' p', r ≤ q → q < p → f ≤ p → p < k → f ≤ q' → q' < p' → r ≤ p' → p' < k → slL b t q p ≤ slH b t q' p'
def mirL (l : Rat × Rat) : Rat × Rat := (-l.1, -l.2)
theorem evL_mir {l : Rat × Rat} {x : Int} : evL (mirL l) x = -evL l x := by unfold evL mirL; grind
theorem lnL_mir {x : Nat × Nat} : lnL b (mirT t) x = mirL (lnH b t x) := by
  unfold lnL lnH mirL
  rw [slL_mir, mirT_2, mirT_1]
  congr 1
  grind
theorem Ln.mir {l : Rat × Rat} (h : Ln b t f r k l) : Ln b (mirT t) r f k (mirL l) := by
  refine ⟨fun i a c => ?_, fun i a c => ?_⟩
  · have := h.2 i a c
    unfold Ov Un at *
    rw [evL_mir, mirT_2, mirT_1]; grind
  · have := h.1 i a c
    unfold Ov Un at *
    rw [evL_mir, mirT_2, mirT_1]; grind
theorem Ln.of_mir {l : Rat × Rat} (h : Ln b (mirT t) r f k (mirL l)) : Ln b t f r k l := by
  have := h.mir
  rw [mir_mir] at this
  have e : mirL (mirL l) = l := by unfold mirL; simp
  rw [e] at this
  exact this
theorem Fe.mir (h : Fe b t f r k) : Fe b (mirT t) r f k := fun q p q' p' h1 h2 h3 h4 h5 h6 h7 h8 => by
  rw [slL_mir, slH_mir]
  have := h q' p' q p h5 h6 h7 h8 h1 h2 h3 h4
  grind
theorem Ln.mono {l : Rat × Rat} {m : Nat} (h : Ln b t f r k l) (hm : m ≤ k) : Ln b t f r m l := ⟨fun i a c => h.1 i a (by omega), fun i a c => h.2 i a (by omega)⟩
/-- the line of the low pair at its two ends -/
theorem lnL_p {x : Nat × Nat} : evL (lnL b t x) (t x.2).1 = (t x.2).2 - b := by
  unfold evL lnL; grind
theorem lnL_q (h : Inc t n) {x : Nat × Nat} (h1 : x.1 < x.2) (h2 : x.2 < n) : evL (lnL b t x) (t x.1).1 = (t x.1).2 + b := by
  have := slL_m (b := b) h h1 h2
  unfold evL lnL; grind
theorem lnH_p {x : Nat × Nat} : evL (lnH b t x) (t x.2).1 = (t x.2).2 + b := by
  unfold evL lnH; grind
theorem low_line (h : Inc t n) (h0 : 0 ≤ b) (hF : Fe b t f r k) (hk : k ≤ n) {x : Nat × Nat} (hx : loF b t f r k = some x) : Ln b t f r k (lnL b t x) := by
  obtain ⟨y1, y2, y3, y4, y5⟩ := loF_some hx
  have eq := lnL_q (b := b) h y2 (by omega)
  have ep := lnL_p (b := b) (t := t) (x := x)
  have es : (lnL b t x).1 = slL b t x.1 x.2 := rfl
  refine ⟨fun i a c => ?_, fun i a c => ?_⟩
  · unfold Ov
    rcases Nat.lt_trichotomy x.1 i with z | z | z
    · have m := slL_m (b := b) h z (show i < n by omega)
      have d := h.pos z (show i < n by omega)
      have le := mul_nn_le (Rat.le_of_lt d) (y5 x.1 i y1 z a c)
      simp only [evL, es] at *
      clear hF y5 hx
      grind
    · rw [← z, eq]; grind
    · have m := slH_m (b := b) h z (show x.1 < n by omega)
      have d := h.pos z (show x.1 < n by omega)
      have le := mul_nn_le (Rat.le_of_lt d) (hF x.1 x.2 i x.1 y1 y2 y3 y4 a z y1 (by omega))
      simp only [evL, es] at *
      clear hF y5 hx
      grind
  · unfold Un
    rcases Nat.lt_trichotomy i x.2 with z | z | z
    · have m := slL_m (b := b) h z (show x.2 < n by omega)
      have d := h.pos z (show x.2 < n by omega)
      have le := mul_nn_le (Rat.le_of_lt d) (y5 i x.2 a z y3 y4)
      simp only [evL, es] at *
      clear hF y5 hx
      grind
    · rw [z, ep]; grind
    · have m := slH_m (b := b) h z (show i < n by omega)
      have d := h.pos z (show i < n by omega)
      have le := mul_nn_le (Rat.le_of_lt d) (hF x.1 x.2 x.2 i y1 y2 y3 y4 y3 z a c)
      simp only [evL, es] at *
      clear hF y5 hx
      grind
theorem high_line (h : Inc t n) (h0 : 0 ≤ b) (hF : Fe b t f r k) (hk : k ≤ n) {x : Nat × Nat} (hx : hiF b t f r k = some x) : Ln b t f r k (lnH b t x) := by
  have := low_line h.mir h0 hF.mir hk hx
  rw [lnL_mir] at this
  exact this.of_mir
/-- its slope is the least -/
theorem low_min (h : Inc t n) (hk : k ≤ n) {x : Nat × Nat} (hx : loF b t f r k = some x) {l : Rat × Rat} (hl : Ln b t f r k l) : slL b t x.1 x.2 ≤ l.1 := by
  obtain ⟨y1, y2, y3, y4, y5⟩ := loF_some hx
  have m := slL_m (b := b) h y2 (show x.2 < n by omega)
  have d := h.pos y2 (show x.2 < n by omega)
  have h1 := hl.1 x.2 y3 y4
  have h2 := hl.2 x.1 y1 (by omega)
  unfold Ov Un evL at *
  have : slL b t x.1 x.2 * (((t x.2).1 : Rat) - ((t x.1).1 : Rat)) ≤ l.1 * (((t x.2).1 : Rat) - ((t x.1).1 : Rat)) := by grind
  exact le_of_mul d this
/-- the next sample: what its pairs with the held ones are -/
theorem step_a (h : Inc t n) (h0 : 0 ≤ b) (hF : Fe b t f r k) (hk : k < n) (hl : capP b t f r k = none) : ∀ q p q', r ≤ q → q < p → f ≤ p → p < k → f ≤ q' → q' < k → slL b t q p ≤ slH b t q' k := by
  intro q p q' h1 h2 h3 h4 h5 h6
  cases hx : loF b t f r k with
  | none => exact (loF_none hx q p h1 h2 h3 h4).elim
  | some x =>
    have le := (loF_some hx).2.2.2.2 q p h1 h2 h3 h4
    have hL := low_line h h0 hF (by omega) hx
    have ov := hL.1 q' h5 h6
    unfold capP at hl
    rw [hx] at hl
    simp only at hl
    split at hl
    · cases hl
    · rename_i nc
      refine Rat.le_trans le ?_
      have d := h.pos h6 hk
      have m := slH_m (b := b) h h6 hk
      have es : (lnL b t x).1 = slL b t x.1 x.2 := rfl
      unfold Ov at ov
      simp only [evL, es] at ov nc
      clear hF
      have : slL b t x.1 x.2 * (((t k).1 : Rat) - ((t q').1 : Rat)) ≤ slH b t q' k * (((t k).1 : Rat) - ((t q').1 : Rat)) := by grind
      exact le_of_mul d this
theorem fe_step (h : Inc t n) (h0 : 0 ≤ b) (hF : Fe b t f r k) (hk : k < n) (h1 : capP b t f r k = none) (h2 : cupP b t f r k = none) : Fe b t f r (k + 1) := by
  have A := step_a h h0 hF hk h1
  have B := step_a h.mir h0 hF.mir hk h2
  intro q p q' p' a1 a2 a3 a4 a5 a6 a7 a8
  by_cases c1 : p < k
  · by_cases c2 : p' < k
    · exact hF q p q' p' a1 a2 a3 c1 a5 a6 a7 c2
    · have : p' = k := by omega
      subst this
      exact A q p q' a1 a2 a3 c1 a5 a6
  · have : p = k := by omega
    subst this
    by_cases c2 : p' < p
    · have := B q' p' q a5 a6 a7 c2 a1 a2
      rw [slL_mir, slH_mir] at this
      grind
    · have : p' = p := by omega
      subst this
      have m1 := slL_m (b := b) h a2 hk
      have m2 := slH_m (b := b) h a6 hk
      have d1 := h.pos a2 hk
      have d2 := h.pos a6 hk
      rcases Nat.lt_trichotomy q q' with z | z | z
      · have le := A q q' q' a1 z a5 a6 a5 a6
        have m3 := slL_m (b := b) h z (show q' < n by omega)
        have d3 := h.pos z (show q' < n by omega)
        have k1 := mul_nn_le (Rat.le_of_lt d3) le
        have : slL b t q p' * (((t p').1 : Rat) - ((t q).1 : Rat)) ≤ slH b t q' p' * (((t p').1 : Rat) - ((t q).1 : Rat)) := by grind
        exact le_of_mul d1 this
      · subst z
        have : slL b t q p' * (((t p').1 : Rat) - ((t q).1 : Rat)) ≤ slH b t q p' * (((t p').1 : Rat) - ((t q).1 : Rat)) := by grind
        exact le_of_mul d1 this
      · have le := B q' q q a5 z a1 a2 a1 a2
        rw [slL_mir, slH_mir] at le
        have m3 := slH_m (b := b) h z (show q < n by omega)
        have d3 := h.pos z (show q < n by omega)
        have le2 : slL b t q p' ≤ slH b t q' q := by grind
        have k1 := mul_nn_le (Rat.le_of_lt d3) le2
        have : slL b t q p' * (((t p').1 : Rat) - ((t q').1 : Rat)) ≤ slH b t q' p' * (((t p').1 : Rat) - ((t q').1 : Rat)) := by grind
        exact le_of_mul d2 this
theorem capP_some {x : Nat × Nat} (h : capP b t f r k = some x) : loF b t f r k = some x ∧ (t k).2 + b < evL (lnL b t x) (t k).1 := by
  unfold capP at h
  split at h
  · cases h
  · rename_i y e
    split at h
    · cases h; exact ⟨e, by assumption⟩
    · cases h
/-- what holds of each state -/
structure LkI (b : Rat) (t : Seq) (f r k : Nat) : Prop where
  fe : Fe b t f r k
  lt : 0 < k → f < k ∧ r < k
  z : k = 0 → f = 0 ∧ r = 0
theorem stF_cap {x : Nat × Nat} (h : capP b t (stF b t k).1 (stF b t k).2 k = some x) : stF b t (k + 1) = (x.2, k) := by
  conv => lhs; unfold stF
  rw [h]
theorem stF_cup {x : Nat × Nat} (h1 : capP b t (stF b t k).1 (stF b t k).2 k = none) (h2 : cupP b t (stF b t k).1 (stF b t k).2 k = some x) : stF b t (k + 1) = (k, x.2) := by
  conv => lhs; unfold stF
  rw [h1, h2]
theorem stF_thr (h1 : capP b t (stF b t k).1 (stF b t k).2 k = none) (h2 : cupP b t (stF b t k).1 (stF b t k).2 k = none) : stF b t (k + 1) = stF b t k := by
  conv => lhs; unfold stF
  rw [h1, h2]
theorem lkI (h : Inc t n) (h0 : 0 ≤ b) : ∀ k, k ≤ n → LkI b t (stF b t k).1 (stF b t k).2 k
  | 0, _ => ⟨fun q p q' p' _ _ _ h => absurd h (Nat.not_lt_zero _), fun h => absurd h (Nat.lt_irrefl _), fun _ => ⟨rfl, rfl⟩⟩
  | k + 1, hk => by
    have ih := lkI h h0 k (by omega)
    cases c1 : capP b t (stF b t k).1 (stF b t k).2 k with
    | some x =>
      rw [stF_cap c1]
      obtain ⟨e, _⟩ := capP_some c1
      obtain ⟨y1, y2, y3, y4, y5⟩ := loF_some e
      exact ⟨fun q p q' p' a1 a2 a3 a4 => absurd a4 (by simp only at a1; omega), fun _ => ⟨by simp only; omega, by simp only; omega⟩, fun z => absurd z (by omega)⟩
    | none =>
      cases c2 : cupP b t (stF b t k).1 (stF b t k).2 k with
      | some x =>
        rw [stF_cup c1 c2]
        obtain ⟨e, _⟩ := capP_some c2
        obtain ⟨y1, y2, y3, y4, y5⟩ := loF_some e
        exact ⟨fun q p q' p' a1 a2 a3 a4 a5 a6 a7 a8 => absurd a8 (by simp only at a5; omega), fun _ => ⟨by simp only; omega, by simp only; omega⟩, fun z => absurd z (by omega)⟩
      | none =>
        rw [stF_thr c1 c2]
        refine ⟨fe_step h h0 ih.fe (by omega) c1 c2, fun _ => ?_, fun z => absurd z (by omega)⟩
        by_cases hk0 : k = 0
        · have := ih.z hk0; omega
        · have := ih.lt (by omega); omega
/-- both at once never -/
theorem cap_not_cup (h : Inc t n) (h0 : 0 ≤ b) (hF : Fe b t f r k) (hk : k < n) {x : Nat × Nat} (h1 : capP b t f r k = some x) : cupP b t f r k = none := by
  cases hc : cupP b t f r k with
  | none => rfl
  | some y =>
    exfalso
    obtain ⟨e1, o1⟩ := capP_some h1
    obtain ⟨e2, o2⟩ := capP_some hc
    obtain ⟨y1, y2, y3, y4, y5⟩ := loF_some e1
    have hH := high_line h h0 hF (by omega) e2
    have sl := low_min h (by omega) e1 hH
    have ov := hH.1 x.2 y3 y4
    have ep := lnL_p (b := b) (t := t) (x := x)
    have d := h.pos y4 hk
    rw [lnL_mir, evL_mir, mirT_1, mirT_2] at o2
    have k1 := mul_nn_le (Rat.le_of_lt d) sl
    have es : (lnL b t x).1 = slL b t x.1 x.2 := rfl
    unfold Ov at ov
    simp only [evL, es] at *
    clear hF y5 h
    grind
end
end Lt
set_option maxRecDepth 100000
set_option maxHeartbeats 2000000
namespace Lt
open PySem (Str)
open LawT
def bdFs (a b c d e g : D) : List (Str × D) := [("bound", a), ("floor", b), ("roof", c), ("low", d), ("high", e), ("newest", g)]
def lowE (b : Rat) (t : Seq) (i : Nat) : D := smD (t i).1 ((t i).2 - b)
def higE (b : Rat) (t : Seq) (i : Nat) : D := smD (t i).1 ((t i).2 + b)
def loD (b : Rat) (t : Seq) : Option (Nat × Nat) → D
  | none => .non
  | some x => .tup [higE b t x.1, lowE b t x.2]
def hiD (b : Rat) (t : Seq) : Option (Nat × Nat) → D
  | none => .non
  | some x => .tup [lowE b t x.1, higE b t x.2]
def nwD (t : Seq) : Nat → D
  | 0 => .non
  | k + 1 => smpD (t k)
def rg (f k : Nat) : List Nat := List.range' f (k - f)
end Lt
set_option maxRecDepth 100000
set_option maxHeartbeats 2000000
namespace Lt
open PySem (Str)
open LawT
theorem rg_snoc {f k : Nat} (h : f ≤ k) : rg f (k + 1) = rg f k ++ [k] := by
  unfold rg
  have : k + 1 - f = (k - f) + 1 := by omega
  rw [this, List.range'_concat]
  congr 2; omega
/-- what an object holds -/
structure BdS (S : Store) (n fq rq : Nat) (b : Rat) (t : Seq) (fl rf : List Nat) (lo hi : Option (Nat × Nat)) (nw : D) : Prop where
  fs : getI S n = some (("Bend" : Str), bdFs (rD b) (.ref fq) (.ref rq) (loD b t lo) (hiD b t hi) nw)
  fl : getL S fq = some (fl.map (lowE b t))
  rf : getL S rq = some (rf.map (higE b t))
  ne : fq ≠ rq
theorem BdS.fr {S S' : Store} {n fq rq : Nat} {b : Rat} {t : Seq} {fl rf : List Nat} {lo hi : Option (Nat × Nat)} {nw : D} {W : List Nat} (h : BdS S n fq rq b t fl rf lo hi nw) (f : Fr W S S') (h1 : n ∉ W) (h2 : fq ∉ W) (h3 : rq ∉ W) : BdS S' n fq rq b t fl rf lo hi nw :=
  ⟨f.getI h.fs h1, f.getL h.fl h2, f.getL h.rf h3, h.ne⟩
section
variable {P : Prog} {F k : Nat} {S : Store} {E : XP} {b : Rat} {t : Seq} {N n fq rq m f r : Nat} {lo hi : Option (Nat × Nat)} {nw : D}
/-- an object that took the samples ahead of a place -/
def BendO (S : Store) (n fq rq : Nat) (b : Rat) (t : Seq) (k : Nat) : Prop :=
  BdS S n fq rq b t (rg (stF b t k).1 k) (rg (stF b t k).2 k) (loF b t (stF b t k).1 (stF b t k).2 k) (hiF b t (stF b t k).1 (stF b t k).2 k) (nwD t k)
theorem BendO.fr {S S' : Store} {k : Nat} {W : List Nat} (h : BendO S n fq rq b t k) (f : Fr W S S') (h1 : n ∉ W) (h2 : fq ∉ W) (h3 : rq ∉ W) : BendO S' n fq rq b t k := BdS.fr h f h1 h2 h3
/-- the filters -/
def FlI (S : Store) (g : Nat → D) (f p : Nat) (i : Nat) (acc : List D) (S2 : Store) : Prop := S2 = S ∧ acc = ((rg f (f + i)).filter (fun j => decide (p ≤ j))).map g
theorem FlI.step {S S2 : Store} {g : Nat → D} {f p i : Nat} {acc : List D} (h : FlI S g f p i acc S2) : FlI S g f p (i + 1) (if p ≤ f + i then acc ++ [g (f + i)] else acc) S2 := by
  obtain ⟨rfl, rfl⟩ := h
  refine ⟨rfl, ?_⟩
  show _ = ((rg f ((f + i) + 1)).filter _).map g
  rw [rg_snoc (by omega), List.filter_append, List.map_append]
  by_cases c : p ≤ f + i
  · rw [if_pos c]; simp [c]
  · rw [if_neg c]; simp [c]
end
end Lt
set_option maxRecDepth 100000
set_option maxHeartbeats 2000000
namespace Lt
abbrev Line := Rat × Rat
/-- a link that ended: its line; the places of the three -/
abbrev Lnk := Line × Nat × Nat × Nat
def endO (b : Rat) (t : Seq) (k : Nat) : Option Lnk := match capP b t (stF b t k).1 (stF b t k).2 k with
  | some x => some (lnL b t x, x.1, x.2, k)
  | none => match cupP b t (stF b t k).1 (stF b t k).2 k with
    | some x => some (lnH b t x, x.1, x.2, k)
    | none => none
def endsF (b : Rat) (t : Seq) : Nat → List Lnk
  | 0 => []
  | k + 1 => endsF b t k ++ (endO b t k).toList
/-- where two lines meet -/
def mx (l l2 : Line) : Rat := (l2.2 - l.2) / (l.1 - l2.1)
def htl (l : Line) (w : Rat) : Rat := l.1 * w + l.2
theorem mx_mir {l l2 : Line} : mx (mirL l) (mirL l2) = mx l l2 := by
  unfold mx mirL
  grind
/-- a line and the next one -/
structure Nxt (b : Rat) (t : Seq) (l l2 : Line) (p c k : Nat) : Prop where
  ne : l.1 ≠ l2.1
  lo : ((t p).1 : Rat) ≤ mx l l2
  hi : mx l l2 < ((t c).1 : Rat)
  be : ∀ n, n < k → mx l l2 ≤ ((t n).1 : Rat) → Ov b t l2 n ∧ Un b t l2 n
section
variable {b : Rat} {t : Seq} {f r k n : Nat}
theorem Ov.mir {l : Line} {i : Nat} : Ov b (mirT t) (mirL l) i ↔ Un b t l i := by
  unfold Ov Un
  rw [evL_mir, mirT_2, mirT_1]
  constructor <;> intro h <;> grind
theorem Un.mir {l : Line} {i : Nat} : Un b (mirT t) (mirL l) i ↔ Ov b t l i := by
  unfold Ov Un
  rw [evL_mir, mirT_2, mirT_1]
  constructor <;> intro h <;> grind
theorem Nxt.mir {l l2 : Line} {p c : Nat} (h : Nxt b (mirT t) (mirL l) (mirL l2) p c k) : Nxt b t l l2 p c k := by
  obtain ⟨h1, h2, h3, h4⟩ := h
  rw [mx_mir] at h2 h3 h4
  refine ⟨fun z => h1 (by unfold mirL; simp [z]), h2, h3, fun n a c => ?_⟩
  have := h4 n a c
  rw [Ov.mir, Un.mir] at this
  exact ⟨this.2, this.1⟩
/-- what ended the link before: in a cap -/
structure CapB (b : Rat) (t : Seq) (l : Line) (p c : Nat) : Prop where
  pc : p < c
  tp : evL l (t p).1 = (t p).2 - b
  ov : (t c).2 + b < evL l (t c).1
  un : ∀ i, p ≤ i → i < c → Un b t l i
theorem cap_next (h : Inc t n) (hk : k ≤ n) {l l2 : Line} {p c : Nat} (hc : CapB b t l p c) (hck : c < k) (h2 : Ln b t p c k l2) : Nxt b t l l2 p c k ∧ l2.1 < l.1 := by
  obtain ⟨e1, e2, e3, e4⟩ := hc
  have d := h.pos e1 (show c < n by omega)
  have o := h2.1 p (Nat.le_refl _) (by omega)
  have u := h2.2 c (Nat.le_refl _) hck
  have hs : l2.1 < l.1 := by
    refine Rat.not_le.mp fun z => ?_
    have := mul_nn_le (Rat.le_of_lt d) z
    unfold Ov Un evL at *
    grind
  have hd : 0 < l.1 - l2.1 := by grind
  have m1 : ((t p).1 : Rat) ≤ mx l l2 := by
    unfold mx
    rw [le_div hd]
    unfold Ov evL at *
    grind
  have m2 : mx l l2 < ((t c).1 : Rat) := by
    unfold mx
    rw [div_lt hd]
    unfold Un evL at *
    grind
  refine ⟨⟨by grind, m1, m2, fun i hi hx => ?_⟩, hs⟩
  have hpi : p ≤ i := by
    refine (h.le_iff (by omega) (by omega)).mp ?_
    have := Rat.le_trans m1 hx
    exact Rat.intCast_le_intCast.mp this
  refine ⟨h2.1 i hpi hi, ?_⟩
  by_cases hci : c ≤ i
  · exact h2.2 i hci hi
  · have := e4 i hpi (by omega)
    have k1 : l2.2 - l.2 ≤ ((t i).1 : Rat) * (l.1 - l2.1) := by
      have := (div_le hd).mp hx
      exact this
    unfold Un evL at *
    grind
/-- in a cup -/
def CupB (b : Rat) (t : Seq) (l : Line) (p c : Nat) : Prop := CapB b (mirT t) (mirL l) p c
theorem cup_next (h : Inc t n) (hk : k ≤ n) {l l2 : Line} {p c : Nat} (hc : CupB b t l p c) (hck : c < k) (h2 : Ln b t c p k l2) : Nxt b t l l2 p c k ∧ l.1 < l2.1 := by
  obtain ⟨h1, h3⟩ := cap_next h.mir hk hc hck h2.mir
  refine ⟨h1.mir, ?_⟩
  unfold mirL at h3
  simp only at h3
  grind
/-- the link under way, and the one before it -/
def PvI (b : Rat) (t : Seq) (k : Nat) : Option Lnk → Prop
  | none => stF b t k = (0, 0)
  | some (l, q, p, c) => c < k ∧ ((stF b t k = (p, c) ∧ CapB b t l p c) ∨ (stF b t k = (c, p) ∧ CupB b t l p c))
theorem PvI.next (h : Inc t n) (hk : k ≤ n) {l : Line} {q p c : Nat} (hp : PvI b t k (some (l, q, p, c))) {l2 : Line} (h2 : Ln b t (stF b t k).1 (stF b t k).2 k l2) : Nxt b t l l2 p c k := by
  obtain ⟨h1, ⟨e, hc⟩ | ⟨e, hc⟩⟩ := hp
  · rw [e] at h2; exact (cap_next h hk hc h1 h2).1
  · rw [e] at h2; exact (cup_next h hk hc h1 h2).1
theorem capB_of (h : Inc t n) (h0 : 0 ≤ b) (hF : Fe b t f r k) (hk : k < n) {x : Nat × Nat} (hx : capP b t f r k = some x) : CapB b t (lnL b t x) x.2 k := by
  obtain ⟨e, o⟩ := capP_some hx
  obtain ⟨y1, y2, y3, y4, y5⟩ := loF_some e
  have hL := low_line h h0 hF (by omega) e
  exact ⟨y4, lnL_p, o, fun i a c => hL.2 i (by omega) c⟩
theorem cupB_of (h : Inc t n) (h0 : 0 ≤ b) (hF : Fe b t f r k) (hk : k < n) {x : Nat × Nat} (hx : cupP b t f r k = some x) : CupB b t (lnH b t x) x.2 k := by
  have := capB_of h.mir h0 hF.mir hk hx
  rw [lnL_mir] at this
  exact this
/-- a link that ends goes through to the sample just ahead -/
theorem endO_ln (h : Inc t n) (h0 : 0 ≤ b) (hk : k < n) {e : Lnk} (he : endO b t k = some e) : Ln b t (stF b t k).1 (stF b t k).2 k e.1 ∧ e.2.1 < e.2.2.1 ∧ e.2.2.1 < k ∧ e.2.2.2 = k ∧ (stF b t k).1 ≤ e.2.2.1 ∧ (stF b t k).2 ≤ e.2.2.1 ∧ PvI b t (k + 1) (some e) := by
  have I := lkI h h0 k (by omega)
  unfold endO at he
  cases c1 : capP b t (stF b t k).1 (stF b t k).2 k with
  | some x =>
    rw [c1] at he
    cases he
    obtain ⟨e, o⟩ := capP_some c1
    obtain ⟨y1, y2, y3, y4, y5⟩ := loF_some e
    refine ⟨low_line h h0 I.fe (by omega) e, y2, y4, rfl, y3, by simp only; omega, Nat.lt_succ_self k, .inl ⟨stF_cap c1, capB_of h h0 I.fe hk c1⟩⟩
  | none =>
    rw [c1] at he
    cases c2 : cupP b t (stF b t k).1 (stF b t k).2 k with
    | some x =>
      rw [c2] at he
      cases he
      obtain ⟨e, o⟩ := capP_some c2
      obtain ⟨y1, y2, y3, y4, y5⟩ := loF_some e
      refine ⟨high_line h h0 I.fe (by omega) e, y2, y4, rfl, by simp only; omega, y3, Nat.lt_succ_self k, .inr ⟨stF_cup c1 c2, cupB_of h h0 I.fe hk c2⟩⟩
    | none => rw [c2] at he; cases he
theorem endO_none (he : endO b t k = none) : stF b t (k + 1) = stF b t k := by
  unfold endO at he
  cases c1 : capP b t (stF b t k).1 (stF b t k).2 k with
  | some x => rw [c1] at he; cases he
  | none =>
    rw [c1] at he
    cases c2 : cupP b t (stF b t k).1 (stF b t k).2 k with
    | some x => rw [c2] at he; cases he
    | none => exact stF_thr c1 c2
/-- the links that ended -/
structure Chn (b : Rat) (t : Seq) (k : Nat) (es : List Lnk) : Prop where
  pv : PvI b t k es.getLast?
  pl : ∀ e ∈ es, e.2.1 < e.2.2.1 ∧ e.2.2.1 < e.2.2.2 ∧ e.2.2.2 < k
  first : ∀ e, es[0]? = some e → ∀ i, i < e.2.2.2 → Ov b t e.1 i ∧ Un b t e.1 i
  nx : ∀ i e e', es[i]? = some e → es[i + 1]? = some e' → Nxt b t e.1 e'.1 e.2.2.1 e.2.2.2 e'.2.2.2 ∧ e.2.2.2 ≤ e'.2.2.1
theorem chn (h : Inc t n) (h0 : 0 ≤ b) : ∀ k, k ≤ n → Chn b t k (endsF b t k)
  | 0, _ => ⟨rfl, fun e he => (nomatch he), fun e he => (nomatch he), fun i e e' he => (nomatch he)⟩
  | k + 1, hk => by
    have ih := chn h h0 k (by omega)
    unfold endsF
    cases he : endO b t k with
    | none =>
      have hs := endO_none he
      show Chn b t (k + 1) (endsF b t k ++ [])
      rw [List.append_nil]
      refine ⟨?_, fun e hm => ?_, ih.first, ih.nx⟩
      · have := ih.pv
        cases hl : (endsF b t k).getLast? with
        | none => rw [hl] at this; unfold PvI at this ⊢; rw [hs]; exact this
        | some e =>
          rw [hl] at this
          obtain ⟨l, q, p, c⟩ := e
          unfold PvI at this ⊢
          rw [hs]
          exact ⟨by omega, this.2⟩
      · have := ih.pl e hm; omega
    | some e =>
      obtain ⟨L, p1, p2, p3, p4, p5, pv⟩ := endO_ln h h0 (show k < n by omega) he
      show Chn b t (k + 1) (endsF b t k ++ [e])
      refine ⟨by rw [List.getLast?_append]; exact pv, fun e' hm => ?_, fun e' he' => ?_, fun i e1 e2 h1 h2 => ?_⟩
      · rcases List.mem_append.mp hm with z | z
        · have := ih.pl e' z; omega
        · rw [List.mem_singleton] at z; subst z; omega
      · by_cases hl : 0 < (endsF b t k).length
        · rw [List.getElem?_append_left hl] at he'
          exact ih.first e' he'
        · have hn : endsF b t k = [] := List.length_eq_zero_iff.mp (by omega)
          rw [hn] at he'
          cases he'
          have := ih.pv
          rw [hn] at this
          have this : stF b t k = (0, 0) := this
          rw [this] at L
          intro i hi
          rw [p3] at hi
          exact ⟨L.1 i (Nat.zero_le _) hi, L.2 i (Nat.zero_le _) hi⟩
      · by_cases hl : i + 1 < (endsF b t k).length
        · rw [List.getElem?_append_left (by omega)] at h1
          rw [List.getElem?_append_left hl] at h2
          exact ih.nx i e1 e2 h1 h2
        · have hi : i + 1 = (endsF b t k).length := by
            have := (List.getElem?_eq_some_iff.mp h2).1
            simp at this; omega
          rw [List.getElem?_append_left (by omega)] at h1
          rw [List.getElem?_append_right (by omega), hi] at h2
          simp at h2
          subst h2
          have hlast : (endsF b t k).getLast? = some e1 := by
            rw [List.getLast?_eq_getElem?, ← hi]; exact h1
          have pv1 := ih.pv
          rw [hlast] at pv1
          obtain ⟨l, q, p, c⟩ := e1
          rw [p3]
          refine ⟨pv1.next h (by omega) L, ?_⟩
          obtain ⟨_, ⟨e, _⟩ | ⟨e, _⟩⟩ := pv1
          · rw [e] at p5; exact p5
          · rw [e] at p4; exact p4
/-- the line of the link under way -/
def nowL (b : Rat) (t : Seq) (k : Nat) : Option (Rat × Rat) := match loF b t (stF b t k).1 (stF b t k).2 k with
  | some x => some (lnL b t x)
  | none => match hiF b t (stF b t k).1 (stF b t k).2 k with
    | some x => some (lnH b t x)
    | none => match k with
      | 0 => none
      | j + 1 => some (0, (t j).2)
/-- the line under way goes through to the last sample -/
theorem now_ln (h : Inc t n) (h0 : 0 ≤ b) (hk : k ≤ n) (h1 : 1 ≤ k) : ∃ l, nowL b t k = some l ∧ Ln b t (stF b t k).1 (stF b t k).2 k l := by
  have I := lkI h h0 k hk
  unfold nowL
  cases c1 : loF b t (stF b t k).1 (stF b t k).2 k with
  | some x => exact ⟨_, rfl, low_line h h0 I.fe hk c1⟩
  | none =>
    cases c2 : hiF b t (stF b t k).1 (stF b t k).2 k with
    | some x => exact ⟨_, rfl, high_line h h0 I.fe hk c2⟩
    | none =>
      obtain ⟨j, rfl⟩ : ∃ j, k = j + 1 := ⟨k - 1, by omega⟩
      have := I.lt (by omega)
      have n1 := loF_none c1
      have n2 := hiF_none c2
      refine ⟨_, rfl, fun i a c => ?_, fun i a c => ?_⟩
      · have : i = j := by
          by_cases z : i = j
          · exact z
          · exact (n2 i j a (by omega) (by omega) (by omega)).elim
        subst this
        unfold Ov evL
        grind
      · have : i = j := by
          by_cases z : i = j
          · exact z
          · exact (n1 i j a (by omega) (by omega) (by omega)).elim
        subst this
        unfold Un evL
        grind
theorem thr_un (h : Inc t n) {l : Line} {i j m : Nat} (hij : i < j) (hjm : j < m) (hm : m < n) (h1 : Un b t l i) (h2 : Ov b t l j) (h3 : Un b t l m) : stq (t i) (t j) (t m) ≤ 2 * b := by
  have d1 := h.pos hij (show j < n by omega)
  have d2 := h.pos hjm hm
  have d3 := h.pos (show i < m by omega) hm
  have e := stq_mul (b := t j) (h i m (by omega) hm) l.1
  unfold Un Ov evL at *
  have k1 := mul_nn_le (Rat.le_of_lt d2) (show (t j).2 - (t i).2 - l.1 * (((t j).1 : Rat) - ((t i).1 : Rat)) ≤ 2 * b by grind)
  have k2 := mul_nn_le (Rat.le_of_lt d1) (show (t j).2 - (t m).2 + l.1 * (((t m).1 : Rat) - ((t j).1 : Rat)) ≤ 2 * b by grind)
  refine le_of_mul d3 ?_
  grind
theorem stq_mir {i j m : Nat} : stq (mirT t i) (mirT t j) (mirT t m) = -stq (t i) (t j) (t m) := by
  unfold stq standF
  simp only [mirT_1, mirT_2]
  grind
theorem cap_pin (h : Inc t n) (hk : k < n) {x : Nat × Nat} (hx : capP b t f r k = some x) : 2 * b < stq (t x.1) (t x.2) (t k) := by
  obtain ⟨e, o⟩ := capP_some hx
  obtain ⟨y1, y2, y3, y4, y5⟩ := loF_some e
  have eq := lnL_q (b := b) h y2 (by omega)
  have ep := lnL_p (b := b) (t := t) (x := x)
  have d1 := h.pos y2 (show x.2 < n by omega)
  have d2 := h.pos y4 hk
  have d3 := h.pos (show x.1 < k by omega) hk
  have e := stq_mul (b := t x.2) (h x.1 k (by omega) hk) (lnL b t x).1
  unfold evL at *
  have k1 : (t x.2).2 - (t x.1).2 - (lnL b t x).1 * (((t x.2).1 : Rat) - ((t x.1).1 : Rat)) = 2 * b := by grind
  have k2 := mul_pos_lt d1 (show 2 * b < (t x.2).2 - (t k).2 + (lnL b t x).1 * (((t k).1 : Rat) - ((t x.2).1 : Rat)) by grind)
  rw [k1] at e
  have : 2 * b * (((t k).1 : Rat) - ((t x.1).1 : Rat)) < stq (t x.1) (t x.2) (t k) * (((t k).1 : Rat) - ((t x.1).1 : Rat)) := by grind
  exact (Rat.mul_lt_mul_right d3).mp this
end
end Lt
set_option maxRecDepth 100000
set_option maxHeartbeats 2000000
namespace Lt
open PySem (Str)
open LawT
end Lt
set_option maxRecDepth 100000
set_option maxHeartbeats 2000000
namespace Lt
set_option exponentiation.threshold 9000
open PySem (Str)
open LawT
end Lt
set_option maxRecDepth 100000
set_option maxHeartbeats 2000000
namespace Lt
set_option exponentiation.threshold 9000
open PySem (Str)
open LawT
end Lt
set_option maxRecDepth 100000
set_option maxHeartbeats 2000000
namespace Lt
def gL (ls : List Line) (i : Nat) : Line := ls.getD i (0, 0)
def wS (ls : List Line) (s0 : Rat) (i : Nat) : Rat := if i = 0 then s0 else mx (gL ls (i - 1)) (gL ls i)
def hS (ls : List Line) (s0 : Rat) (i : Nat) : Rat := if i = 0 then htl (gL ls 0) s0 else htl (gL ls (i - 1)) (wS ls s0 i)
def eS (ls : List Line) (s0 e : Rat) (i : Nat) : Rat := if i + 1 = ls.length then e else wS ls s0 (i + 1)
def pcA (ls : List Line) (s0 e : Rat) (i : Nat) : P4 := (wS ls s0 i, hS ls s0 i, eS ls s0 e i, htl (gL ls i) (eS ls s0 e i))
def pcsJ (ls : List Line) (s0 e : Rat) : List P4 := (List.range ls.length).map (pcA ls s0 e)
def nowV (b : Rat) (t : Seq) (k : Nat) : Line := (nowL b t k).getD (0, 0)
def linesF (b : Rat) (t : Seq) (n : Nat) : List Line := (endsF b t n).map (·.1) ++ [nowV b t n]
def thJ (t : Seq) (e : Lnk) : T3 := ((t e.2.1).1, (t e.2.2.1).1, (t e.2.2.2).1)
def sqA (ts : List Smp) : Seq := fun i => sA ts i
def telJ (b : Rat) (ts : List Smp) : List P4 := pcsJ (linesF b (sqA ts) ts.length) ((sqA ts 0).1 : Rat) ((sqA ts (ts.length - 1)).1 : Rat)
def papJ (b : Rat) (ts : List Smp) : List T3 := (endsF b (sqA ts) ts.length).map (thJ (sqA ts))
section
variable {b : Rat} {t : Seq} {n : Nat}
theorem linesF_len : (linesF b t n).length = (endsF b t n).length + 1 := by simp [linesF]
end
end Lt
set_option maxRecDepth 100000
set_option maxHeartbeats 2000000
namespace Lt
open PySem (Str)
open LawT
section
variable {P : Prog} {F k : Nat} {S : Store} {E : XP}
theorem telJ_len {b : Rat} {ts : List Smp} : (telJ b ts).length = (endsF b (sqA ts) ts.length).length + 1 := by
  unfold telJ pcsJ
  rw [List.length_map, List.length_range, linesF_len]
end
end Lt
set_option maxRecDepth 100000
set_option maxHeartbeats 2000000
namespace Lt
def isCap (b : Rat) (t : Seq) (k : Nat) : Bool := (capP b t (stF b t k).1 (stF b t k).2 k).isSome
def isCup (b : Rat) (t : Seq) (k : Nat) : Bool := (capP b t (stF b t k).1 (stF b t k).2 k).isNone && (cupP b t (stF b t k).1 (stF b t k).2 k).isSome
def cntB (f : Nat → Bool) : Nat → Nat
  | 0 => 0
  | k + 1 => cntB f k + (if f k = true then 1 else 0)
/-- the last one ahead, or nought -/
def lastB (f : Nat → Bool) : Nat → Nat
  | 0 => 0
  | k + 1 => if f k = true then k else lastB f k
section
variable {b : Rat} {t : Seq} {n : Nat}
theorem ends_cnt : ∀ k, (endsF b t k).length = cntB (isCap b t) k + cntB (isCup b t) k
  | 0 => rfl
  | k + 1 => by
    have ih := ends_cnt k
    have : (endO b t k).toList.length = (if isCap b t k = true then 1 else 0) + (if isCup b t k = true then 1 else 0) := by
      unfold endO isCap isCup
      cases c1 : capP b t (stF b t k).1 (stF b t k).2 k with
      | some x => rfl
      | none =>
        cases c2 : cupP b t (stF b t k).1 (stF b t k).2 k with
        | some x => rfl
        | none => rfl
    unfold endsF cntB
    rw [List.length_append, ih, this]
    omega
theorem last_st (h : Inc t n) (h0 : 0 ≤ b) : ∀ k, k ≤ n → lastB (isCap b t) k ≤ (stF b t k).2 ∧ lastB (isCup b t) k ≤ (stF b t k).1
  | 0, _ => ⟨Nat.le_refl _, Nat.le_refl _⟩
  | k + 1, hk => by
    have ih := last_st h h0 k (by omega)
    unfold lastB isCap isCup
    cases c1 : capP b t (stF b t k).1 (stF b t k).2 k with
    | some x =>
      obtain ⟨y1, y2, y3, y4, y5⟩ := loF_some (capP_some c1).1
      rw [stF_cap c1]
      exact ⟨Nat.le_refl _, Nat.le_trans ih.2 y3⟩
    | none =>
      cases c2 : cupP b t (stF b t k).1 (stF b t k).2 k with
      | some x =>
        obtain ⟨y1, y2, y3, y4, y5⟩ := loF_some (capP_some c2).1
        rw [stF_cup c1 c2]
        exact ⟨Nat.le_trans ih.1 y3, Nat.le_refl _⟩
      | none =>
        rw [stF_thr c1 c2]
        exact ih
end
section
variable {b : Rat} {t : Seq} {n : Nat}
theorem stF_mir (h : Inc t n) (h0 : 0 ≤ b) : ∀ k, k ≤ n → stF b (mirT t) k = ((stF b t k).2, (stF b t k).1)
  | 0, _ => rfl
  | k + 1, hk => by
    have ih := stF_mir h h0 k (by omega)
    have I := lkI h h0 k (by omega)
    have e1 : capP b (mirT t) (stF b (mirT t) k).1 (stF b (mirT t) k).2 k = cupP b t (stF b t k).1 (stF b t k).2 k := by rw [ih]; rfl
    have e2 : cupP b (mirT t) (stF b (mirT t) k).1 (stF b (mirT t) k).2 k = capP b t (stF b t k).1 (stF b t k).2 k := by
      rw [ih]
      unfold cupP
      rw [mir_mir]
    cases c1 : capP b t (stF b t k).1 (stF b t k).2 k with
    | some x =>
      have c2 := cap_not_cup h h0 I.fe (show k < n by omega) c1
      rw [stF_cap c1, stF_cup (e1.trans c2) (e2.trans c1)]
    | none =>
      cases c2 : cupP b t (stF b t k).1 (stF b t k).2 k with
      | some x => rw [stF_cup c1 c2, stF_cap (e1.trans c2)]
      | none => rw [stF_thr c1 c2, stF_thr (e1.trans c2) (e2.trans c1), ih]
theorem isCap_mir (h : Inc t n) (h0 : 0 ≤ b) {k : Nat} (hk : k < n) : isCap b (mirT t) k = isCup b t k := by
  have I := lkI h h0 k (by omega)
  have st := stF_mir h h0 k (by omega)
  have e1 : capP b (mirT t) (stF b (mirT t) k).1 (stF b (mirT t) k).2 k = cupP b t (stF b t k).1 (stF b t k).2 k := by rw [st]; rfl
  unfold isCap isCup
  rw [e1]
  cases c1 : capP b t (stF b t k).1 (stF b t k).2 k with
  | some x =>
    have c2 := cap_not_cup h h0 I.fe hk c1
    rw [c2]; rfl
  | none => simp
theorem cntB_congr {f g : Nat → Bool} : ∀ k, (∀ i, i < k → f i = g i) → cntB f k = cntB g k ∧ lastB f k = lastB g k
  | 0, _ => ⟨rfl, rfl⟩
  | k + 1, h => by
    obtain ⟨i1, i2⟩ := cntB_congr k fun i hi => h i (by omega)
    unfold cntB lastB
    rw [h k (by omega), i1, i2]
    exact ⟨rfl, rfl⟩
/-- no cap since the last one: a line for each sample -/
structure CvI (b : Rat) (t : Seq) (k : Nat) : Prop where
  a : ∀ l, Ln b t (stF b t k).1 (stF b t k).2 k l → ∀ i, lastB (isCap b t) k ≤ i → i < k → Un b t l i
  b : ∀ j, lastB (isCap b t) k ≤ j → j < (stF b t k).1 → j < k → ∃ l1, Ov b t l1 j ∧ (∀ i, lastB (isCap b t) k ≤ i → i < k → Un b t l1 i) ∧ ∀ l, Ln b t (stF b t k).1 (stF b t k).2 k l → l1.1 ≤ l.1 ∧ evL l1 (t (stF b t k).1).1 ≤ evL l (t (stF b t k).1).1
theorem ev_ge {l1 l : Line} {x y : Int} (h1 : l1.1 ≤ l.1) (h2 : evL l1 x ≤ evL l x) (hxy : x ≤ y) : evL l1 y ≤ evL l y := by
  have : (0 : Rat) ≤ (y : Rat) - (x : Rat) := by
    have := Rat.intCast_le_intCast.mpr hxy
    grind
  have := mul_nn_le this h1
  unfold evL at *
  grind
theorem cvI (h : Inc t n) (h0 : 0 ≤ b) : ∀ k, k ≤ n → CvI b t k
  | 0, _ => ⟨fun l _ i _ hi => absurd hi (Nat.not_lt_zero _), fun j _ _ hj => absurd hj (Nat.not_lt_zero _)⟩
  | k + 1, hk => by
    have ih := cvI h h0 k (by omega)
    have I := lkI h h0 k (by omega)
    have hfr : (stF b t k).1 ≤ k ∧ (stF b t k).2 ≤ k := by
      by_cases hk0 : k = 0
      · have := I.z hk0; omega
      · have := I.lt (by omega); omega
    cases c1 : capP b t (stF b t k).1 (stF b t k).2 k with
    | some x =>
      obtain ⟨y1, y2, y3, y4, y5⟩ := loF_some (capP_some c1).1
      have hc : isCap b t k = true := by unfold isCap; rw [c1]; rfl
      have hl : lastB (isCap b t) (k + 1) = k := by
        conv => lhs; unfold lastB
        rw [if_pos hc]
      rw [show CvI b t (k + 1) ↔ CvI b t (k + 1) from Iff.rfl]
      have st := stF_cap c1
      refine ⟨fun l L i i1 i2 => ?_, fun j j1 j2 j3 => ?_⟩
      · rw [hl] at i1
        rw [st] at L
        exact L.2 i (by simp only; omega) i2
      · rw [hl] at j1
        rw [st] at j2
        simp only at j2
        omega
    | none =>
      have hc : isCap b t k = false := by unfold isCap; rw [c1]; rfl
      have hl : lastB (isCap b t) (k + 1) = lastB (isCap b t) k := by
        conv => lhs; unfold lastB
        rw [hc]; rfl
      obtain ⟨l0, _, L0⟩ := now_ln h h0 hk (by omega)
      cases c2 : cupP b t (stF b t k).1 (stF b t k).2 k with
      | none =>
        have st := stF_thr c1 c2
        refine ⟨fun l L i i1 i2 => ?_, fun j j1 j2 j3 => ?_⟩
        · rw [hl] at i1
          rw [st] at L
          by_cases z : i = k
          · subst z; exact L.2 i hfr.2 i2
          · exact ih.a l (L.mono (by omega)) i i1 (by omega)
        · rw [hl] at j1
          rw [st] at j2 L0
          obtain ⟨l1, o1, u1, g1⟩ := ih.b j j1 j2 (by omega)
          refine ⟨l1, o1, fun i i1 i2 => ?_, fun l L => ?_⟩
          · rw [hl] at i1
            by_cases z : i = k
            · subst z
              obtain ⟨s1, s2⟩ := g1 l0 (L0.mono (by omega))
              have ge := ev_ge s1 s2 ((h.le_iff (show (stF b t i).1 < n by omega) (show i < n by omega)).mpr hfr.1)
              have := L0.2 i hfr.2 (by omega)
              unfold Un at *
              exact Rat.le_trans ge this
            · exact u1 i i1 (by omega)
          · rw [st] at L ⊢
            exact g1 l (L.mono (by omega))
      | some x =>
        have st := stF_cup c1 c2
        obtain ⟨y1, y2, y3, y4, y5⟩ := hiF_some (show hiF b t (stF b t k).1 (stF b t k).2 k = some x from (capP_some c2).1)
        have LH := high_line h h0 I.fe (by omega) (show hiF b t (stF b t k).1 (stF b t k).2 k = some x from (capP_some c2).1)
        have cu := cupB_of h h0 I.fe (show k < n by omega) c2
        have over := (capP_some c2).2
        rw [lnL_mir, evL_mir, mirT_2, mirT_1] at over
        have tp := lnH_p (b := b) (t := t) (x := x)
        have uk : Un b t (lnH b t x) k := by unfold Un; grind
        have aH := ih.a _ LH
        have steep : ∀ l, Ln b t k x.2 (k + 1) l → (lnH b t x).1 < l.1 ∧ evL (lnH b t x) (t k).1 ≤ evL l (t k).1 := fun l L => by
          refine ⟨(cup_next h hk cu (Nat.lt_succ_self k) L).2, ?_⟩
          have := L.1 k (Nat.le_refl _) (Nat.lt_succ_self k)
          unfold Ov at this
          grind
        refine ⟨fun l L i i1 i2 => ?_, fun j j1 j2 j3 => ?_⟩
        · rw [hl] at i1
          rw [st] at L
          by_cases z : x.2 ≤ i
          · exact L.2 i z i2
          · have old := aH i i1 (by omega)
            have up := L.2 x.2 (Nat.le_refl _) (by omega)
            have sl := (steep l L).1
            have d := h.pos (show i < x.2 by omega) (show x.2 < n by omega)
            have := mul_pos_lt d sl
            unfold Un evL at *
            grind
        · rw [hl] at j1
          rw [st] at j2
          simp only at j2
          by_cases z : (stF b t k).1 ≤ j
          · refine ⟨lnH b t x, LH.1 j z j2, fun i i1 i2 => ?_, fun l L => ?_⟩
            · rw [hl] at i1
              by_cases z2 : i = k
              · subst z2; exact uk
              · exact aH i i1 (by omega)
            · rw [st] at L ⊢
              obtain ⟨s1, s2⟩ := steep l L
              exact ⟨Rat.le_of_lt s1, s2⟩
          · obtain ⟨l1, o1, u1, g1⟩ := ih.b j j1 (by omega) j2
            obtain ⟨s1, s2⟩ := g1 _ LH
            have ge := ev_ge s1 s2 ((h.le_iff (show (stF b t k).1 < n by omega) (show k < n by omega)).mpr hfr.1)
            refine ⟨l1, o1, fun i i1 i2 => ?_, fun l L => ?_⟩
            · rw [hl] at i1
              by_cases z2 : i = k
              · subst z2
                unfold Un at *
                exact Rat.le_trans ge uk
              · exact u1 i i1 (by omega)
            · rw [st] at L ⊢
              obtain ⟨s3, s4⟩ := steep l L
              exact ⟨Rat.le_trans s1 (Rat.le_of_lt s3), Rat.le_trans ge s4⟩
/-- a link ends in a cap just where a cap stands behind the last one -/
theorem cap_iff (h : Inc t n) (h0 : 0 ≤ b) {k : Nat} (hk : k < n) : isCap b t k = true ↔ ∃ i j, lastB (isCap b t) k ≤ i ∧ i < j ∧ j < k ∧ 2 * b < stq (t i) (t j) (t k) := by
  constructor
  · intro hc
    unfold isCap at hc
    obtain ⟨x, hx⟩ := Option.isSome_iff_exists.mp hc
    obtain ⟨y1, y2, y3, y4, y5⟩ := loF_some (capP_some hx).1
    exact ⟨x.1, x.2, Nat.le_trans (last_st h h0 k (by omega)).1 y1, y2, y4, cap_pin h hk hx⟩
  · rintro ⟨i, j, h1, h2, h3, h4⟩
    cases hc : isCap b t k with
    | true => rfl
    | false =>
      exfalso
      have hl : lastB (isCap b t) (k + 1) = lastB (isCap b t) k := by
        conv => lhs; unfold lastB
        rw [hc]; rfl
      have C := cvI h h0 (k + 1) (by omega)
      obtain ⟨l0, _, L0⟩ := now_ln h h0 (show k + 1 ≤ n by omega) (by omega)
      have fin : ∀ l, Ov b t l j → (∀ i, lastB (isCap b t) (k + 1) ≤ i → i < k + 1 → Un b t l i) → False := fun l o u => by
        rw [hl] at u
        have := thr_un h h2 h3 hk (u i h1 (by omega)) o (u k (by omega) (by omega))
        exact absurd this (Rat.not_le.mpr h4)
      by_cases z : j < (stF b t (k + 1)).1
      · obtain ⟨l1, o1, u1, _⟩ := C.b j (by rw [hl]; omega) z (by omega)
        exact fin l1 o1 u1
      · exact fin l0 (L0.1 j (by omega) (by omega)) (C.a l0 L0)
theorem cup_iff (h : Inc t n) (h0 : 0 ≤ b) {k : Nat} (hk : k < n) : isCup b t k = true ↔ ∃ i j, lastB (isCup b t) k ≤ i ∧ i < j ∧ j < k ∧ 2 * b < -stq (t i) (t j) (t k) := by
  have := cap_iff h.mir h0 hk
  rw [isCap_mir h h0 hk, (cntB_congr k fun i hi => isCap_mir h h0 (show i < n by omega)).2] at this
  rw [this]
  simp only [stq_mir]
end
end Lt
set_option maxRecDepth 100000
set_option maxHeartbeats 2000000
namespace Lt
set_option exponentiation.threshold 9000
open PySem (Str)
open LawT
end Lt
set_option maxRecDepth 100000
set_option maxHeartbeats 2000000
namespace Lt
set_option exponentiation.threshold 9000
open PySem (Str)
open LawT
end Lt
namespace Lt
set_option exponentiation.threshold 9000
end Lt
set_option maxRecDepth 100000
set_option maxHeartbeats 2000000
namespace Lt
set_option exponentiation.threshold 9000
open PySem (Str)
open LawT
inductive Way where
  | apart | joined | spans | chain
  deriving DecidableEq
section
variable {S : Store} {w : Way}
def Way.free : Way → Bool
  | .apart => true
  | .joined => true
  | _ => false
def Way.loose : Way → Bool
  | .apart => true
  | .spans => true
  | _ => false
end
section
variable {P : Prog} {F k : Nat} {S : Store} {E : XP}
/-- the number of pieces -/
noncomputable def cntW (w : Way) (rss : List (List Smp)) (q : Rat) : Nat := match w with
  | .apart => (rss.map (gP (2 * q))).sum
  | .joined => (rss.flatMap (telJ q)).length
  | .spans => (telF rss q false).length
  | .chain => (telF rss q true).length
def TelW (w : Way) (rss : List (List Smp)) (q : Rat) (S : Store) (te pa : Nat) : Prop := match w with
  | .apart => ∃ tel pap, getL S te = some (tel.map p4D) ∧ getL S pa = some (pap.map thD) ∧ RowT (2 * q) rss tel pap ∧ tel.length ≤ 9000 ∧ pap.length ≤ 9000
  | .joined => getL S te = some ((rss.flatMap (telJ q)).map p4D) ∧ getL S pa = some ((rss.flatMap (papJ q)).map thD) ∧ (rss.flatMap (telJ q)).length ≤ 10000 ∧ (rss.flatMap (papJ q)).length ≤ 10000
  | .spans => getL S te = some ((telF rss q false).map pcD) ∧ (telF rss q false).length ≤ 12000 ∧ ∃ ps, getL S pa = some (ps.map papD) ∧ PaP S ps (papF rss q false) ∧ (∀ p ∈ ps, pa < p.1 ∧ pa < p.2) ∧ Sep ps
  | .chain => getL S te = some ((telF rss q true).map pcD) ∧ (telF rss q true).length ≤ 12000 ∧ ∃ ps, getL S pa = some (ps.map papD) ∧ PaP S ps (papF rss q true) ∧ (∀ p ∈ ps, pa < p.1 ∧ pa < p.2) ∧ Sep ps
theorem TelW.len {w : Way} {rss : List (List Smp)} {q : Rat} {te pa : Nat} (h : TelW w rss q S te pa) : ∃ ds, getL S te = some ds ∧ ds.length = cntW w rss q ∧ ds.length ≤ 12000 := by
  cases w with
  | apart =>
    obtain ⟨tel, pap, h1, h2, h3, h4, h5⟩ := h
    refine ⟨_, h1, ?_, by simp; omega⟩
    rw [List.length_map]
    exact rowT_len h3
  | joined => exact ⟨_, h.1, by rw [List.length_map]; rfl, by simp only [List.length_map]; have := h.2.2.1; omega⟩
  | spans => exact ⟨_, h.1, by rw [List.length_map]; rfl, by simp only [List.length_map]; exact h.2.1⟩
  | chain => exact ⟨_, h.1, by rw [List.length_map]; rfl, by simp only [List.length_map]; exact h.2.1⟩
/-- a row of usual sizes -/
structure RowE (es : List Ent) : Prop where
  up : es.Pairwise fun a c => a.1 < c.1
  z : ∀ e ∈ es, ∀ q, e.2 = some q → SmB (e.1, q) ∧ Sz 230 q
  l : es.length ≤ 40
end
end Lt
set_option maxRecDepth 100000
set_option maxHeartbeats 2000000
namespace Lt
set_option exponentiation.threshold 9000
section
variable {f : Nat → Bool}
theorem cntB_le {a : Nat} : ∀ {b}, a ≤ b → cntB f a ≤ cntB f b
  | 0, h => by
    have : a = 0 := by omega
    subst this; exact Nat.le_refl _
  | b + 1, h => by
    by_cases e : a = b + 1
    · subst e; exact Nat.le_refl _
    · have := cntB_le (a := a) (b := b) (by omega)
      show cntB f a ≤ cntB f b + (if f b = true then 1 else 0)
      omega
theorem cntB_lt {a c b : Nat} (h1 : a ≤ c) (h2 : c < b) (hc : f c = true) : cntB f a < cntB f b := by
  have k1 := cntB_le (f := f) h1
  have k2 := cntB_le (f := f) (show c + 1 ≤ b from h2)
  have k3 : cntB f (c + 1) = cntB f c + 1 := by
    show cntB f c + (if f c = true then 1 else 0) = _
    rw [if_pos hc]
  omega
theorem lastB_no {lc : Nat} : ∀ {k}, (∀ c, lc < c → c < k → f c = false) → lastB f k ≤ lc
  | 0, _ => Nat.zero_le _
  | k + 1, h => by
    unfold lastB
    split
    · rename_i hk
      apply Classical.byContradiction
      intro z
      have := h k (by omega) (by omega)
      rw [this] at hk; cases hk
    · exact lastB_no fun c h1 h2 => h c h1 (by omega)
end
def ixM (us : List Smp) (m : Int) : Nat := us.findIdx fun s => decide (s.1 = m)
def smAt (us : List Smp) (m : Int) : Smp := sA us (ixM us m)
def hasM (us : List Smp) (m : Int) : Prop := ∃ s ∈ us, s.1 = m
def stT (us : List Smp) (t : T3) : Rat := stq (smAt us t.1) (smAt us t.2.1) (smAt us t.2.2)
/-- three rising moments of samples -/
structure InM (ts : List Smp) (t : T3) : Prop where
  a : hasM ts t.1
  b : hasM ts t.2.1
  c : hasM ts t.2.2
  ab : t.1 < t.2.1
  bc : t.2.1 < t.2.2
def kindQ (x : Rat) : Int := if 0 < x then 1 else if x < 0 then -1 else 0
/-- may not lie over one another -/
def Clash (w : Way) (x y : Rat) : Prop := w = .apart ∨ kindQ x = kindQ y
structure PapFree (w : Way) (rss : List (List Smp)) (b : Rat) (pap : List T3) : Prop where
  good : ∀ t ∈ pap, ∃ ts ∈ rss, InM ts t ∧ 2 * b < absQ (stT rss.flatten t)
  od : pap.Pairwise fun t t' => Clash w (stT rss.flatten t) (stT rss.flatten t') → t.2.2 ≤ t'.1
section
variable {ts : List Smp} {b : Rat}
theorem telJ_cnt : (telJ b ts).length = cntB (isCap b (sqA ts)) ts.length + cntB (isCup b (sqA ts)) ts.length + 1 := by
  rw [telJ_len, ends_cnt]
end
/-- rows' runs -/
structure RunsOk (rss : List (List Smp)) : Prop where
  up : rss.flatten.Pairwise fun a c => a.1 < c.1
  ne : ∀ ts ∈ rss, 1 ≤ ts.length
theorem RunsOk.run {rss : List (List Smp)} (h : RunsOk rss) {ts : List Smp} (ht : ts ∈ rss) : ts.Pairwise fun a c => a.1 < c.1 := h.up.sublist (List.sublist_flatten_of_mem ht)
theorem length_flatMap2 {α β : Type} {g : α → List β} : ∀ rs : List α, (rs.flatMap g).length = (rs.map fun r => (g r).length).sum
  | [] => rfl
  | r :: rs => by
    rw [List.flatMap_cons, List.length_append, length_flatMap2 rs]; rfl
end Lt
set_option maxRecDepth 100000
set_option maxHeartbeats 2000000
namespace Lt
set_option exponentiation.threshold 9000
section
variable {rss : List (List Smp)} {b : Rat}
/-- pieces of a run, tied -/
theorem pcF_len2 {ts : List Smp} {tied : Bool} (h1 : 1 ≤ ts.length) : (pcF ts b tied).length = max (gN (labF ts b tied) (cnt tied ts.length - 1)) 1 := by
  rw [pcF_count h1, (labF_spec h1).2]
theorem telF_len {rss : List (List Smp)} {q : Rat} {tied : Bool} : (telF rss q tied).length = (rss.map fun ts => (pcF ts q tied).length).sum := by
  unfold telF
  exact length_flatMap2 rss
end
end Lt
set_option maxRecDepth 100000
set_option maxHeartbeats 2000000
namespace Lt
set_option exponentiation.threshold 9000
open PySem (Str)
open LawT
def worW (w : Way) (x : Rat) : Rat := if w.free = true then absQ x * (1 / 2) else absQ x
end Lt
set_option maxRecDepth 100000
set_option maxHeartbeats 2000000
namespace Lt
set_option exponentiation.threshold 9000
open PySem (Str)
open LawT
section
variable {rss : List (List Smp)} {q : Rat} {w : Way} {S : Store} {te pa : Nat}
/-- a paper of threes worth at least a bound -/
structure PapGe (w : Way) (rss : List (List Smp)) (b : Rat) (pap : List T3) : Prop where
  good : ∀ t ∈ pap, ∃ ts ∈ rss, InM ts t ∧ 2 * b ≤ absQ (stT rss.flatten t) ∧ 0 < absQ (stT rss.flatten t)
  od : pap.Pairwise fun t t' => Clash w (stT rss.flatten t) (stT rss.flatten t') → t.2.2 ≤ t'.1
theorem PapGe.lt {b b' : Rat} {pap : List T3} (h : PapGe w rss b pap) (hb : b' < b) : PapFree w rss b' pap := ⟨fun t ht => by
  obtain ⟨ts, h1, h2, h3, h4⟩ := h.good t ht
  exact ⟨ts, h1, h2, by grind⟩, h.od⟩
theorem PapGe.sub {b : Rat} {pap p2 : List T3} (h : PapGe w rss b pap) (hs : p2.Sublist pap) : PapGe w rss b p2 := ⟨fun t ht => h.good t (hs.subset ht), h.od.sublist hs⟩
theorem InM.mono {ts us : List Smp} {t : T3} (h : InM ts t) (hs : ∀ s ∈ ts, s ∈ us) : InM us t := by
  have up : ∀ {m}, hasM ts m → hasM us m := fun ⟨s, h1, h2⟩ => ⟨s, hs s h1, h2⟩
  exact ⟨up h.a, up h.b, up h.c, h.ab, h.bc⟩
end
section
variable {P : Prog} {F k : Nat} {S : Store} {E : XP}
/-- nought, or what three of a run are worth -/
def IsWor (w : Way) (rss : List (List Smp)) (q : Rat) : Prop := q = 0 ∨ ∃ ts ∈ rss, ∃ a ∈ ts, ∃ c ∈ ts, ∃ d ∈ ts, a.1 < c.1 ∧ c.1 < d.1 ∧ q = worW w (stq a c d)
/-- the state of the search -/
structure LfreeP (w : Way) (rss : List (List Smp)) (most : Nat) (q : Rat) (pk : List T3) : Prop where
  nn : 0 ≤ q
  sz : Sz 180 q
  lo : ∀ b, 0 ≤ b → b < q → most < cntW w rss b
  wo : IsWor w rss q
  kp : (q = 0 ∧ pk = []) ∨ (most + 1 ≤ rss.length + pk.length ∧ PapGe w rss q pk ∧ 0 < q)
end
end Lt
set_option maxRecDepth 100000
set_option maxHeartbeats 2000000
namespace Lt
set_option exponentiation.threshold 9000
open PySem (Str)
open LawT
def MaxQ (ts : List Smp) (f l : Nat) (x : Rat) : Prop := (∃ k, f < k ∧ k < l ∧ x = msQ ts f l k) ∧ ∀ k, f < k → k < l → msQ ts f l k ≤ x
theorem MaxQ.gt {ts : List Smp} {f l : Nat} {x b : Rat} (h : MaxQ ts f l x) (hn : ¬ LeadQ ts f l b) : b < x := by
  apply Classical.byContradiction
  intro z
  exact hn fun k k1 k2 => Rat.le_trans (h.2 k k1 k2) (Rat.not_lt.mp z)
structure ShP (ts : List Smp) (tied : Bool) (ls : List Nat) (dn : Nat → Nat → Prop) (xs : List Rat) : Prop where
  a : ∀ x ∈ xs, ∃ s a, s < a ∧ a < ls.length ∧ jump ls s a = true ∧ epT tied a < ts.length ∧ MaxQ ts s (epT tied a) x
  b : ∀ s a, dn s a → s < a → a < ls.length → jump ls s a = true → ∃ x ∈ xs, MaxQ ts s (epT tied a) x
theorem ShP.iff {ts : List Smp} {tied : Bool} {ls : List Nat} {dn dn' : Nat → Nat → Prop} {xs : List Rat} (h : ShP ts tied ls dn xs) (e : ∀ s a, s < a → dn' s a → dn s a) : ShP ts tied ls dn' xs := ⟨h.a, fun s a d h1 h2 h3 => h.b s a (e s a h1 d) h1 h2 h3⟩
section
variable {P : Prog} {F k : Nat} {S : Store} {E : XP}
def TbL (S : Store) : List Nat → List (List Smp) → Prop
  | [], [] => True
  | t :: ts, r :: rs => (∃ kvs, getT S t = some kvs ∧ TbP r kvs) ∧ TbL S ts rs
  | _, _ => False
theorem TbL.len : ∀ {ts : List Nat} {rs : List (List Smp)}, TbL S ts rs → ts.length = rs.length
  | [], [], _ => rfl
  | _ :: _, _ :: _, h => by simp [TbL.len h.2]
theorem TbL.snoc {t : Nat} {r : List Smp} {kvs : List (List L2.Key × D)} (h1 : getT S t = some kvs) (h2 : TbP r kvs) : ∀ {ts : List Nat} {rs : List (List Smp)}, TbL S ts rs → TbL S (ts ++ [t]) (rs ++ [r])
  | [], [], _ => ⟨⟨kvs, h1, h2⟩, trivial⟩
  | _ :: _, _ :: _, h => ⟨h.1, TbL.snoc h1 h2 h.2⟩
theorem TbL.fr {S' : Store} {W : List Nat} (f : Fr W S S') : ∀ {ts : List Nat} {rs : List (List Smp)}, TbL S ts rs → (∀ t ∈ ts, t ∉ W) → TbL S' ts rs
  | [], [], _, _ => trivial
  | t :: ts, _ :: _, h, hn => ⟨by
      obtain ⟨kvs, h1, h2⟩ := h.1
      exact ⟨kvs, f.getT h1 (hn t (by simp)), h2⟩, TbL.fr f h.2 fun x hx => hn x (by simp [hx])⟩
theorem TbL.get : ∀ {ts : List Nat} {rs : List (List Smp)} {i : Nat} {t : Nat}, TbL S ts rs → ts[i]? = some t → ∃ r kvs, rs[i]? = some r ∧ getT S t = some kvs ∧ TbP r kvs
  | [], [], _, _, _, e => by simp at e
  | t :: ts, r :: rs, i, p, h, e => by
    cases i with
    | zero =>
      simp at e; subst e
      obtain ⟨kvs, h1, h2⟩ := h.1
      exact ⟨r, kvs, rfl, h1, h2⟩
    | succ i => simp at e; obtain ⟨x, kvs, h1, h2, h3⟩ := TbL.get h.2 e; exact ⟨x, kvs, by simpa using h1, h2, h3⟩
def Way.chn (w : Way) : Bool := decide (w = .chain)
theorem cntW_tied {w : Way} {rss : List (List Smp)} {q : Rat} (hw : w.free = false) (hne : ∀ ts ∈ rss, 1 ≤ ts.length) : cntW w rss q = (rss.map fun ts => max (gN (labF ts q w.chn) (cnt w.chn ts.length - 1)) 1).sum := by
  have key : ∀ tied, (telF rss q tied).length = (rss.map fun ts => max (gN (labF ts q tied) (cnt tied ts.length - 1)) 1).sum := fun tied => by
    rw [telF_len]
    congr 1
    exact List.map_congr_left fun ts hts => pcF_len2 (hne ts hts)
  cases w with
  | apart => cases hw
  | joined => cases hw
  | spans => exact key false
  | chain => exact key true
/-- what the jumps of some labels are worth -/
def JmpGe (rss : List (List Smp)) (tied : Bool) (q0 q : Rat) : Prop := ∀ ts ∈ rss, ∀ s a, s < a → a < cnt tied ts.length → jump (labF ts q0 tied) s a = true → ∃ x, MaxQ ts s (epT tied a) x ∧ q ≤ x
structure LtdP (w : Way) (rss : List (List Smp)) (most : Nat) (q : Rat) (o : Option Rat) : Prop where
  nn : 0 ≤ q
  sz : Sz 180 q
  lo : ∀ b, 0 ≤ b → b < q → most < cntW w rss b
  wo : IsWor w rss q
  bf : (q = 0 ∧ o = none) ∨ ∃ q0, o = some q0 ∧ 0 ≤ q0 ∧ q0 < q ∧ Sz 180 q0 ∧ most < cntW w rss q0 ∧ JmpGe rss w.chn q0 q
/-- the paper of the least -/
def PapLe (w : Way) (rss : List (List Smp)) (most : Nat) (q : Rat) (S : Store) (pa : Nat) : Prop := (w.free = true ∧ ∃ pk, getL S pa = some ((pk.take (most + 1 - rss.length)).map thD) ∧ LfreeP w rss most q pk) ∨ (w.free = false ∧ ∃ o, LtdP w rss most q o ∧ (o = none → getL S pa = some []) ∧ ∀ q0, o = some q0 → ∃ te, TelW w rss q0 S te pa)
structure LeastP (w : Way) (rss : List (List Smp)) (most : Nat) (q : Rat) : Prop where
  nn : 0 ≤ q
  sz : Sz 180 q
  lo : ∀ b, 0 ≤ b → b < q → most < cntW w rss b
  wo : IsWor w rss q
  up : cntW w rss q ≤ most
theorem TelW.ext {w : Way} {rss : List (List Smp)} {q : Rat} {te pa : Nat} {S S' : Store} (h : TelW w rss q S te pa) (e : Ext S S') : TelW w rss q S' te pa := by
  cases w with
  | apart =>
    obtain ⟨tel, pap, h1, h2, h3⟩ := h
    exact ⟨tel, pap, e.getL h1, e.getL h2, h3⟩
  | joined => exact ⟨e.getL h.1, e.getL h.2.1, h.2.2⟩
  | spans =>
    obtain ⟨h1, h2, ps, h3, h4, h5⟩ := h
    exact ⟨e.getL h1, h2, ps, e.getL h3, h4.fr (Fr.of e : Fr [] _ _) (fun p _ => by simp), h5⟩
  | chain =>
    obtain ⟨h1, h2, ps, h3, h4, h5⟩ := h
    exact ⟨e.getL h1, h2, ps, e.getL h3, h4.fr (Fr.of e : Fr [] _ _) (fun p _ => by simp), h5⟩
theorem PapLe.ext {w : Way} {rss : List (List Smp)} {most : Nat} {q : Rat} {pa : Nat} {S S' : Store} (h : PapLe w rss most q S pa) (e : Ext S S') : PapLe w rss most q S' pa := by
  rcases h with ⟨h1, pk, h2, h3⟩ | ⟨h1, o, h2, h3, h4⟩
  · exact .inl ⟨h1, pk, e.getL h2, h3⟩
  · exact .inr ⟨h1, o, h2, fun z => e.getL (h3 z), fun q0 z => by
      obtain ⟨te, ht⟩ := h4 q0 z
      exact ⟨te, ht.ext e⟩⟩
end
end Lt
set_option maxRecDepth 100000
set_option maxHeartbeats 2000000
namespace Lt
set_option exponentiation.threshold 9000
open PySem (Str)
open LawT
end Lt
set_option maxRecDepth 100000
set_option maxHeartbeats 2000000
namespace Lt
set_option exponentiation.threshold 9000
open PySem (Str)
open LawT
section
variable {hs : List EnI} {b bd : Int}
/-- the pieces of one run -/
noncomputable def cR (w : Way) (q : Rat) (ts : List Smp) : Nat := match w with
  | .apart => gP (2 * q) ts
  | .joined => (telJ q ts).length
  | .spans => max (gN (labF ts q false) (cnt false ts.length - 1)) 1
  | .chain => max (gN (labF ts q true) (cnt true ts.length - 1)) 1
theorem cntW_sum {w : Way} {rss : List (List Smp)} {q : Rat} (hne : ∀ ts ∈ rss, 1 ≤ ts.length) : cntW w rss q = (rss.map (cR w q)).sum := by
  cases w with
  | apart => rfl
  | joined =>
    show (rss.flatMap (telJ q)).length = _
    rw [List.length_flatMap]
    rfl
  | spans => exact cntW_tied (w := .spans) rfl hne
  | chain => exact cntW_tied (w := .chain) rfl hne
end
end Lt
set_option maxRecDepth 100000
set_option maxHeartbeats 2000000
namespace Lt
set_option exponentiation.threshold 9000
open PySem (Str)
open LawT
section
variable {P : Prog} {F k : Nat} {S : Store} {E : XP} {r : Nat} {es : List Ent} {m : Int}
def MaxO (f : Nat → Rat) (i : Nat) (o : Option Rat) : Prop := (i = 0 ∧ o = none) ∨ ∃ v, o = some v ∧ (∃ j, j < i ∧ v = f j) ∧ ∀ j, j < i → f j ≤ v
def MinO (f : Nat → Rat) (i : Nat) (o : Option Rat) : Prop := (i = 0 ∧ o = none) ∨ ∃ v, o = some v ∧ (∃ j, j < i ∧ v = f j) ∧ ∀ j, j < i → v ≤ f j
theorem MaxO.keep {f : Nat → Rat} {i : Nat} {v : Rat} (h : MaxO f i (some v)) (hl : f i ≤ v) : MaxO f (i + 1) (some v) := by
  rcases h with ⟨_, z⟩ | ⟨w, e, ⟨j, j1, j2⟩, k⟩
  · cases z
  · cases e
    exact .inr ⟨v, rfl, ⟨j, by omega, j2⟩, fun j' hj' => by
      by_cases z : j' = i
      · subst z; exact hl
      · exact k j' (by omega)⟩
theorem MaxO.take {f : Nat → Rat} {i : Nat} {o : Option Rat} (h : MaxO f i o) (hl : ∀ v, o = some v → v < f i) : MaxO f (i + 1) (some (f i)) := by
  refine .inr ⟨f i, rfl, ⟨i, by omega, rfl⟩, fun j hj => ?_⟩
  by_cases z : j = i
  · subst z; exact Rat.le_refl
  · rcases h with ⟨rfl, _⟩ | ⟨w, e, _, k⟩
    · omega
    · have := hl w e
      have := k j (by omega)
      grind
theorem MinO.keep {f : Nat → Rat} {i : Nat} {v : Rat} (h : MinO f i (some v)) (hl : v ≤ f i) : MinO f (i + 1) (some v) := by
  rcases h with ⟨_, z⟩ | ⟨w, e, ⟨j, j1, j2⟩, k⟩
  · cases z
  · cases e
    exact .inr ⟨v, rfl, ⟨j, by omega, j2⟩, fun j' hj' => by
      by_cases z : j' = i
      · subst z; exact hl
      · exact k j' (by omega)⟩
theorem MinO.take {f : Nat → Rat} {i : Nat} {o : Option Rat} (h : MinO f i o) (hl : ∀ v, o = some v → f i < v) : MinO f (i + 1) (some (f i)) := by
  refine .inr ⟨f i, rfl, ⟨i, by omega, rfl⟩, fun j hj => ?_⟩
  by_cases z : j = i
  · subst z; exact Rat.le_refl
  · rcases h with ⟨rfl, _⟩ | ⟨w, e, _, k⟩
    · omega
    · have := hl w e
      have := k j (by omega)
      grind
end
end Lt
set_option maxRecDepth 100000
set_option maxHeartbeats 2000000
namespace Lt
set_option exponentiation.threshold 9000
open PySem (Str)
open LawT
theorem RowE.sub {es fs : List Ent} (h : RowE es) (s : fs.Sublist es) : RowE fs := ⟨h.up.sublist s, fun e he => h.z e (s.subset he), Nat.le_trans s.length_le h.l⟩
theorem MaxO.uniq {f : Nat → Rat} {i : Nat} {v w : Rat} (h : MaxO f i (some v)) (h' : MaxO f i (some w)) : v = w := by
  rcases h with ⟨_, z⟩ | ⟨_, e, ⟨j, j1, rfl⟩, k⟩
  · cases z
  rcases h' with ⟨_, z⟩ | ⟨_, e', ⟨j', j1', rfl⟩, k'⟩
  · cases z
  cases e; cases e'
  have := k j' j1'
  have := k' j j1
  grind
theorem MinO.uniq {f : Nat → Rat} {i : Nat} {v w : Rat} (h : MinO f i (some v)) (h' : MinO f i (some w)) : v = w := by
  rcases h with ⟨_, z⟩ | ⟨_, e, ⟨j, j1, rfl⟩, k⟩
  · cases z
  rcases h' with ⟨_, z⟩ | ⟨_, e', ⟨j', j1', rfl⟩, k'⟩
  · cases z
  cases e; cases e'
  have := k j' j1'
  have := k' j j1
  grind
end Lt
set_option maxRecDepth 100000
set_option maxHeartbeats 2000000
namespace Lt
set_option exponentiation.threshold 9000
open PySem (Str)
open LawT
theorem foldl_base : ∀ (b : List Ent) (rs xs : List (List Ent)) (c : List Ent), b.foldl stepR (rs ++ xs, c) = (rs ++ (b.foldl stepR (xs, c)).1, (b.foldl stepR (xs, c)).2)
  | [], rs, xs, c => rfl
  | e :: b, rs, xs, c => by
    rw [List.foldl_cons, List.foldl_cons]
    have : stepR (rs ++ xs, c) e = (rs ++ (stepR (xs, c) e).1, (stepR (xs, c) e).2) := by
      unfold stepR
      by_cases h1 : e.2.isSome = true
      · simp [h1]
      · by_cases h2 : 0 < c.length
        · simp [h1, h2]
        · simp [h1, h2]
    rw [this]
    exact foldl_base b rs _ _
theorem runsF_app {a b : List Ent} (h : (foldR a).2 = []) : runsF (a ++ b) = runsF a ++ runsF b := by
  have ea : foldR a = ((foldR a).1, []) := by rw [← h]
  have e : foldR (a ++ b) = ((foldR a).1 ++ (foldR b).1, (foldR b).2) := by
    have := foldl_base b (foldR a).1 [] []
    rw [List.append_nil] at this
    show (a ++ b).foldl stepR ([], []) = _
    rw [List.foldl_append]
    show b.foldl stepR (foldR a) = _
    rw [ea]
    exact this
  unfold runsF
  rw [e, ea]
  unfold closeR
  by_cases h2 : 0 < (foldR b).2.length
  · simp [h2]
  · simp [h2]
theorem fold_gap {a : List Ent} {m : Int} : (foldR (a ++ [(m, none)])).2 = [] := by
  rw [foldR_snoc]
  unfold stepR
  by_cases h : 0 < (foldR a).2.length
  · simp [h]
  · simp [h]
    exact List.length_eq_zero_iff.mp (by omega)
/-- rows beside a gap mark -/
theorem runsF_gap {a b : List Ent} {m : Int} : runsF (a ++ (m, none) :: b) = runsF a ++ runsF b := by
  have e1 : a ++ (m, none) :: b = (a ++ [(m, none)]) ++ b := by simp
  rw [e1, runsF_app fold_gap]
  congr 1
  unfold runsF
  rw [foldR_snoc]
  unfold stepR closeR
  by_cases h : 0 < (foldR a).2.length
  · simp [h]
  · simp [h]
theorem sA_pre {ts pre : List Smp} {i : Nat} (h : i < ts.length) : sA (ts ++ pre) i = sA ts i := by
  unfold sA
  simp [List.getD, List.getElem?_append_left h]
theorem msQ_sA {ts : List Smp} {f l k : Nat} : msQ ts f l k = absQ (stq (sA ts f) (sA ts k) (sA ts l)) := rfl
theorem sA_up {us : List Smp} (hup : us.Pairwise fun a c => a.1 < c.1) {i j : Nat} (hij : i < j) (hj : j < us.length) : (sA us i).1 < (sA us j).1 := by
  have hi : i < us.length := by omega
  have := List.pairwise_iff_getElem.mp hup i j hi hj hij
  unfold sA
  simpa [List.getD, hi, hj] using this
end Lt
set_option maxRecDepth 100000
set_option maxHeartbeats 2000000
namespace Lt
set_option exponentiation.threshold 9000
open PySem (Str)
open LawT
section
variable {ts pre : List Smp} {q : Rat}
theorem sqA_inc {us : List Smp} (hup : us.Pairwise fun a c => a.1 < c.1) : Inc (sqA us) us.length := fun i j hij hj => sA_up hup hij hj
end
end Lt
set_option maxRecDepth 100000
set_option maxHeartbeats 2000000
namespace Lt
set_option exponentiation.threshold 9000
open PySem (Str)
open LawT
section
variable {L : Nat → Nat → Prop} {ls : List Nat}
theorem lab_le (h : LabP L ls) {f : Nat → Nat} (hf : ∀ a, 1 ≤ a → a < ls.length → ∃ s, s < a ∧ L s a ∧ f s + 1 ≤ f a) : ∀ a, a < ls.length → gN ls a ≤ f a := by
  intro a
  induction a using Nat.strongRecOn with
  | ind a ih =>
    intro ha
    by_cases h0 : a = 0
    · subst h0; rw [h.1]; exact Nat.zero_le _
    · obtain ⟨s, h1, h2, h3⟩ := hf a (by omega) ha
      have := ih s h1 (by omega)
      have := (h.2 a (by omega) ha).2 s h1 h2
      omega
end
section
variable {u v : List Smp} {q sp : Rat} {s a : Nat}
theorem sA_suf {i : Nat} : sA (u ++ v) (u.length + i) = sA v i := by
  unfold sA
  simp [List.getD, List.getElem?_append_right]
theorem leadJ_pre (ha : a < u.length) : LeadQ (u ++ v) s a q ↔ LeadQ u s a q := by
  have key : ∀ k, s < k → k < a → msQ (u ++ v) s a k = msQ u s a k := fun k h1 h2 => by
    rw [msQ_sA, msQ_sA, sA_pre (by omega), sA_pre (by omega), sA_pre ha]
  constructor
  · intro h k h1 h2; rw [← key k h1 h2]; exact h k h1 h2
  · intro h k h1 h2; rw [key k h1 h2]; exact h k h1 h2
theorem leadJ_suf : LeadQ (u ++ v) (u.length + s) (u.length + a) q ↔ LeadQ v s a q := by
  constructor
  · intro h k h1 h2
    have := h (u.length + k) (by omega) (by omega)
    rw [msQ_sA, sA_suf, sA_suf, sA_suf] at this
    exact this
  · intro h k h1 h2
    obtain ⟨j, rfl⟩ : ∃ j, k = u.length + j := ⟨k - u.length, by omega⟩
    rw [msQ_sA, sA_suf, sA_suf, sA_suf]
    exact h j (by omega) (by omega)
theorem seg_pre (h : a ≤ u.length) : seg (u ++ v) s a = seg u s a := by
  unfold seg
  rw [List.take_append_of_le_length h]
theorem seg_suf : seg (u ++ v) (u.length + s) (u.length + a) = seg v s a := by
  unfold seg
  rw [List.take_length_add_append, List.drop_length_add_append]
theorem tied_cut {tied : Bool} (hu : 1 ≤ u.length) (hv : 1 ≤ v.length) : (pcF (u ++ v) q tied).length ≤ (pcF u q tied).length + (pcF v q tied).length + (if tied = true then 1 else 0) := by
  have hl : (u ++ v).length = u.length + v.length := List.length_append
  obtain ⟨h, hn⟩ := labF_spec (q := q) (tied := tied) (ts := u ++ v) (by omega)
  obtain ⟨h1, hn1⟩ := labF_spec (q := q) (tied := tied) hu
  obtain ⟨h2, hn2⟩ := labF_spec (q := q) (tied := tied) hv
  rw [pcF_len2 (by omega), pcF_len2 hu, pcF_len2 hv]
  generalize labF (u ++ v) q tied = ls at *
  generalize labF u q tied = lu at *
  generalize labF v q tied = lv at *
  cases tied with
  | false =>
    simp only [cnt, Bool.false_eq_true, if_false] at hn hn1 hn2 ⊢
    have := lab_le h (f := fun a => if a ≤ u.length then gN lu a else gN lu u.length + gN lv (a - u.length)) (fun a a1 a2 => by
      by_cases c : a ≤ u.length
      · obtain ⟨⟨s, s1, s2, s3⟩, _⟩ := h1.2 a a1 (by omega)
        refine ⟨s, s1, (leadJ_pre (show a - 1 < u.length by omega)).mpr s2, ?_⟩
        try simp only
        rw [if_pos c, if_pos (by omega), s3]
        exact Nat.le_refl _
      · obtain ⟨⟨s, s1, s2, s3⟩, _⟩ := h2.2 (a - u.length) (by omega) (by omega)
        refine ⟨u.length + s, by omega, ?_, ?_⟩
        · have := (leadJ_suf (u := u) (v := v) (s := s) (a := a - u.length - 1) (q := q)).mpr s2
          rw [show u.length + (a - u.length - 1) = a - 1 by omega] at this
          exact this
        · try simp only
          rw [if_neg c, s3]
          by_cases c0 : s = 0
          · subst c0
            rw [if_pos (by omega), h2.1]
            simp
          · rw [if_neg (by omega), show u.length + s - u.length = s by omega]
            omega) (u.length + v.length) (by omega)
    try simp only at this
    rw [if_neg (by omega), show u.length + v.length - u.length = v.length by omega] at this
    rw [hl, show u.length + v.length + 1 - 1 = u.length + v.length by omega, show u.length + 1 - 1 = u.length by omega, show v.length + 1 - 1 = v.length by omega]
    omega
  | true =>
    simp only [cnt, if_true] at hn hn1 hn2 ⊢
    have := lab_le h (f := fun a => if a < u.length then gN lu a else gN lu (u.length - 1) + 1 + gN lv (a - u.length)) (fun a a1 a2 => by
      by_cases c : a < u.length
      · obtain ⟨⟨s, s1, s2, s3⟩, _⟩ := h1.2 a a1 (by omega)
        refine ⟨s, s1, (leadJ_pre (show a < u.length by omega)).mpr s2, ?_⟩
        try simp only
        rw [if_pos c, if_pos (by omega), s3]
        exact Nat.le_refl _
      · by_cases c0 : a = u.length
        · subst c0
          refine ⟨u.length - 1, by omega, ?_, ?_⟩
          · intro k k1 k2
            have k2 : k < u.length := k2
            omega
          · try simp only
            rw [if_neg c, if_pos (by omega), Nat.sub_self, h2.1]
            exact Nat.le_refl _
        · obtain ⟨⟨s, s1, s2, s3⟩, _⟩ := h2.2 (a - u.length) (by omega) (by omega)
          refine ⟨u.length + s, by omega, ?_, ?_⟩
          · have := (leadJ_suf (u := u) (v := v) (s := s) (a := a - u.length) (q := q)).mpr s2
            rw [show u.length + (a - u.length) = a by omega] at this
            exact this
          · try simp only
            rw [if_neg c, s3, if_neg (by omega), show u.length + s - u.length = s by omega]
            omega) (u.length + v.length - 1) (by omega)
    try simp only at this
    rw [if_neg (by omega), show u.length + v.length - 1 - u.length = v.length - 1 by omega] at this
    rw [hl]
    omega
theorem gP_cut_le : gP sp (u ++ v) ≤ gP sp u + gP sp v := by
  have hl : (u ++ v).length = u.length + v.length := List.length_append
  have key : ∀ a, a ≤ u.length + v.length → gP sp ((u ++ v).take a) ≤ if a ≤ u.length then gP sp (u.take a) else gP sp u + gP sp (v.take (a - u.length)) := by
    intro a
    induction a using Nat.strongRecOn with
    | ind a ih =>
      intro ha
      by_cases c : a ≤ u.length
      · rw [if_pos c, List.take_append_of_le_length c]
        exact Nat.le_refl _
      · rw [if_neg c]
        obtain ⟨st, W⟩ := grw (sp := sp) (ts := v) (a - u.length) (by omega) (by omega)
        obtain ⟨st', W'⟩ := grw (sp := sp) (ts := u ++ v) a (by omega) (by omega)
        have w1 := W.lt
        have i1 := ih (u.length + st) (by omega) (by omega)
        have g : Borne sp (seg (u ++ v) (u.length + st) a) := by
          have := W.good
          rw [← seg_suf (u := u)] at this
          rw [show u.length + (a - u.length) = a by omega] at this
          exact this
        have l1 := W'.least (u.length + st) (by omega) g
        have c1 := W.cnt
        by_cases c0 : st = 0
        · subst c0
          rw [if_pos (by omega)] at i1
          simp only [Nat.add_zero, List.take_length] at i1 l1
          rw [List.take_zero, gP_nil] at c1
          omega
        · rw [if_neg (by omega), show u.length + st - u.length = st by omega] at i1
          omega
  have := key (u.length + v.length) (Nat.le_refl _)
  rw [← hl, List.take_length] at this
  by_cases c : v = []
  · subst c
    simp [gP_nil]
  · have : 0 < v.length := List.length_pos_iff.mpr c
    rw [if_neg (by omega), show (u ++ v).length - u.length = v.length by omega, List.take_length] at *
    assumption
theorem gP_cut_ge : gP sp u + gP sp v ≤ gP sp (u ++ v) + 1 := by
  have hl : (u ++ v).length = u.length + v.length := List.length_append
  have key : ∀ a, a ≤ u.length + v.length → (if a ≤ u.length then gP sp (u.take a) else gP sp u + gP sp (v.take (a - u.length)) - 1) ≤ gP sp ((u ++ v).take a) := by
    intro a
    induction a using Nat.strongRecOn with
    | ind a ih =>
      intro ha
      by_cases c : a ≤ u.length
      · rw [if_pos c, List.take_append_of_le_length c]
        exact Nat.le_refl _
      · rw [if_neg c]
        obtain ⟨st, W⟩ := grw (sp := sp) (ts := u ++ v) a (by omega) (by omega)
        obtain ⟨sv, V⟩ := grw (sp := sp) (ts := v) (a - u.length) (by omega) (by omega)
        have w1 := W.lt
        have i1 := ih st (by omega) (by omega)
        have c1 := W.cnt
        have g := W.good
        by_cases c0 : u.length < st
        · have g2 : Borne sp (seg v (st - u.length) (a - u.length)) := by
            rw [← seg_suf (u := u), show u.length + (st - u.length) = st by omega, show u.length + (a - u.length) = a by omega]
            exact g
          have l1 := V.least (st - u.length) (by omega) g2
          rw [if_neg (by omega)] at i1
          obtain ⟨sw, X⟩ := grw (sp := sp) (ts := v) (st - u.length) (by omega) (by omega)
          have := X.cnt
          omega
        · have g2 : Borne sp (seg v 0 (a - u.length)) := by
            rw [← seg_suf (u := u), Nat.add_zero, show u.length + (a - u.length) = a by omega]
            exact borne_seg g (by omega) (Nat.le_refl _)
          have l1 := V.least 0 (by omega) g2
          rw [List.take_zero, gP_nil] at l1
          rw [if_pos (by omega)] at i1
          by_cases c2 : st = u.length
          · subst c2
            rw [List.take_length] at i1
            omega
          · obtain ⟨su, U⟩ := grw (sp := sp) (ts := u) u.length (by omega) (Nat.le_refl _)
            have g3 : Borne sp (seg u st u.length) := by
              rw [← seg_pre (v := v) (Nat.le_refl _)]
              exact borne_seg g (Nat.le_refl _) (by omega)
            have l2 := U.least st (by omega) g3
            rw [List.take_length] at l2
            omega
  have := key (u.length + v.length) (Nat.le_refl _)
  rw [← hl, List.take_length] at this
  by_cases c : v = []
  · subst c
    simp [gP_nil]
  · have : 0 < v.length := List.length_pos_iff.mpr c
    rw [if_neg (by omega), show (u ++ v).length - u.length = v.length by omega, List.take_length] at *
    omega
end
abbrev P3 := Nat × Nat × Nat
section
variable {f fu fv : Nat → Bool} {C Cu Cv : Nat → Nat → Nat → Prop} {n m : Nat}
/-- f marks where a greedy walk finds the next three -/
def GreB (f : Nat → Bool) (C : Nat → Nat → Nat → Prop) (n : Nat) : Prop := ∀ k, k < n → (f k = true ↔ ∃ i j, lastB f k ≤ i ∧ i < j ∧ j < k ∧ C i j k)
def Dis (ps : List P3) : Prop := ps.Pairwise fun p p' => p.2.2 ≤ p'.1
theorem gre_max (h : GreB f C n) : ∀ (ps : List P3) (lc m : Nat), lc < n → m ≤ cntB f (lc + 1) → (∀ p ∈ ps, lc ≤ p.1 ∧ Rise3 n p ∧ C p.1 p.2.1 p.2.2) → Dis ps → m + ps.length ≤ cntB f n
  | [], lc, m, hl, hm, _, _ => by
    have := cntB_le (f := f) (show lc + 1 ≤ n from hl)
    simp; omega
  | p :: ps, lc, m, hl, hm, hp, hpw => by
    obtain ⟨p1, ⟨r1, r2, r3⟩, p3⟩ := hp p (by simp)
    obtain ⟨hp1, hp2⟩ := List.pairwise_cons.mp hpw
    have hs : m + 1 ≤ cntB f (p.2.2 + 1) := by
      apply Classical.byContradiction
      intro z
      have no : ∀ c, lc < c → c < p.2.2 + 1 → f c = false := fun c c1 c2 => by
        cases hc : f c with
        | false => rfl
        | true =>
          have := cntB_lt (f := f) (a := lc + 1) (b := p.2.2 + 1) c1 c2 hc
          omega
      have hlb := lastB_no (f := f) (lc := lc) (k := p.2.2) fun c c1 c2 => no c c1 (by omega)
      have := (h p.2.2 r3).mpr ⟨p.1, p.2.1, by omega, r1, r2, p3⟩
      rw [no p.2.2 (by omega) (by omega)] at this
      cases this
    have := gre_max h ps p.2.2 (m + 1) r3 hs (fun q hq => ⟨hp1 q hq, (hp q (by simp [hq])).2⟩) hp2
    simp; omega
theorem gre_ex (h : GreB f C n) : ∀ k, k ≤ n → ∃ ps : List P3, ps.length = cntB f k ∧ Dis ps ∧ ∀ p ∈ ps, Rise3 k p ∧ C p.1 p.2.1 p.2.2 ∧ p.2.2 ≤ lastB f k
  | 0, _ => ⟨[], rfl, List.Pairwise.nil, fun p hp => (nomatch hp)⟩
  | k + 1, hk => by
    obtain ⟨ps, h1, h2, h3⟩ := gre_ex h k (by omega)
    by_cases hf : f k = true
    · obtain ⟨i, j, a1, a2, a3, a4⟩ := (h k (by omega)).mp hf
      refine ⟨ps ++ [(i, j, k)], ?_, ?_, ?_⟩
      · rw [List.length_append, h1]
        show _ = cntB f k + (if f k = true then 1 else 0)
        rw [if_pos hf]
        rfl
      · refine List.pairwise_append.mpr ⟨h2, List.pairwise_singleton _ _, fun p hp x hx => ?_⟩
        rw [List.mem_singleton] at hx
        subst hx
        have := (h3 p hp).2.2
        try simp only
        omega
      · intro p hp
        unfold lastB
        rw [if_pos hf]
        rcases List.mem_append.mp hp with z | z
        · obtain ⟨⟨b1, b2, b3⟩, b4, b5⟩ := h3 p z
          exact ⟨⟨b1, b2, by omega⟩, b4, by omega⟩
        · rw [List.mem_singleton] at z
          subst z
          exact ⟨⟨a2, a3, by simp⟩, a4, Nat.le_refl _⟩
    · refine ⟨ps, ?_, h2, fun p hp => ?_⟩
      · show _ = cntB f k + (if f k = true then 1 else 0)
        rw [if_neg hf, h1]
        rfl
      · obtain ⟨⟨b1, b2, b3⟩, b4, b5⟩ := h3 p hp
        unfold lastB
        rw [if_neg hf]
        exact ⟨⟨b1, b2, by omega⟩, b4, b5⟩
theorem dis_split (n : Nat) : ∀ {ps : List P3}, Dis ps → ps.length ≤ (ps.filter fun p => decide (p.2.2 < n)).length + (ps.filter fun p => decide (n ≤ p.1)).length + 1
  | [], _ => by simp
  | p :: ps, h => by
    obtain ⟨h1, h2⟩ := List.pairwise_cons.mp h
    by_cases c : p.2.2 < n
    · have := dis_split n h2
      rw [List.filter_cons_of_pos (by simpa using c), List.length_cons, List.length_cons]
      have : (ps.filter fun p => decide (n ≤ p.1)).length ≤ ((p :: ps).filter fun p => decide (n ≤ p.1)).length := by
        rw [List.filter_cons]
        split <;> simp
      omega
    · have e : (ps.filter fun p => decide (n ≤ p.1)) = ps := List.filter_eq_self.mpr fun q hq => by
        have := h1 q hq
        simp; omega
      have : (ps.filter fun p => decide (n ≤ p.1)).length ≤ ((p :: ps).filter fun p => decide (n ≤ p.1)).length := by
        rw [List.filter_cons]
        split <;> simp
      rw [e] at this
      rw [List.length_cons]
      omega
theorem gre_cut (hn : 1 ≤ n) (hm : 1 ≤ m) (h : GreB f C (n + m)) (hu : GreB fu Cu n) (hv : GreB fv Cv m) (eu : ∀ i j k, i < j → j < k → k < n → (C i j k ↔ Cu i j k)) (ev : ∀ i j k, i < j → j < k → k < m → (C (n + i) (n + j) (n + k) ↔ Cv i j k)) : cntB fu n + cntB fv m ≤ cntB f (n + m) ∧ cntB f (n + m) ≤ cntB fu n + cntB fv m + 1 := by
  constructor
  · obtain ⟨pu, a1, a2, a3⟩ := gre_ex hu n (Nat.le_refl _)
    obtain ⟨pv, b1, b2, b3⟩ := gre_ex hv m (Nat.le_refl _)
    have := gre_max h (pu ++ pv.map fun p => (n + p.1, n + p.2.1, n + p.2.2)) 0 0 (by omega) (Nat.zero_le _) (fun p hp => by
      rcases List.mem_append.mp hp with z | z
      · obtain ⟨⟨r1, r2, r3⟩, c, _⟩ := a3 p z
        exact ⟨Nat.zero_le _, ⟨r1, r2, by omega⟩, (eu _ _ _ r1 r2 r3).mpr c⟩
      · obtain ⟨p', z', rfl⟩ := List.mem_map.mp z
        obtain ⟨⟨r1, r2, r3⟩, c, _⟩ := b3 p' z'
        exact ⟨Nat.zero_le _, ⟨by (try simp only); omega, by (try simp only); omega, by (try simp only); omega⟩, (ev _ _ _ r1 r2 r3).mpr c⟩) (by
      refine List.pairwise_append.mpr ⟨a2, ?_, fun p hp x hx => ?_⟩
      · rw [List.pairwise_map]
        exact b2.imp fun h => by (try simp only); omega
      · obtain ⟨p', z', rfl⟩ := List.mem_map.mp hx
        have := (a3 p hp).1.2.2
        try simp only
        omega)
    rw [List.length_append, List.length_map, a1, b1] at this
    omega
  · obtain ⟨ps, a1, a2, a3⟩ := gre_ex h (n + m) (Nat.le_refl _)
    have s := dis_split n a2
    have k1 := gre_max hu (ps.filter fun p => decide (p.2.2 < n)) 0 0 (by omega) (Nat.zero_le _) (fun p hp => by
      obtain ⟨z, hz⟩ := List.mem_filter.mp hp
      have hz := of_decide_eq_true hz
      obtain ⟨⟨r1, r2, r3⟩, c, _⟩ := a3 p z
      exact ⟨Nat.zero_le _, ⟨r1, r2, hz⟩, (eu _ _ _ r1 r2 hz).mp c⟩) (a2.sublist List.filter_sublist)
    have k2 := gre_max hv ((ps.filter fun p => decide (n ≤ p.1)).map fun p => (p.1 - n, p.2.1 - n, p.2.2 - n)) 0 0 (by omega) (Nat.zero_le _) (fun p hp => by
      obtain ⟨p', z', rfl⟩ := List.mem_map.mp hp
      obtain ⟨z, hz⟩ := List.mem_filter.mp z'
      have hz := of_decide_eq_true hz
      obtain ⟨⟨r1, r2, r3⟩, c, _⟩ := a3 p' z
      refine ⟨Nat.zero_le _, ⟨by (try simp only); omega, by (try simp only); omega, by (try simp only); omega⟩, (ev _ _ _ (by (try simp only); omega) (by (try simp only); omega) (by (try simp only); omega)).mp ?_⟩
      try simp only
      rw [show n + (p'.1 - n) = p'.1 by omega, show n + (p'.2.1 - n) = p'.2.1 by omega, show n + (p'.2.2 - n) = p'.2.2 by omega]
      exact c) (by
      unfold Dis
      rw [List.pairwise_map]
      exact (a2.sublist List.filter_sublist).imp fun h => by (try simp only); omega)
    rw [List.length_map] at k2
    omega
end
section
variable {u v : List Smp} {q : Rat}
theorem joined_cut (hup : (u ++ v).Pairwise fun a c => a.1 < c.1) (h0 : 0 ≤ q) (hu : 1 ≤ u.length) (hv : 1 ≤ v.length) : (telJ q (u ++ v)).length ≤ (telJ q u).length + (telJ q v).length + 1 ∧ (telJ q u).length + (telJ q v).length ≤ (telJ q (u ++ v)).length + 1 := by
  have hl : (u ++ v).length = u.length + v.length := List.length_append
  obtain ⟨p1, p2, p3⟩ := List.pairwise_append.mp hup
  have I := sqA_inc hup
  have I1 := sqA_inc p1
  have I2 := sqA_inc p2
  rw [telJ_cnt, telJ_cnt, telJ_cnt, hl]
  rw [hl] at I
  have e1 : ∀ i, i < u.length → sqA (u ++ v) i = sqA u i := fun i hi => sA_pre hi
  have e2 : ∀ i, sqA (u ++ v) (u.length + i) = sqA v i := fun i => sA_suf
  have c1 := gre_cut (f := isCap q (sqA (u ++ v))) (fu := isCap q (sqA u)) (fv := isCap q (sqA v)) (C := fun i j k => 2 * q < stq (sqA (u ++ v) i) (sqA (u ++ v) j) (sqA (u ++ v) k)) (Cu := fun i j k => 2 * q < stq (sqA u i) (sqA u j) (sqA u k)) (Cv := fun i j k => 2 * q < stq (sqA v i) (sqA v j) (sqA v k)) hu hv (fun k hk => cap_iff I h0 hk) (fun k hk => cap_iff I1 h0 hk) (fun k hk => cap_iff I2 h0 hk)
    (fun i j k a b c => by (try simp only); rw [e1 i (by omega), e1 j (by omega), e1 k c]) (fun i j k a b c => by (try simp only); rw [e2, e2, e2])
  have c2 := gre_cut (f := isCup q (sqA (u ++ v))) (fu := isCup q (sqA u)) (fv := isCup q (sqA v)) (C := fun i j k => 2 * q < -stq (sqA (u ++ v) i) (sqA (u ++ v) j) (sqA (u ++ v) k)) (Cu := fun i j k => 2 * q < -stq (sqA u i) (sqA u j) (sqA u k)) (Cv := fun i j k => 2 * q < -stq (sqA v i) (sqA v j) (sqA v k)) hu hv (fun k hk => cup_iff I h0 hk) (fun k hk => cup_iff I1 h0 hk) (fun k hk => cup_iff I2 h0 hk)
    (fun i j k a b c => by (try simp only); rw [e1 i (by omega), e1 j (by omega), e1 k c]) (fun i j k a b c => by (try simp only); rw [e2, e2, e2])
  omega
theorem cR_cut {w : Way} (hup : (u ++ v).Pairwise fun a c => a.1 < c.1) (h0 : 0 ≤ q) (hu : 1 ≤ u.length) (hv : 1 ≤ v.length) : cR w q (u ++ v) ≤ cR w q u + cR w q v + (if w.loose = true then 0 else 1) ∧ (w.free = true → cR w q u + cR w q v ≤ cR w q (u ++ v) + 1) := by
  cases w with
  | apart => exact ⟨gP_cut_le, fun _ => gP_cut_ge⟩
  | joined => exact ⟨(joined_cut hup h0 hu hv).1, fun _ => (joined_cut hup h0 hu hv).2⟩
  | spans =>
    have := tied_cut (q := q) (tied := false) hu hv
    rw [pcF_len2 (by rw [List.length_append]; omega), pcF_len2 hu, pcF_len2 hv] at this
    exact ⟨this, fun z => (nomatch z)⟩
  | chain =>
    have := tied_cut (q := q) (tied := true) hu hv
    rw [pcF_len2 (by rw [List.length_append]; omega), pcF_len2 hu, pcF_len2 hv] at this
    exact ⟨this, fun z => (nomatch z)⟩
end
theorem cntW_append {w : Way} {a b : List (List Smp)} {q : Rat} : cntW w (a ++ b) q = cntW w a q + cntW w b q := by
  cases w with
  | apart => simp [cntW]
  | joined => simp [cntW]
  | spans => simp [cntW, telF]
  | chain => simp [cntW, telF]
theorem cntW_one {w : Way} {u : List Smp} {q : Rat} (h : 1 ≤ u.length) : cntW w [u] q = cR w q u := by
  rw [cntW_sum (by simpa using h)]
  simp
def MeetE (L R : List Ent) : Prop := (∃ e, L.getLast? = some e ∧ e.2.isSome = true) ∧ ∃ e, R.head? = some e ∧ e.2.isSome = true
theorem run_uni : ∀ more : List Ent, ∃ pre rest, ∀ c, c ≠ [] → closeR (more.foldl stepR ([], c)) = (c ++ pre) :: rest
  | [] => ⟨[], [], fun c hc => by
    have : 0 < c.length := List.length_pos_iff.mpr hc
    unfold closeR
    simp [this]⟩
  | e :: more => by
    by_cases h1 : e.2.isSome = true
    · obtain ⟨pre, rest, h2⟩ := run_uni more
      refine ⟨e :: pre, rest, fun c hc => ?_⟩
      have : stepR ([], c) e = ([], c ++ [e]) := by unfold stepR; simp [h1]
      rw [List.foldl_cons, this, h2 _ (by simp)]
      simp
    · refine ⟨[], runsF more, fun c hc => ?_⟩
      have hl : 0 < c.length := List.length_pos_iff.mpr hc
      have : stepR ([], c) e = ([c], []) := by unfold stepR; simp [h1, hl]
      rw [List.foldl_cons, this]
      have e2 := foldl_base more [c] [] []
      rw [List.append_nil] at e2
      rw [e2]
      unfold runsF foldR closeR
      by_cases h2 : 0 < (more.foldl stepR ([], [])).2.length
      · simp [h2]
      · simp [h2]
theorem runs_meet (L R : List Ent) : (¬ MeetE L R → runsF (L ++ R) = runsF L ++ runsF R) ∧ (MeetE L R → ∃ A u v B, runsF L = A ++ [u] ∧ runsF R = v :: B ∧ runsF (L ++ R) = A ++ (u ++ v) :: B ∧ u ≠ [] ∧ v ≠ []) := by
  have gapR : ∀ (e : Ent) (R' : List Ent), e.2.isSome = false → runsF (e :: R') = runsF R' := fun e R' h => by
    obtain ⟨m, x⟩ := e
    cases x with
    | some _ => cases h
    | none => exact runsF_gap (a := []) (b := R') (m := m)
  rcases L.eq_nil_or_concat with rfl | ⟨L', e, rfl⟩
  · exact ⟨fun _ => rfl, fun h => by obtain ⟨⟨e, z, _⟩, _⟩ := h; cases z⟩
  · rw [List.concat_eq_append]
    by_cases he : e.2.isSome = true
    · have ef : foldR (L' ++ [e]) = ((foldR L').1, (foldR L').2 ++ [e]) := by
        rw [foldR_snoc]
        unfold stepR
        rw [if_pos he]
      have hc : (foldR L').2 ++ [e] ≠ [] := by simp
      have eL : runsF (L' ++ [e]) = (foldR L').1 ++ [(foldR L').2 ++ [e]] := by
        unfold runsF
        rw [ef]
        unfold closeR
        simp
      cases R with
      | nil => exact ⟨fun _ => by rw [List.append_nil]; simp [runsF, foldR, closeR], fun h => by obtain ⟨_, e, z, _⟩ := h; cases z⟩
      | cons g R' =>
        by_cases hg : g.2.isSome = true
        · refine ⟨fun h => absurd ⟨⟨e, by simp, he⟩, g, rfl, hg⟩ h, fun _ => ?_⟩
          obtain ⟨pre, rest, hu⟩ := run_uni R'
          refine ⟨(foldR L').1, (foldR L').2 ++ [e], g :: pre, rest, eL, ?_, ?_, hc, by simp⟩
          · unfold runsF foldR
            rw [List.foldl_cons]
            have : stepR ([], []) g = ([], [g]) := by unfold stepR; simp [hg]
            rw [this, hu _ (by simp)]
            rfl
          · have ee : foldR (L' ++ [e] ++ g :: R') = (g :: R').foldl stepR (foldR (L' ++ [e])) := by
              unfold foldR
              rw [List.foldl_append]
            show closeR (foldR (L' ++ [e] ++ g :: R')) = _
            rw [ee, ef, List.foldl_cons]
            have : stepR ((foldR L').1, (foldR L').2 ++ [e]) g = ((foldR L').1 ++ [], (foldR L').2 ++ [e] ++ [g]) := by unfold stepR; simp [hg]
            rw [this, foldl_base]
            have h2 := hu ((foldR L').2 ++ [e] ++ [g]) (by simp)
            unfold closeR at h2 ⊢
            by_cases h3 : 0 < (List.foldl stepR ([], (foldR L').2 ++ [e] ++ [g]) R').2.length
            · rw [if_pos h3] at h2
              simp only [h3, if_true]
              rw [List.append_assoc, h2]
              simp
            · rw [if_neg h3] at h2
              simp only [h3, if_false]
              rw [h2]
              simp
        · refine ⟨fun _ => ?_, fun h => ?_⟩
          · have hg' : g.2.isSome = false := by simpa using hg
            obtain ⟨m, x⟩ := g
            cases x with
            | some _ => cases hg'
            | none => rw [runsF_gap, gapR _ _ rfl]
          · obtain ⟨_, e', z, z'⟩ := h
            cases z
            exact absurd z' hg
    · refine ⟨fun _ => runsF_app ?_, fun h => ?_⟩
      · obtain ⟨m, x⟩ := e
        cases x with
        | some _ => exact absurd rfl he
        | none => exact fold_gap
      · obtain ⟨⟨e', z, z'⟩, _⟩ := h
        simp at z
        subst z
        exact absurd z' he
theorem sruns_gap {a b : List Ent} {m : Int} : sruns (a ++ (m, none) :: b) = sruns a ++ sruns b := by
  unfold sruns
  rw [runsF_gap, List.map_append]
/-- the count of two rows put together -/
theorem row_cut {w : Way} {L R : List Ent} {q : Rat} (hup : (L ++ R).Pairwise fun a c => a.1 < c.1) (h0 : 0 ≤ q) : (¬ MeetE L R → cntW w (sruns (L ++ R)) q = cntW w (sruns L) q + cntW w (sruns R) q) ∧ cntW w (sruns (L ++ R)) q ≤ cntW w (sruns L) q + cntW w (sruns R) q + (if w.loose = true then 0 else 1) ∧ (w.free = true → cntW w (sruns L) q + cntW w (sruns R) q ≤ cntW w (sruns (L ++ R)) q + 1) := by
  obtain ⟨h1, h2⟩ := runs_meet L R
  by_cases hm : MeetE L R
  · obtain ⟨A, u, v, B, e1, e2, e3, hu, hv⟩ := h2 hm
    have hu1 : 1 ≤ (u.map smE).length := by rw [List.length_map]; exact List.length_pos_iff.mpr hu
    have hv1 : 1 ≤ (v.map smE).length := by rw [List.length_map]; exact List.length_pos_iff.mpr hv
    have hupu : (u.map smE ++ v.map smE).Pairwise fun a c => a.1 < c.1 := by
      rw [← List.map_append, List.pairwise_map]
      have : (u ++ v).Sublist (L ++ R) := by
        have h3 := (runs_all (L ++ R)).1
        rw [e3] at h3
        have h4 : (u ++ v).Sublist (A ++ (u ++ v) :: B).flatten := List.sublist_flatten_of_mem (by simp)
        rw [h3] at h4
        exact h4.trans List.filter_sublist
      exact hup.sublist this
    have s1 : sruns L = A.map (fun r => r.map smE) ++ [u.map smE] := by unfold sruns; rw [e1]; simp
    have s2 : sruns R = [v.map smE] ++ B.map (fun r => r.map smE) := by unfold sruns; rw [e2]; simp
    have s3 : sruns (L ++ R) = A.map (fun r => r.map smE) ++ ([u.map smE ++ v.map smE] ++ B.map (fun r => r.map smE)) := by unfold sruns; rw [e3]; simp
    rw [s1, s2, s3]
    simp only [cntW_append, cntW_one hu1, cntW_one hv1]
    rw [cntW_one (by rw [List.length_append]; omega)]
    obtain ⟨k1, k2⟩ := cR_cut (w := w) hupu h0 hu1 hv1
    exact ⟨fun z => absurd hm z, by omega, fun z => by have := k2 z; omega⟩
  · have e : sruns (L ++ R) = sruns L ++ sruns R := by unfold sruns; rw [h1 hm, List.map_append]
    rw [e, cntW_append]
    exact ⟨fun _ => rfl, by omega, fun _ => by omega⟩
theorem TelP.uniq : ∀ {ps : List (List Smp)} {ds ds' : List P4}, TelP ps ds → TelP ps ds' → (∀ p ∈ ps, 1 ≤ p.length ∧ p.Pairwise fun a c => a.1 < c.1) → ds = ds'
  | [], [], [], _, _, _ => rfl
  | p :: ps, d :: ds, d' :: ds', h, h', hp => by
    obtain ⟨⟨s, l, w, o, b1, rfl⟩, h2⟩ := h
    obtain ⟨⟨s', l', w', o', b1', rfl⟩, h2'⟩ := h'
    obtain ⟨rfl, rfl, _⟩ := b1.uniq b1' (hp p (by simp)).2 (hp p (by simp)).1
    rw [TelP.uniq h2 h2' fun x hx => hp x (by simp [hx])]
theorem partsF_ok {sp : Rat} {ts : List Smp} (hz : ∀ s ∈ ts, SmB s) (hl : ts.length ≤ 89) (hup : ts.Pairwise fun a c => a.1 < c.1) : ∀ p ∈ partsF sp ts, 1 ≤ p.length ∧ p.Pairwise fun a c => a.1 < c.1 := fun p hp => by
  obtain ⟨h1, _, _⟩ := allp_pts (allp_partsF (sp := sp) ts) hz hl hup
  exact ⟨h1.ne p hp, h1.up.sublist (List.sublist_flatten_of_mem hp)⟩
structure RunsB (rss : List (List Smp)) : Prop where
  z : ∀ r ∈ rss, (∀ s ∈ r, SmB s) ∧ r.length ≤ 89 ∧ r.Pairwise fun a c => a.1 < c.1
theorem RunsB.parts {rss : List (List Smp)} (h : RunsB rss) {sp : Rat} : ∀ p ∈ rss.flatMap (partsF sp), 1 ≤ p.length ∧ p.Pairwise fun a c => a.1 < c.1 := fun p hp => by
  obtain ⟨r, hr, hp⟩ := List.mem_flatMap.mp hp
  obtain ⟨h1, h2, h3⟩ := h.z r hr
  exact partsF_ok h1 h2 h3 p hp
/-- what is told, as a list of values -/
def isTel (w : Way) (rss : List (List Smp)) (q : Rat) (ds : List D) : Prop := match w with
  | .apart => ∃ tel, ds = tel.map p4D ∧ TelP (rss.flatMap (partsF (2 * q))) tel
  | .joined => ds = (rss.flatMap (telJ q)).map p4D
  | .spans => ds = (telF rss q false).map pcD
  | .chain => ds = (telF rss q true).map pcD
section
variable {w : Way} {rss : List (List Smp)} {q : Rat} {S : Store} {te pa : Nat} {ds ds' : List D}
theorem isTel.uniq (hB : RunsB rss) (h : isTel w rss q ds) (h' : isTel w rss q ds') : ds = ds' := by
  cases w with
  | apart =>
    obtain ⟨tel, rfl, h1⟩ := h
    obtain ⟨tel', rfl, h1'⟩ := h'
    rw [h1.uniq h1' hB.parts]
  | joined => exact Eq.trans h (Eq.symm h')
  | spans => exact Eq.trans h (Eq.symm h')
  | chain => exact Eq.trans h (Eq.symm h')
theorem isTel.app {rss' : List (List Smp)} (h : isTel w rss q ds) (h' : isTel w rss' q ds') : isTel w (rss ++ rss') q (ds ++ ds') := by
  cases w with
  | apart =>
    obtain ⟨tel, rfl, h1⟩ := h
    obtain ⟨tel', rfl, h1'⟩ := h'
    exact ⟨tel ++ tel', by simp, by rw [List.flatMap_append]; exact h1.app h1'⟩
  | joined => cases h; cases h'; simp [isTel]
  | spans => cases h; cases h'; simp [isTel, telF]
  | chain => cases h; cases h'; simp [isTel, telF]
end
/-- the least is one -/
theorem LeastP.uniq {w : Way} {rss : List (List Smp)} {m : Nat} {q q' : Rat} (h : LeastP w rss m q) (h' : LeastP w rss m q') : q = q' := by
  have a : ¬ q < q' := fun z => by have := h'.lo q h.nn z; have := h.up; omega
  have b : ¬ q' < q := fun z => by have := h.lo q' h'.nn z; have := h'.up; omega
  grind
end Lt
set_option maxRecDepth 100000
set_option maxHeartbeats 2000000
namespace Lt
set_option exponentiation.threshold 9000
open PySem (Str)
open LawT
section
variable {u v : List Smp} {q : Rat} {s a : Nat}
/-- a chord that leads from the last of u to the last of v: one step more -/
theorem chain_step_le (hu : 1 ≤ u.length) (hv : 1 ≤ v.length) (hl : LeadQ (u ++ v) (u.length - 1) (u.length + v.length - 1) q) :
    gN (labF (u ++ v) q true) (u.length + v.length - 1) ≤ gN (labF u q true) (u.length - 1) + 1 := by
  have hlen : (u ++ v).length = u.length + v.length := List.length_append
  obtain ⟨h, hn⟩ := labF_spec (q := q) (tied := true) (ts := u ++ v) (by omega)
  obtain ⟨h1, hn1⟩ := labF_spec (q := q) (tied := true) hu
  generalize labF (u ++ v) q true = ls at *
  generalize labF u q true = lu at *
  simp only [cnt, if_true] at hn hn1
  have pre : ∀ a, a < u.length → gN ls a ≤ gN lu a := fun a ha => by
    have := lab_le h (f := fun a => if a < u.length then gN lu a else gN lu (u.length - 1) + 1 + a) (fun a a1 a2 => by
      by_cases c : a < u.length
      · obtain ⟨⟨s, s1, s2, s3⟩, _⟩ := h1.2 a a1 (by omega)
        refine ⟨s, s1, (leadJ_pre (show a < u.length by omega)).mpr s2, ?_⟩
        try simp only
        rw [if_pos c, if_pos (by omega), s3]
        exact Nat.le_refl _
      · refine ⟨a - 1, by omega, ?_, ?_⟩
        · have := LP_next (ts := u ++ v) (q := q) (tied := true) (a - 1)
          rwa [show a - 1 + 1 = a by omega] at this
        · try simp only
          rw [if_neg c]
          by_cases c2 : a - 1 < u.length
          · rw [if_pos c2, show a - 1 = u.length - 1 by omega]
            omega
          · rw [if_neg c2]
            omega) a (by omega)
    try simp only at this
    rwa [if_pos ha] at this
  have := (h.2 (u.length + v.length - 1) (by omega) (by omega)).2 (u.length - 1) (by omega) hl
  have := pre (u.length - 1) (by omega)
  omega
/-- values on one line from s to a -/
def OnL (ts : List Smp) (s a : Nat) (sp : Rat) : Prop := ∀ k, s ≤ k → k ≤ a → (sA ts k).2 = (sA ts s).2 + sp * (((sA ts k).1 : Rat) - ((sA ts s).1 : Rat))
def Up (ts : List Smp) : Prop := ∀ i j, i < j → j < ts.length → (sA ts i).1 < (sA ts j).1
theorem onL_lead {ts : List Smp} (hup : Up ts) {sp : Rat} (hsa : s < a) (ha : a < ts.length) (h : OnL ts s a sp) : LeadQ ts s a 0 := by
  intro k k1 k2
  rw [msQ_sA]
  have e1 := h k (by omega) (by omega)
  have e2 := h a (by omega) (Nat.le_refl _)
  have hlt : ((sA ts s).1 : Rat) < ((sA ts a).1 : Rat) := Rat.intCast_lt_intCast.mpr (hup s a hsa ha)
  have z : stq (sA ts s) (sA ts k) (sA ts a) = 0 := by
    unfold stq standF
    rw [e1, e2]
    generalize ((sA ts s).1 : Rat) = x at *
    generalize ((sA ts k).1 : Rat) = y at *
    generalize ((sA ts a).1 : Rat) = w at *
    generalize (sA ts s).2 = c at *
    grind
  rw [z]
  unfold absQ
  split <;> grind
theorem lead_onL {ts : List Smp} (hup : Up ts) (hsa : s < a) (ha : a < ts.length) (h : LeadQ ts s a 0) : ∃ sp, OnL ts s a sp := by
  have hlt : ((sA ts s).1 : Rat) < ((sA ts a).1 : Rat) := Rat.intCast_lt_intCast.mpr (hup s a hsa ha)
  refine ⟨((sA ts a).2 - (sA ts s).2) / (((sA ts a).1 : Rat) - ((sA ts s).1 : Rat)), fun k k1 k2 => ?_⟩
  by_cases c1 : k = s
  · subst c1; grind
  · by_cases c2 : k = a
    · subst c2
      generalize ((sA ts s).1 : Rat) = x at *
      generalize ((sA ts k).1 : Rat) = w at *
      grind
    · have := h k (by omega) (by omega)
      rw [msQ_sA] at this
      have z := absQ_le.mp this
      have z0 : stq (sA ts s) (sA ts k) (sA ts a) = 0 := by grind
      unfold stq standF at z0
      generalize ((sA ts s).1 : Rat) = x at *
      generalize ((sA ts k).1 : Rat) = y at *
      generalize ((sA ts a).1 : Rat) = w at *
      grind
theorem OnL.sub {ts : List Smp} {sp : Rat} (h : OnL ts s a sp) {s' a' : Nat} (h1 : s ≤ s') (h2 : s' ≤ a') (h3 : a' ≤ a) : OnL ts s' a' sp := by
  intro k k1 k2
  have e1 := h k (by omega) (by omega)
  have e2 := h s' h1 (by omega)
  rw [e1, e2]
  grind
theorem OnL.join {ts : List Smp} {sp : Rat} {b : Nat} (h : OnL ts s b sp) (h' : OnL ts b a sp) (hsb : s ≤ b) : OnL ts s a sp := by
  intro k k1 k2
  by_cases c : k ≤ b
  · exact h k k1 c
  · have e1 := h' k (by omega) k2
    have e2 := h b hsb (Nat.le_refl _)
    rw [e1, e2]
    grind
/-- at bound nought: a straight stretch behind -/
theorem chain_zero (hup : Up (u ++ v)) (hu : 2 ≤ u.length) (hv : 1 ≤ v.length) {sp1 sp2 : Rat} (h1 : OnL u (u.length - 2) (u.length - 1) sp1) (h2 : OnL (u ++ v) (u.length - 1) (u.length + v.length - 1) sp2) :
    gN (labF (u ++ v) 0 true) (u.length + v.length - 1) = gN (labF u 0 true) (u.length - 1) + (if sp1 = sp2 then 0 else 1) := by
  have hlen : (u ++ v).length = u.length + v.length := List.length_append
  obtain ⟨h, hn⟩ := labF_spec (q := 0) (tied := true) (ts := u ++ v) (by omega)
  obtain ⟨k1, hn1⟩ := labF_spec (q := 0) (tied := true) (ts := u) (by omega)
  generalize labF (u ++ v) 0 true = ls at *
  generalize labF u 0 true = lu at *
  simp only [cnt, if_true] at hn hn1
  have pre : ∀ a, a < u.length → gN ls a = gN lu a := by
    intro a
    induction a using Nat.strongRecOn with
    | ind a ih =>
      intro ha
      by_cases h0 : a = 0
      · subst h0; rw [h.1, k1.1]
      · obtain ⟨⟨s, s1, s2, s3⟩, m1⟩ := h.2 a (by omega) (by omega)
        obtain ⟨⟨t, t1, t2, t3⟩, m2⟩ := k1.2 a (by omega) (by omega)
        have q1 := m1 t t1 ((leadJ_pre ha).mpr t2)
        have q2 := m2 s s1 ((leadJ_pre ha).mp s2)
        have e1 := ih s s1 (by omega)
        have e2 := ih t t1 (by omega)
        omega
  have c0 := pre (u.length - 1) (by omega)
  rw [← c0]
  have hq : ∀ a, u.length - 1 < a → a < u.length + v.length → ∀ s, s < u.length - 1 → LP (u ++ v) 0 true s a → sp1 = sp2 ∧ LP (u ++ v) 0 true s (u.length - 1) := by
    intro a a1 a2 s s1 hl
    obtain ⟨sp, hs⟩ := lead_onL hup (show s < a by omega) (by omega) hl
    have f1 := hs.sub (s' := u.length - 2) (a' := u.length - 1) (by omega) (by omega) (by omega)
    have f2 := hs.sub (s' := u.length - 1) (a' := u.length) (by omega) (by omega) (by omega)
    have g1 := f1 (u.length - 1) (by omega) (Nat.le_refl _)
    have g2 := f2 u.length (by omega) (Nat.le_refl _)
    have d1 := h1 (u.length - 1) (by omega) (Nat.le_refl _)
    have d2 := h2 u.length (by omega) (by omega)
    rw [sA_pre (by omega), sA_pre (by omega)] at g1
    have m1 : ((sA u (u.length - 2)).1 : Rat) < ((sA u (u.length - 1)).1 : Rat) := by
      have := hup (u.length - 2) (u.length - 1) (by omega) (by omega)
      rw [sA_pre (by omega), sA_pre (by omega)] at this
      exact Rat.intCast_lt_intCast.mpr this
    have m2 : ((sA (u ++ v) (u.length - 1)).1 : Rat) < ((sA (u ++ v) u.length).1 : Rat) := Rat.intCast_lt_intCast.mpr (hup _ _ (by omega) (by omega))
    refine ⟨?_, (show LeadQ (u ++ v) s (u.length - 1) 0 from onL_lead hup s1 (by omega) (hs.sub (Nat.le_refl _) (by omega) (by omega)))⟩
    have e1 : sp = sp1 := by
      generalize ((sA u (u.length - 2)).1 : Rat) = x at *
      generalize ((sA u (u.length - 1)).1 : Rat) = y at *
      have : (sp - sp1) * (y - x) = 0 := by grind
      have := (Rat.mul_eq_zero.mp this).resolve_right (by grind)
      grind
    have e2 : sp = sp2 := by
      generalize ((sA (u ++ v) (u.length - 1)).1 : Rat) = x at *
      generalize ((sA (u ++ v) u.length).1 : Rat) = y at *
      have : (sp - sp2) * (y - x) = 0 := by grind
      have := (Rat.mul_eq_zero.mp this).resolve_right (by grind)
      grind
    rw [← e1, ← e2]
  by_cases hs : sp1 = sp2
  · rw [if_pos hs]
    have low : ∀ a, u.length - 1 ≤ a → a < u.length + v.length → gN ls (u.length - 1) ≤ gN ls a := by
      intro a
      induction a using Nat.strongRecOn with
      | ind a ih =>
        intro a1 a2
        by_cases e : a = u.length - 1
        · subst e; exact Nat.le_refl _
        · obtain ⟨⟨s, s1, s2, s3⟩, _⟩ := h.2 a (by omega) (by omega)
          by_cases c : u.length - 1 ≤ s
          · have := ih s s1 c (by omega); omega
          · obtain ⟨_, l1⟩ := hq a (by omega) a2 s (by omega) s2
            have := (h.2 (u.length - 1) (by omega) (by omega)).2 s (by omega) l1
            omega
    have up : gN ls (u.length + v.length - 1) ≤ gN ls (u.length - 1) := by
      obtain ⟨⟨s, s1, s2, s3⟩, _⟩ := h.2 (u.length - 1) (by omega) (by omega)
      obtain ⟨sp, hsp⟩ := lead_onL hup s1 (by omega) s2
      have f1 := (hsp.sub (s' := u.length - 2) (a' := u.length - 1) (by omega) (by omega) (by omega)) (u.length - 1) (by omega) (Nat.le_refl _)
      have d1 := h1 (u.length - 1) (by omega) (Nat.le_refl _)
      rw [sA_pre (by omega), sA_pre (by omega)] at f1
      have m1 : ((sA u (u.length - 2)).1 : Rat) < ((sA u (u.length - 1)).1 : Rat) := by
        have := hup (u.length - 2) (u.length - 1) (by omega) (by omega)
        rw [sA_pre (by omega), sA_pre (by omega)] at this
        exact Rat.intCast_lt_intCast.mpr this
      have e1 : sp = sp2 := by
        rw [← hs]
        generalize ((sA u (u.length - 2)).1 : Rat) = x at *
        generalize ((sA u (u.length - 1)).1 : Rat) = y at *
        have : (sp - sp1) * (y - x) = 0 := by grind
        have := (Rat.mul_eq_zero.mp this).resolve_right (by grind)
        grind
      subst e1
      have := (h.2 (u.length + v.length - 1) (by omega) (by omega)).2 s (by omega) (show LeadQ (u ++ v) s (u.length + v.length - 1) 0 from onL_lead hup (by omega) (by omega) (hsp.join h2 (by omega)))
      omega
    have := low (u.length + v.length - 1) (by omega) (by omega)
    omega
  · rw [if_neg hs]
    have low : ∀ a, u.length - 1 < a → a < u.length + v.length → gN ls (u.length - 1) + 1 ≤ gN ls a := by
      intro a
      induction a using Nat.strongRecOn with
      | ind a ih =>
        intro a1 a2
        obtain ⟨⟨s, s1, s2, s3⟩, _⟩ := h.2 a (by omega) (by omega)
        by_cases c : u.length - 1 < s
        · have := ih s s1 c (by omega); omega
        · by_cases c2 : s = u.length - 1
          · subst c2; omega
          · exact absurd (hq a a1 a2 s (by omega) s2).1 hs
    have up := (h.2 (u.length + v.length - 1) (by omega) (by omega)).2 (u.length - 1) (by omega) (show LeadQ (u ++ v) (u.length - 1) (u.length + v.length - 1) 0 from onL_lead hup (by omega) (by omega) h2)
    have := low (u.length + v.length - 1) (by omega) (by omega)
    omega
end
end Lt
set_option maxRecDepth 100000
set_option maxHeartbeats 2000000
namespace Lt
set_option exponentiation.threshold 9000
open PySem (Str)
open LawT
section
variable {u v w ts : List Smp} {q sp : Rat} {s a : Nat}
theorem lead_of (hup : Up ts) (hsa : s < a) (ha : a < ts.length) (hl : (sA ts a).2 = (sA ts s).2 + sp * (((sA ts a).1 : Rat) - ((sA ts s).1 : Rat)))
    (hk : ∀ k, s < k → k < a → absQ ((sA ts k).2 - ((sA ts s).2 + sp * (((sA ts k).1 : Rat) - ((sA ts s).1 : Rat)))) ≤ q) : LeadQ ts s a q := by
  intro k k1 k2
  rw [msQ_sA]
  have hlt : ((sA ts s).1 : Rat) < ((sA ts a).1 : Rat) := Rat.intCast_lt_intCast.mpr (hup s a hsa ha)
  have e : stq (sA ts s) (sA ts k) (sA ts a) = (sA ts k).2 - ((sA ts s).2 + sp * (((sA ts k).1 : Rat) - ((sA ts s).1 : Rat))) := by
    unfold stq standF
    rw [hl]
    generalize ((sA ts s).1 : Rat) = x at *
    generalize ((sA ts k).1 : Rat) = y at *
    generalize ((sA ts a).1 : Rat) = z at *
    grind
  rw [e]
  exact hk k k1 k2
theorem cR_span_one (hw : 1 ≤ w.length) (h : LeadQ w 0 (w.length - 1) q) : cR .spans q w = 1 := by
  show max (gN (labF w q false) (cnt false w.length - 1)) 1 = 1
  obtain ⟨h1, hn⟩ := labF_spec (q := q) (tied := false) hw
  have hc : cnt false w.length = w.length + 1 := by simp [cnt]
  rw [hc] at hn ⊢
  have := (h1.2 w.length hw (by omega)).2 0 (by omega) (show LeadQ w 0 (w.length - 1) q from h)
  rw [h1.1] at this
  rw [show w.length + 1 - 1 = w.length by omega]
  omega
theorem cR_chain_pos (hu : 2 ≤ u.length) : cR .chain q u = gN (labF u q true) (u.length - 1) ∧ 1 ≤ cR .chain q u := by
  obtain ⟨h1, hn⟩ := labF_spec (q := q) (tied := true) (ts := u) (by omega)
  have hc : cnt true u.length = u.length := by simp [cnt]
  have e : cR .chain q u = max (gN (labF u q true) (cnt true u.length - 1)) 1 := rfl
  rw [e, hc]
  rw [hc] at hn
  obtain ⟨⟨s, _, _, s3⟩, _⟩ := h1.2 (u.length - 1) (by omega) (by omega)
  omega
theorem cR_chain_one (hw : 2 ≤ w.length) (h : LeadQ w 0 (w.length - 1) q) : cR .chain q w = 1 := by
  obtain ⟨e, e1⟩ := cR_chain_pos (q := q) hw
  obtain ⟨h1, hn⟩ := labF_spec (q := q) (tied := true) (ts := w) (by omega)
  have hc : cnt true w.length = w.length := by simp [cnt]
  rw [hc] at hn
  have := (h1.2 (w.length - 1) (by omega) (by omega)).2 0 (by omega) (show LeadQ w 0 (w.length - 1) q from h)
  rw [h1.1] at this
  omega
theorem cR_chain_step (hu : 2 ≤ u.length) (hv : 1 ≤ v.length) (hl : LeadQ (u ++ v) (u.length - 1) (u.length + v.length - 1) q) : cR .chain q (u ++ v) ≤ cR .chain q u + 1 := by
  have e1 := (cR_chain_pos (q := q) hu).1
  have e2 := (cR_chain_pos (q := q) (u := u ++ v) (by rw [List.length_append]; omega)).1
  rw [List.length_append] at e2
  have := chain_step_le (q := q) (by omega) hv hl
  omega
theorem cR_chain_zero (hup : Up (u ++ v)) (hu : 2 ≤ u.length) (hv : 1 ≤ v.length) {sp1 sp2 : Rat} (h1 : OnL u (u.length - 2) (u.length - 1) sp1) (h2 : OnL (u ++ v) (u.length - 1) (u.length + v.length - 1) sp2) :
    cR .chain 0 (u ++ v) = cR .chain 0 u + (if sp1 = sp2 then 0 else 1) := by
  have e1 := (cR_chain_pos (q := 0) hu).1
  have e2 := (cR_chain_pos (q := 0) (u := u ++ v) (by rw [List.length_append]; omega)).1
  rw [List.length_append] at e2
  rw [e1, e2]
  exact chain_zero hup hu hv h1 h2
end
section
variable {R B : List Ent} {A : List (List Smp)} {u : List Smp}
theorem runs_some (hB : B ≠ []) (h : ∀ e ∈ B, e.2.isSome = true) : runsF B = [B] := by
  have key : ∀ (l c : List Ent), (∀ e ∈ l, e.2.isSome = true) → l.foldl stepR ([], c) = ([], c ++ l) := by
    intro l
    induction l with
    | nil => intro c _; simp
    | cons e l ih =>
      intro c hl
      rw [List.foldl_cons]
      have : stepR ([], c) e = ([], c ++ [e]) := by
        unfold stepR
        rw [if_pos (hl e (by simp))]
      rw [this, ih _ (fun f hf => hl f (by simp [hf]))]
      simp
  unfold runsF foldR
  rw [key B [] h]
  unfold closeR
  rw [if_pos (by simpa using List.length_pos_iff.mpr hB)]
  simp
theorem sruns_some (hB : B ≠ []) (h : ∀ e ∈ B, e.2.isSome = true) : sruns B = [B.map smE] := by
  unfold sruns
  rw [runs_some hB h]
  rfl
theorem sruns_on (hR : ∃ e, R.getLast? = some e ∧ e.2.isSome = true) (hB : B ≠ []) (h : ∀ e ∈ B, e.2.isSome = true) (hs : sruns R = A ++ [u]) : sruns (R ++ B) = A ++ [u ++ B.map smE] := by
  have hm : MeetE R B := by
    refine ⟨hR, ?_⟩
    cases B with
    | nil => exact absurd rfl hB
    | cons e l => exact ⟨e, rfl, h e (by simp)⟩
  obtain ⟨A', u', v', B', e1, e2, e3, _, _⟩ := (runs_meet R B).2 hm
  rw [runs_some hB h] at e2
  have e4 : v' = B ∧ B' = [] := by
    simp at e2
    exact ⟨e2.1.symm, e2.2⟩
  obtain ⟨rfl, rfl⟩ := e4
  have s1 : sruns R = A'.map (fun r => r.map smE) ++ [u'.map smE] := by unfold sruns; rw [e1]; simp
  rw [s1] at hs
  obtain ⟨f1, f2⟩ := List.append_inj' hs (by simp)
  simp at f2
  have s3 : sruns (R ++ v') = A'.map (fun r => r.map smE) ++ [u'.map smE ++ v'.map smE] := by unfold sruns; rw [e3]; simp
  rw [s3, f1, f2]
end
end Lt
set_option maxRecDepth 100000
set_option maxHeartbeats 2000000
namespace LawP
set_option exponentiation.threshold 9000
open Lt LawT
open PySem (Str)
def fuel : Nat := BIG
theorem hF : BIG ≤ fuel := Nat.le_refl _
def inP (X : Nat → Int) (st bd sp m0 u0 : Int) (cnt a : Nat) : Nat → (Int × Int) × List EnN
  | 0 => ((m0, u0), [])
  | j + 1 => ((((inP X st bd sp m0 u0 cnt a j).1.1 + (1 + X (a + 5 + 2 * j)) * st), u0 + sp * ((inP X st bd sp m0 u0 cnt a j).1.1 + (1 + X (a + 5 + 2 * j)) * st - m0)),
      (inP X st bd sp m0 u0 cnt a j).2 ++ [((inP X st bd sp m0 u0 cnt a j).1.1 + (1 + X (a + 5 + 2 * j)) * st, some (u0 + sp * ((inP X st bd sp m0 u0 cnt a j).1.1 + (1 + X (a + 5 + 2 * j)) * st - m0) + (if j + 1 < cnt then ((X (a + 6 + 2 * j) - 3) * bd).fdiv 3 else 0)))])
structure Ds (X : Nat → Int) : Prop where
  a0 : 0 ≤ X 0 ∧ X 0 < 8
  a1 : 0 ≤ X 1 ∧ X 1 < 4
  a4 : 0 ≤ X 4 ∧ X 4 < 3
  d0 : ∀ k, k < 8 → 0 ≤ X (6 + 11 * k) ∧ X (6 + 11 * k) < 5
  d1 : ∀ k, k < 8 → 0 ≤ X (6 + 11 * k + 1) ∧ X (6 + 11 * k + 1) < 3
  d2 : ∀ k, k < 8 → 0 ≤ X (6 + 11 * k + 2) ∧ X (6 + 11 * k + 2) < 13
  d3 : ∀ k, k < 8 → 0 ≤ X (6 + 11 * k + 3) ∧ X (6 + 11 * k + 3) < 3
  d4 : ∀ k, k < 8 → 0 ≤ X (6 + 11 * k + 4) ∧ X (6 + 11 * k + 4) < 13
  d5 : ∀ k j, k < 8 → j < 3 → 0 ≤ X (6 + 11 * k + 5 + 2 * j) ∧ X (6 + 11 * k + 5 + 2 * j) < 3
  d6 : ∀ k j, k < 8 → j < 3 → 0 ≤ X (6 + 11 * k + 6 + 2 * j) ∧ X (6 + 11 * k + 6 + 2 * j) < 7
theorem inP_b {X : Nat → Int} (h : Ds X) {st bd sp m0 u0 : Int} {cnt k : Nat} (hk : k < 8) (hst : 1 ≤ st ∧ st ≤ 1009) : ∀ j, j ≤ 3 → m0 + j ≤ (inP X st bd sp m0 u0 cnt (6 + 11 * k) j).1.1 ∧ (inP X st bd sp m0 u0 cnt (6 + 11 * k) j).1.1 ≤ m0 + 3027 * j
  | 0, _ => ⟨by show m0 + 0 ≤ m0; omega, by show m0 ≤ m0 + 3027 * 0; omega⟩
  | j + 1, hj => by
    have ih := inP_b (bd := bd) (sp := sp) (m0 := m0) (u0 := u0) (cnt := cnt) h hk hst j (by omega)
    have d := h.d5 k j hk (by omega)
    have e1 : 1 * 1 ≤ (1 + X (6 + 11 * k + 5 + 2 * j)) * st := Int.mul_le_mul (by omega) hst.1 (by omega) (by omega)
    have e2 : (1 + X (6 + 11 * k + 5 + 2 * j)) * st ≤ 3 * 1009 := Int.mul_le_mul (by omega) hst.2 (by omega) (by omega)
    show _ ≤ (inP X st bd sp m0 u0 cnt (6 + 11 * k) j).1.1 + (1 + X (6 + 11 * k + 5 + 2 * j)) * st ∧ (inP X st bd sp m0 u0 cnt (6 + 11 * k) j).1.1 + (1 + X (6 + 11 * k + 5 + 2 * j)) * st ≤ _
    omega
theorem inP_len {X : Nat → Int} {st bd sp m0 u0 : Int} {cnt a : Nat} : ∀ j, (inP X st bd sp m0 u0 cnt a j).2.length = j
  | 0 => rfl
  | j + 1 => by
    have := inP_len (X := X) (st := st) (bd := bd) (sp := sp) (m0 := m0) (u0 := u0) (cnt := cnt) (a := a) j
    show ((inP X st bd sp m0 u0 cnt a j).2 ++ [_]).length = _
    simp [this]
/-- the rows that begin a piece -/
def gpP (X : Nat → Int) (k : Nat) (mo : Int) : Int × List EnN := if X (6 + 11 * k) = 0 ∧ 0 < k then (mo + 1, [(mo + 1, none)]) else (mo, [])
def bgP (X : Nat → Int) (tied : Bool) (sc : Int) (k : Nat) (mo up : Int) : (Int × Int) × List EnN :=
  if X (6 + 11 * k) = 0 ∨ k = 0 ∨ tied = false then ((mo + 1 + X (6 + 11 * k + 1), up + (X (6 + 11 * k + 2) - 6) * sc), [(mo + 1 + X (6 + 11 * k + 1), some (up + (X (6 + 11 * k + 2) - 6) * sc))]) else ((mo, up), [])
def cnP (X : Nat → Int) (tied : Bool) (k : Nat) : Nat := (X (6 + 11 * k + 3)).toNat + (if tied then 1 else 0)
def ouP (X : Nat → Int) (tied : Bool) (sc bd st m0 : Int) : Nat → (Int × Int) × List EnN
  | 0 => ((m0, 0), [])
  | k + 1 =>
    let s := ouP X tied sc bd st m0 k
    let g := gpP X k s.1.1
    let f := bgP X tied sc k g.1 s.1.2
    let i := inP X st bd ((X (6 + 11 * k + 4) - 6) * sc) f.1.1 f.1.2 (cnP X tied k) (6 + 11 * k) (cnP X tied k)
    (i.1, s.2 ++ g.2 ++ f.2 ++ i.2)
theorem inP_last {X : Nat → Int} {st bd sp m0 u0 : Int} {cnt a : Nat} {pre : List EnN} (hp : pre.getLast? = some (m0, some u0)) : (pre ++ (inP X st bd sp m0 u0 cnt a cnt).2).getLast? = some ((inP X st bd sp m0 u0 cnt a cnt).1.1, some (inP X st bd sp m0 u0 cnt a cnt).1.2) := by
  cases cnt with
  | zero => simpa [inP] using hp
  | succ j =>
    show (pre ++ ((inP X st bd sp m0 u0 (j + 1) a j).2 ++ [_])).getLast? = _
    rw [← List.append_assoc, List.getLast?_concat]
    simp [inP]
end LawP
namespace LawP
set_option exponentiation.threshold 9000
open Lt LawT
open PySem (Str)
section
variable {k : Nat} {S : Store} {E : XP} {L : List D} {X : Nat → Int} {q o : Nat} {tied : Bool} {sc bd : Int}
def plR : List St := [(.asg (.name 9) (.idx (.var 6) (.neg (.int 1)))), (.asg (.name 10) (.bin .mul (.bin .sub (.idx (.var 0) (.bin .add (.var 8) (.int 4))) (.int 6)) (.var 3))), (.asg (.name 11) (.bin .add (.idx (.var 0) (.bin .add (.var 8) (.int 3))) (.bi .int [(.var 1)]))), (.forS (.name 12) (.rng (.var 11)) [(.asg (.name 4) (.bin .add (.var 4) (.bin .mul (.bin .add (.int 1) (.idx (.var 0) (.bin .add (.bin .add (.var 8) (.int 5)) (.bin .mul (.int 2) (.var 12))))) (.idx (.lst [(.int 1), (.int 1), (.int 1009)]) (.idx (.var 0) (.int 4)))))), (.asg (.name 5) (.bin .add (.idx (.var 9) (.int 1)) (.bin .mul (.var 10) (.bin .sub (.var 4) (.idx (.var 9) (.int 0)))))), (.asg (.name 13) (.int 0)), (.ite (.cmp .lt (.var 12) (.bin .sub (.var 11) (.int 1))) [(.asg (.name 13) (.bin .fdiv (.bin .mul (.bin .sub (.idx (.var 0) (.bin .add (.bin .add (.var 8) (.int 6)) (.bin .mul (.int 2) (.var 12)))) (.int 3)) (.var 2)) (.int 3)))] []), (.exp (.app (.var 6) (.tup [(.var 4), (.bin .add (.var 5) (.var 13))])))])]
def PO (B : Store) (q o : Nat) (tied : Bool) (sc bd : Int) (s : (Int × Int) × List EnN) (e : Env) (S2 : Store) : Prop :=
  Ext B S2 ∧ getL S2 o = some (s.2.map enD) ∧ ∃ x7 x8 x9 x10 x11 x12 x13, e = [some (.ref q), some (.bl tied), some (.int bd), some (.int sc), some (.int s.1.1), some (.int s.1.2), some (.ref o), x7, x8, x9, x10, x11, x12, x13]
def PI (B : Store) (q o : Nat) (tied : Bool) (sc bd : Int) (k : Nat) (m0 u0 sp : Int) (cnt : Nat) (pre : List EnN) (s : (Int × Int) × List EnN) (e : Env) (S2 : Store) : Prop :=
  Ext B S2 ∧ getL S2 o = some ((pre ++ s.2).map enD) ∧ ∃ x12 x13, e = [some (.ref q), some (.bl tied), some (.int bd), some (.int sc), some (.int s.1.1), some (.int s.1.2), some (.ref o), some (.int k), some (.int (6 + 11 * (k : Int))), some (.tup [.int m0, .int u0]), some (.int sp), some (.int cnt), x12, x13]
theorem rest_wp {B : Store} {K : Nat} {BK : Env → Store → Prop} {EX : Exc → Env → Store → Prop} {RT : D → Store → Prop} {m0 u0 st : Int} {pre : List EnN} {x9 x10 x11 x12 x13 : Option D} (h : Ds X) (it : ∀ (i : Int) S', 0 ≤ i → i < 94 → itemR (some L) i S' = .ok (.int (X i.toNat)) S') (hq : getL B q = some L) (hE : Ext B S) (ho : B.length ≤ o) (hg : getL S o = some (pre.map enD)) (hl : pre.getLast? = some (m0, some u0)) (hlen : pre.length ≤ 100) (hk : k < 8) (hsc : 0 < sc ∧ sc < 2 ^ 41) (hbd : 0 ≤ bd ∧ bd < 2 ^ 44)
    (hst : 1 ≤ st ∧ st ≤ 1009) (p4 : ∀ S', itemR (some [.int 1, .int 1, .int 1009]) (X 4) S' = .ok (.int st) S') :
    WpS (exB (prog.cx fuel (callN prog fuel K)) plR [some (.ref q), some (.bl tied), some (.int bd), some (.int sc), some (.int m0), some (.int u0), some (.ref o), some (.int k), some (.int (6 + 11 * (k : Int))), x9, x10, x11, x12, x13] S)
      { nx := PO B q o tied sc bd ((inP X st bd ((X (6 + 11 * k + 4) - 6) * sc) m0 u0 (cnP X tied k) (6 + 11 * k) (cnP X tied k)).1, pre ++ (inP X st bd ((X (6 + 11 * k + 4) - 6) * sc) m0 u0 (cnP X tied k) (6 + 11 * k) (cnP X tied k)).2), rt := RT, bk := BK, ex := EX } := by
  have d3 := h.d3 k hk
  have d4 := h.d4 k hk
  have hqS := hE.getL hq
  have i4 : ∀ S', itemR (some L) (6 + 11 * (k : Int) + 4) S' = .ok (.int (X (6 + 11 * k + 4))) S' := fun S' => by
    rw [it _ S' (by omega) (by omega)]; congr 3
  have i3 : ∀ S', itemR (some L) (6 + 11 * (k : Int) + 3) S' = .ok (.int (X (6 + 11 * k + 3))) S' := fun S' => by
    rw [it _ S' (by omega) (by omega)]; congr 3
  have iX4 : ∀ S', itemR (some L) 4 S' = .ok (.int (X 4)) S' := fun S' => it 4 S' (by omega) (by omega)
  have zx : IZ (X (6 + 11 * k + 4) - 6) 4 := ⟨by omega⟩
  have zs : IZ sc 41 := ⟨by omega⟩
  have zb : IZ bd 44 := ⟨by omega⟩
  have m1 : Sm (X (6 + 11 * k + 4) - 6) sc := sm_iz (by omega)
  have il : ∀ S', itemR (some (pre.map enD)) (-1) S' = .ok (.tup [.int m0, .int u0]) S' := fun S' => itemR_last (by
    rw [List.getLast?_map, hl]; rfl)
  have ec : X (6 + 11 * k + 3) + (if tied = true then (1 : Int) else 0) = ((cnP X tied k : Nat) : Int) := by
    unfold cnP
    cases tied <;> simp <;> omega
  have hc3 : cnP X tied k ≤ 3 := by
    unfold cnP
    cases tied <;> simp <;> omega
  have bI : ∀ S', biop .int [.bl tied] S' = .ok (.int (if tied = true then (1 : Int) else 0)) S' := fun S' => by cases tied <;> rfl
  generalize cnP X tied k = cnt at *
  have zsp : IZ ((X (6 + 11 * k + 4) - 6) * sc) 45 := inferInstance
  simp [wpx, wpo, wps, plR, hqS, hg, il, i4, i3, m1, bI]
  rw [ec]
  generalize (X (6 + 11 * k + 4) - 6) * sc = sp at *
  refine for_rng (fun j => PI B q o tied sc bd k m0 u0 sp cnt pre (inP X st bd sp m0 u0 cnt (6 + 11 * k) j)) (by omega) (by omega) (by omega) (by omega) ⟨hE, by simpa [inP] using hg, _, _, rfl⟩ ?_ ?_
  · rintro j e S2 hj ⟨hE2, hg2, x12, x13, rfl⟩
    have e1 : (0 : Int) + (j : Int) = (j : Int) := by omega
    rw [e1]
    refine ⟨_, bind_name (by simp), ?_⟩
    have hj3 : j < 3 := by omega
    have q2 := hE2.getL hq
    have q2a : ∀ T, getL (S2 ++ T) q = some L := fun T => Ext.one.getL q2
    have g2a : ∀ T, getL (S2 ++ T) o = some ((pre ++ (inP X st bd sp m0 u0 cnt (6 + 11 * k) j).2).map enD) := fun T => Ext.one.getL hg2
    have d5 := h.d5 k j hk hj3
    have d6 := h.d6 k j hk hj3
    have i5 : ∀ S', itemR (some L) (6 + 11 * (k : Int) + 5 + 2 * (j : Int)) S' = .ok (.int (X (6 + 11 * k + 5 + 2 * j))) S' := fun S' => by
      rw [it _ S' (by omega) (by omega)]; congr 3
    have i6 : ∀ S', itemR (some L) (6 + 11 * (k : Int) + 6 + 2 * (j : Int)) S' = .ok (.int (X (6 + 11 * k + 6 + 2 * j))) S' := fun S' => by
      rw [it _ S' (by omega) (by omega)]; congr 3
    obtain ⟨c1, c2⟩ := inP_b (bd := bd) (sp := sp) (m0 := m0) (u0 := u0) (cnt := cnt) h hk hst (j + 1) (by omega)
    have em : (inP X st bd sp m0 u0 cnt (6 + 11 * k) (j + 1)).1.1 = (inP X st bd sp m0 u0 cnt (6 + 11 * k) j).1.1 + (1 + X (6 + 11 * k + 5 + 2 * j)) * st := rfl
    rw [em] at c1 c2
    have hl2 : (pre ++ (inP X st bd sp m0 u0 cnt (6 + 11 * k) j).2).length < lim := by
      rw [List.length_append, inP_len]; unfold lim; omega
    have enx : inP X st bd sp m0 u0 cnt (6 + 11 * k) (j + 1) = ((((inP X st bd sp m0 u0 cnt (6 + 11 * k) j).1.1 + (1 + X ((6 + 11 * k) + 5 + 2 * j)) * st), u0 + sp * ((inP X st bd sp m0 u0 cnt (6 + 11 * k) j).1.1 + (1 + X ((6 + 11 * k) + 5 + 2 * j)) * st - m0)),
      (inP X st bd sp m0 u0 cnt (6 + 11 * k) j).2 ++ [((inP X st bd sp m0 u0 cnt (6 + 11 * k) j).1.1 + (1 + X ((6 + 11 * k) + 5 + 2 * j)) * st, some (u0 + sp * ((inP X st bd sp m0 u0 cnt (6 + 11 * k) j).1.1 + (1 + X ((6 + 11 * k) + 5 + 2 * j)) * st - m0) + (if j + 1 < cnt then ((X ((6 + 11 * k) + 6 + 2 * j) - 3) * bd).fdiv 3 else 0)))]) := rfl
    rw [enx]
    have z5 : IZ (1 + X (6 + 11 * k + 5 + 2 * j)) 2 := ⟨by omega⟩
    have zst : IZ st 10 := ⟨by omega⟩
    have z6 : IZ (X (6 + 11 * k + 6 + 2 * j) - 3) 3 := ⟨by omega⟩
    have zj : IZ (j : Int) 2 := ⟨by omega⟩
    have k1 : Sm 2 (j : Int) := sm_iz (by omega)
    have k2 : Sm (1 + X (6 + 11 * k + 5 + 2 * j)) st := sm_iz (by omega)
    generalize hM : (inP X st bd sp m0 u0 cnt (6 + 11 * k) j).1.1 + (1 + X (6 + 11 * k + 5 + 2 * j)) * st = M at *
    have zM : IZ (M - m0) 14 := ⟨by omega⟩
    have k3 : Sm sp (M - m0) := sm_iz (by omega)
    have k4 : Sm (X (6 + 11 * k + 6 + 2 * j) - 3) bd := sm_iz (by omega)
    have g3 : Nat.log2 3 < 9000 := by decide
    have fin : ∀ (T : Store) (v : Int) (x12 x13 : Option D), v = u0 + sp * (M - m0) + (if j + 1 < cnt then ((X ((6 + 11 * k) + 6 + 2 * j) - 3) * bd).fdiv 3 else 0) → PI B q o tied sc bd k m0 u0 sp cnt pre ((M, u0 + sp * (M - m0)), (inP X st bd sp m0 u0 cnt (6 + 11 * k) j).2 ++ [(M, some (u0 + sp * (M - m0) + (if j + 1 < cnt then ((X ((6 + 11 * k) + 6 + 2 * j) - 3) * bd).fdiv 3 else 0)))])
        [some (.ref q), some (.bl tied), some (.int bd), some (.int sc), some (.int M), some (.int (u0 + sp * (M - m0))), some (.ref o), some (.int k), some (.int (6 + 11 * (k : Int))), some (.tup [.int m0, .int u0]), some (.int sp), some (.int cnt), x12, x13] ((S2 ++ T).set o (.lst ((pre ++ (inP X st bd sp m0 u0 cnt (6 + 11 * k) j).2).map enD ++ [enD (M, some v)]))) := fun T v x12 x13 hv => by
      subst hv
      exact ⟨hE2.app.set ho, by rw [getL_set (getL_lt (g2a T))]; simp, _, _, rfl⟩
    have sqb : ∀ S, seqOf S (.tup [.int m0, .int u0]) = some [.int m0, .int u0] := fun S => rfl
    by_cases c : j + 1 < cnt
    · have c' : (j : Int) < (cnt : Int) - 1 := by omega
      simp [wpx, wpo, wps, q2, q2a, g2a, i5, iX4, p4, k1, k2, k3, k4, hM, sqb, c', i6, g3, hl2]
      have f := fun x12 x13 => fin [Cell.lst [D.int 1, D.int 1, D.int 1009]] (u0 + sp * (M - m0) + ((X ((6 + 11 * k) + 6 + 2 * j) - 3) * bd).fdiv 3) x12 x13 (by rw [if_pos c])
      simp only [List.map_append, List.append_assoc] at f
      exact ⟨by simpa using hl2, f _ _⟩
    · have c' : ¬ (j : Int) < (cnt : Int) - 1 := by omega
      simp [wpx, wpo, wps, q2, q2a, g2a, i5, iX4, p4, k1, k2, k3, hM, sqb, c', hl2]
      have f := fun x12 x13 => fin [Cell.lst [D.int 1, D.int 1, D.int 1009]] (u0 + sp * (M - m0) + 0) x12 x13 (by rw [if_neg c])
      simp only [Int.add_zero, List.map_append, List.append_assoc] at f
      exact ⟨by simpa using hl2, f _ _⟩
  · rintro e S2 ⟨hE2, hg2, x12, x13, rfl⟩
    have en : ((cnt : Int) - 0).toNat = cnt := by omega
    rw [en] at hg2 ⊢
    exact ⟨hE2, hg2, _, _, _, _, _, _, _, rfl⟩
end
end LawP
namespace LawP
set_option exponentiation.threshold 9000
open Lt LawT
open PySem (Str)
section
variable {k : Nat} {S : Store} {E : XP} {L : List D} {X : Nat → Int} {q o : Nat} {tied : Bool} {sc bd st m0 : Int}
def preP (X : Nat → Int) (tied : Bool) (sc : Int) (k : Nat) (s : (Int × Int) × List EnN) : List EnN := s.2 ++ (gpP X k s.1.1).2 ++ (bgP X tied sc k (gpP X k s.1.1).1 s.1.2).2
theorem pre_last {s : (Int × Int) × List EnN} (h : 0 < k → s.2.getLast? = some (s.1.1, some s.1.2)) : (preP X tied sc k s).getLast? = some ((bgP X tied sc k (gpP X k s.1.1).1 s.1.2).1.1, some (bgP X tied sc k (gpP X k s.1.1).1 s.1.2).1.2) := by
  unfold preP
  by_cases c : X (6 + 11 * k) = 0 ∨ k = 0 ∨ tied = false
  · unfold bgP
    rw [if_pos c, List.getLast?_concat]
  · have c2 : ¬ (X (6 + 11 * k) = 0 ∧ 0 < k) := fun z => c (.inl z.1)
    unfold bgP gpP
    rw [if_neg c2, if_neg c]
    simp only [List.append_nil]
    exact h (by omega)
theorem ou_last : ∀ k, 0 < k → (ouP X tied sc bd st m0 k).2.getLast? = some ((ouP X tied sc bd st m0 k).1.1, some (ouP X tied sc bd st m0 k).1.2)
  | k + 1, _ => inP_last (pre_last (ou_last k))
theorem cnP_le (h : Ds X) (hk : k < 8) : cnP X tied k ≤ 3 := by
  have d3 := h.d3 k hk
  unfold cnP
  cases tied <;> simp <;> omega
theorem pre_len {s : (Int × Int) × List EnN} : (preP X tied sc k s).length ≤ s.2.length + 2 := by
  have a1 : (gpP X k s.1.1).2.length ≤ 1 := by unfold gpP; split <;> simp
  have a2 : (bgP X tied sc k (gpP X k s.1.1).1 s.1.2).2.length ≤ 1 := by unfold bgP; split <;> simp
  unfold preP
  simp only [List.length_append]
  omega
theorem ou_len (h : Ds X) : ∀ k, k ≤ 8 → (ouP X tied sc bd st m0 k).2.length ≤ 5 * k
  | 0, _ => by simp [ouP]
  | k + 1, hk => by
    have ih := ou_len h k (by omega)
    have c := cnP_le (tied := tied) h (show k < 8 by omega)
    have p := pre_len (X := X) (tied := tied) (sc := sc) (k := k) (s := ouP X tied sc bd st m0 k)
    show (preP X tied sc k (ouP X tied sc bd st m0 k) ++ (inP X st bd _ _ _ (cnP X tied k) (6 + 11 * k) (cnP X tied k)).2).length ≤ _
    rw [List.length_append, inP_len]
    omega
def PlR (S S' : Store) (x : D) (X : Nat → Int) (tied : Bool) (sc bd : Int) : Prop := ∃ st m0, st ∈ [(1 : Int), 1, 1009] ∧ m0 ∈ [(0 : Int), -5, 1000003, -1000000000000] ∧ IsN S S' x (ouP X tied sc bd st m0 (1 + X 0).toNat).2
theorem planted_wp {K : Nat} (h : Ds X) (it : ∀ (i : Int) S', 0 ≤ i → i < 94 → itemR (some L) i S' = .ok (.int (X i.toNat)) S') (hq : getL S q = some L) (hsc : 0 < sc ∧ sc < 2 ^ 41) (hbd : 0 ≤ bd ∧ bd < 2 ^ 44) :
    Wp (callN prog fuel (K + 1) "_law_planted" [.ref q, .bl tied, .int bd, .int sc] S) E fun x S' => PlR S S' x X tied sc bd := by
  have a0 := h.a0
  obtain ⟨m0, hm0, p1⟩ := pick (xs := [0, -5, 1000003, -1000000000000]) (i := X 1) h.a1.1 h.a1.2
  obtain ⟨st, hst, p4⟩ := pick (xs := [1, 1, 1009]) (i := X 4) h.a4.1 h.a4.2
  have lst : 1 ≤ st ∧ st ≤ 1009 := by simp at hst; omega
  simp at p1 p4
  have i0 : ∀ S', itemR (some L) 0 S' = .ok (.int (X 0)) S' := fun S' => it 0 S' (by omega) (by omega)
  have i1 : ∀ S', itemR (some L) 1 S' = .ok (.int (X 1)) S' := fun S' => it 1 S' (by omega) (by omega)
  have hqa : ∀ T, getL (S ++ T) q = some L := fun T => Ext.one.getL hq
  apply wp_callN lk__law_planted rfl
  simp only [d__law_planted]
  simp [wpx, wpo, wps, hq, hqa, i0, i1, p1]
  refine for_rng (fun k => PO S q (S.length + 1) tied sc bd (ouP X tied sc bd st m0 k)) (by omega) (by omega) (by omega) (by omega) ⟨Ext.one, by simp [getL, ouP], _, _, _, _, _, _, _, rfl⟩ ?_ ?_
  · rintro k e S2 hk ⟨hE, hg, x7, x8, x9, x10, x11, x12, x13, rfl⟩
    have e1 : (0 : Int) + (k : Int) = (k : Int) := by omega
    rw [e1]
    refine ⟨_, bind_name (by simp), ?_⟩
    have hk8 : k < 8 := by omega
    have q2 := hE.getL hq
    have d0 := h.d0 k hk8
    have j0 : ∀ S', itemR (some L) (6 + 11 * (k : Int)) S' = .ok (.int (X (6 + 11 * k))) S' := fun S' => by
      rw [it _ S' (by omega) (by omega)]; congr 3
    have j1 : ∀ S', itemR (some L) (6 + 11 * (k : Int) + 1) S' = .ok (.int (X (6 + 11 * k + 1))) S' := fun S' => by
      rw [it _ S' (by omega) (by omega)]; congr 3
    have j2 : ∀ S', itemR (some L) (6 + 11 * (k : Int) + 2) S' = .ok (.int (X (6 + 11 * k + 2))) S' := fun S' => by
      rw [it _ S' (by omega) (by omega)]; congr 3
    have d2 := h.d2 k hk8
    have zs : IZ sc 41 := ⟨by omega⟩
    have z2 : IZ (X (6 + 11 * k + 2) - 6) 4 := ⟨by omega⟩
    have zk : IZ (k : Int) 4 := ⟨by omega⟩
    have m11 : Sm 11 (k : Int) := sm_iz (by omega)
    have m2 : Sm (X (6 + 11 * k + 2) - 6) sc := sm_iz (by omega)
    have hl := ou_len (tied := tied) (sc := sc) (bd := bd) (st := st) (m0 := m0) h k (by omega)
    have eo : ouP X tied sc bd st m0 (k + 1) = ((inP X st bd ((X (6 + 11 * k + 4) - 6) * sc) (bgP X tied sc k (gpP X k (ouP X tied sc bd st m0 k).1.1).1 (ouP X tied sc bd st m0 k).1.2).1.1 (bgP X tied sc k (gpP X k (ouP X tied sc bd st m0 k).1.1).1 (ouP X tied sc bd st m0 k).1.2).1.2 (cnP X tied k) (6 + 11 * k) (cnP X tied k)).1, preP X tied sc k (ouP X tied sc bd st m0 k) ++ (inP X st bd ((X (6 + 11 * k + 4) - 6) * sc) (bgP X tied sc k (gpP X k (ouP X tied sc bd st m0 k).1.1).1 (ouP X tied sc bd st m0 k).1.2).1.1 (bgP X tied sc k (gpP X k (ouP X tied sc bd st m0 k).1.1).1 (ouP X tied sc bd st m0 k).1.2).1.2 (cnP X tied k) (6 + 11 * k) (cnP X tied k)).2) := rfl
    have pl := pre_last (X := X) (tied := tied) (sc := sc) (k := k) (s := ouP X tied sc bd st m0 k) (ou_last k)
    have pn := pre_len (X := X) (tied := tied) (sc := sc) (k := k) (s := ouP X tied sc bd st m0 k)
    rw [eo]
    generalize ouP X tied sc bd st m0 k = s at *
    obtain ⟨⟨mo, up⟩, row⟩ := s
    have rest := fun (S3 : Store) (hE3 : Ext S S3) hg3 x9 x10 x11 x12 x13 => rest_wp (RT := fun x S' => PlR S S' x X tied sc bd) (EX := fun c _ S' => E c S') (BK := fun e S_8 => Wp (varR e[6]? S_8) (fun c S => E c S) fun x S' => PlR S S' x X tied sc bd) (S := S3) (K := K) (x9 := x9) (x10 := x10) (x11 := x11) (x12 := x12) (x13 := x13) (tied := tied) (sc := sc) (bd := bd) h it hq hE3 (show S.length ≤ S.length + 1 by omega) hg3 pl (by simp only at hl pn; omega) hk8 hsc hbd lst p4
    have hl5 : row.length ≤ 40 := by simp only at hl; omega
    have ll1 : row.length < lim := by unfold lim; omega
    have ll2 : row.length + 1 < lim := by unfold lim; omega
    have hlt := getL_lt hg
    simp only at hg
    by_cases c1 : X (6 + 11 * k) = 0
    · by_cases c2 : k = 0
      · have eg : gpP X k mo = (mo, []) := by unfold gpP; rw [if_neg (by omega)]
        have ef : bgP X tied sc k mo up = ((mo + 1 + X (6 + 11 * k + 1), up + (X (6 + 11 * k + 2) - 6) * sc), [(mo + 1 + X (6 + 11 * k + 1), some (up + (X (6 + 11 * k + 2) - 6) * sc))]) := by unfold bgP; rw [if_pos (.inl c1)]
        have ep : preP X tied sc k ((mo, up), row) = row ++ [] ++ [(mo + 1 + X (6 + 11 * k + 1), some (up + (X (6 + 11 * k + 2) - 6) * sc))] := by unfold preP; simp only [eg, ef]
        simp only [ep, eg, ef] at rest ⊢
        have c2' : ¬ (0 : Int) < (k : Int) := by omega
        have c2'' : ¬ 0 < k := by omega
        have this := rest (S2.set (S.length + 1) (.lst (row.map enD ++ [enD (mo + 1 + X (6 + 11 * k + 1), some (up + (X (6 + 11 * k + 2) - 6) * sc))]))) (hE.set (by omega)) (by rw [getL_set hlt]; simp) x9 x10 x11 x12 x13
        simp only [plR, wp_cons, exB_nil] at this
        simp [wpx, wpo, wps, q2, hg, j0, c1, c2', c2'', m11, eqD_int, ll1, ll2, j1, j2, m2, enD, numD] at this ⊢
        exact this
      · have c2' : (0 : Int) < (k : Int) := by omega
        have c2'' : 0 < k := by omega
        have eg : gpP X k mo = (mo + 1, [(mo + 1, none)]) := by unfold gpP; rw [if_pos ⟨c1, c2''⟩]
        have ef : bgP X tied sc k (mo + 1) up = ((mo + 1 + 1 + X (6 + 11 * k + 1), up + (X (6 + 11 * k + 2) - 6) * sc), [(mo + 1 + 1 + X (6 + 11 * k + 1), some (up + (X (6 + 11 * k + 2) - 6) * sc))]) := by unfold bgP; rw [if_pos (.inl c1)]
        have ep : preP X tied sc k ((mo, up), row) = row ++ [(mo + 1, none)] ++ [(mo + 1 + 1 + X (6 + 11 * k + 1), some (up + (X (6 + 11 * k + 2) - 6) * sc))] := by unfold preP; simp only [eg, ef]
        simp only [ep, eg, ef] at rest ⊢
        have this := rest ((S2.set (S.length + 1) (.lst (row.map enD ++ [enD (mo + 1, none)]))).set (S.length + 1) (.lst (row.map enD ++ [enD (mo + 1, none)] ++ [enD (mo + 1 + 1 + X (6 + 11 * k + 1), some (up + (X (6 + 11 * k + 2) - 6) * sc))]))) ((hE.set (by omega)).set (by omega)) (by rw [getL_set (by simpa using hlt)]; simp) x9 x10 x11 x12 x13
        simp only [plR, wp_cons, exB_nil] at this
        have gs : getL (S2.set (S.length + 1) (.lst (row.map enD ++ [.tup [.int (mo + 1), .non]]))) q = some L := by rw [getL_set_ne (by have := getL_lt hq; omega)]; exact q2
        have gs2 : getL (S2.set (S.length + 1) (.lst (row.map enD ++ [.tup [.int (mo + 1), .non]]))) (S.length + 1) = some (row.map enD ++ [.tup [.int (mo + 1), .non]]) := getL_set hlt
        simp [wpx, wpo, wps, q2, hg, j0, c1, c2', c2'', m11, eqD_int, ll1, gs, gs2, ll2, j1, j2, m2, enD, numD] at this ⊢
        exact this
    · have eg : gpP X k mo = (mo, []) := by unfold gpP; rw [if_neg (fun z => c1 z.1)]
      by_cases c3 : k = 0 ∨ tied = false
      · have ef : bgP X tied sc k mo up = ((mo + 1 + X (6 + 11 * k + 1), up + (X (6 + 11 * k + 2) - 6) * sc), [(mo + 1 + X (6 + 11 * k + 1), some (up + (X (6 + 11 * k + 2) - 6) * sc))]) := by unfold bgP; rw [if_pos (.inr c3)]
        have ep : preP X tied sc k ((mo, up), row) = row ++ [] ++ [(mo + 1 + X (6 + 11 * k + 1), some (up + (X (6 + 11 * k + 2) - 6) * sc))] := by unfold preP; simp only [eg, ef]
        simp only [ep, eg, ef] at rest ⊢
        have this := rest (S2.set (S.length + 1) (.lst (row.map enD ++ [enD (mo + 1 + X (6 + 11 * k + 1), some (up + (X (6 + 11 * k + 2) - 6) * sc))]))) (hE.set (by omega)) (by rw [getL_set hlt]; simp) x9 x10 x11 x12 x13
        simp only [plR, wp_cons, exB_nil] at this
        by_cases c4 : k = 0
        · have hT : (k = 0) = True := eq_true c4
          simp [wpx, wpo, wps, q2, hg, j0, c1, hT, m11, eqD_int, ll1, ll2, j1, j2, m2, enD, numD] at this ⊢
          exact this
        · have c5 : tied = false := c3.resolve_left c4
          subst c5
          simp [wpx, wpo, wps, q2, hg, j0, c1, c4, m11, eqD_int, ll1, ll2, j1, j2, m2, enD, numD] at this ⊢
          exact this
      · have c4 : ¬ k = 0 := fun z => c3 (.inl z)
        have c5 : tied = true := by cases tied <;> simp at c3 ⊢
        subst c5
        have ef : bgP X true sc k mo up = ((mo, up), []) := by unfold bgP; rw [if_neg (by simp; omega)]
        have ep : preP X true sc k ((mo, up), row) = row ++ [] ++ [] := by unfold preP; simp only [eg, ef]
        simp only [ep, eg, ef] at rest ⊢
        have this := rest S2 hE (by simpa using hg) x9 x10 x11 x12 x13
        simp only [plR, wp_cons, exB_nil] at this
        simp [wpx, wpo, wps, q2, hg, j0, c1, c4, m11, eqD_int, ll1, ll2, j1, j2, m2, enD, numD] at this ⊢
        exact this
  · rintro e S2 ⟨hE, hg, x7, x8, x9, x10, x11, x12, x13, rfl⟩
    have en : (1 + X 0 - 0).toNat = (1 + X 0).toNat := by omega
    rw [en] at hg
    simp [wpx, wpo, wps]
    exact ⟨st, m0, hst, hm0, hE, _, rfl, by omega, hg⟩
end
end LawP
namespace LawP
set_option exponentiation.threshold 9000
open Lt LawT
open PySem (Str)
section
variable {k : Nat} {S : Store} {E : XP} {L : List D} {X : Nat → Int} {q : Nat}
/-- pieces that go on as the one ahead -/
def onF (X : Nat → Int) (k : Nat) : Bool := decide (0 < X (6 + 11 * k)) && decide (X (6 + 11 * k + 4) = X (6 + 11 * (k - 1) + 4))
def exF (X : Nat → Int) : Nat → Int
  | 0 => 1 + X 0
  | i + 1 => if onF X (i + 1) then exF X i - 1 else exF X i
theorem exact_wp (h : Ds X) (it : ∀ (i : Int) S', 0 ≤ i → i < 94 → itemR (some L) i S' = .ok (.int (X i.toNat)) S') (hq : getL S q = some L) :
    Wp (callN prog fuel (k + 1) "_law_exact" [.ref q] S) E fun x S' => S' = S ∧ x = .int (exF X (X 0).toNat) := by
  have a0 := h.a0
  have i0 : ∀ S', itemR (some L) 0 S' = .ok (.int (X 0)) S' := fun S' => it 0 S' (by omega) (by omega)
  apply wp_callN lk__law_exact rfl
  simp only [d__law_exact]
  simp [wpx, wpo, wps, hq, i0]
  refine for_rng (fun i e S2 => S2 = S ∧ ∃ x2 x3, e = [some (.ref q), some (.int (exF X i)), x2, x3]) (by omega) (by omega) (by omega) (by omega) ⟨rfl, _, _, rfl⟩ ?_ ?_
  · rintro i e S2 hi ⟨rfl, x2, x3, rfl⟩
    have e1 : (1 : Int) + (i : Int) = ((i + 1 : Nat) : Int) := by omega
    rw [e1]
    refine ⟨_, bind_name (by simp), ?_⟩
    have m11 : Sm 11 ((i + 1 : Nat) : Int) := sm100 (by decide) (by omega)
    have j0 : ∀ S', itemR (some L) (6 + 11 * ((i + 1 : Nat) : Int)) S' = .ok (.int (X (6 + 11 * (i + 1)))) S' := fun S' => by
      rw [it _ S' (by omega) (by omega)]; congr 3
    have j4 : ∀ S', itemR (some L) (6 + 11 * ((i + 1 : Nat) : Int) + 4) S' = .ok (.int (X (6 + 11 * (i + 1) + 4))) S' := fun S' => by
      rw [it _ S' (by omega) (by omega)]; congr 3
    have j7 : ∀ S', itemR (some L) (6 + 11 * ((i + 1 : Nat) : Int) - 7) S' = .ok (.int (X (6 + 11 * (i + 1 - 1) + 4))) S' := fun S' => by
      rw [it _ S' (by omega) (by omega)]
      congr 3
      omega
    have en : exF X (i + 1) = if onF X (i + 1) then exF X i - 1 else exF X i := rfl
    rw [en]
    unfold onF
    generalize ((i + 1 : Nat) : Int) = K at *
    by_cases c1 : 0 < X (6 + 11 * (i + 1))
    · by_cases c2 : X (6 + 11 * (i + 1) + 4) = X (6 + 11 * (i + 1 - 1) + 4)
      · simp only [c1, c2, decide_true, Bool.and_self, if_true]
        simp [wpx, wpo, wps, hq, m11, j0, j4, j7, c1, c2, eqD_int]
      · simp only [c1, c2, decide_true, decide_false, Bool.and_false, Bool.false_eq_true, if_false]
        simp [wpx, wpo, wps, hq, m11, j0, j4, j7, c1, c2, eqD_int]
        exact fun z => absurd z c2
    · simp only [c1, decide_false, Bool.false_and, Bool.false_eq_true, if_false]
      simp [wpx, wpo, wps, hq, m11, j0, c1]
  · rintro e S2 ⟨rfl, x2, x3, rfl⟩
    have en : (1 + X 0 - 1).toNat = (X 0).toNat := by omega
    rw [en]
    simp [wpx, wpo, wps]
end
end LawP
namespace LawP
set_option exponentiation.threshold 9000
open Lt LawT
open PySem (Str)
section
variable {X : Nat → Int} {tied : Bool} {sc bd st m0 : Int}
def RI (row : List EnN) (mo : Int) : Prop := RowN 130 row ∧ ∀ e ∈ row, e.1 ≤ mo
theorem RI.snoc {row : List EnN} {mo m : Int} {v : Option Int} (h : RI row mo) (hm : mo < m) (hn : m.natAbs < 2 ^ 42) (hv : ∀ q, v = some q → q.natAbs < 2 ^ 130) : RI (row ++ [(m, v)]) m := rown_snoc h.1 h.2 hm hn hv
theorem fdiv3_b {x : Int} (h : x.natAbs < 2 ^ 60) : (x.fdiv 3).natAbs < 2 ^ 60 := by
  rw [Int.fdiv_eq_ediv_of_nonneg _ (by decide)]
  omega
theorem inP_RI (h : Ds X) {sp u0 : Int} {cnt k : Nat} (hk : k < 8) (hst : 1 ≤ st ∧ st ≤ 1009) (hbd : 0 ≤ bd ∧ bd < 2 ^ 44) (hsp : sp.natAbs < 2 ^ 45) (hu : u0.natAbs < 2 ^ 64) {mo : Int} (hm : mo.natAbs < 2 ^ 41) {pre : List EnN} (hp : RI pre mo) :
    ∀ j, j ≤ 3 → RI (pre ++ (inP X st bd sp mo u0 cnt (6 + 11 * k) j).2) (inP X st bd sp mo u0 cnt (6 + 11 * k) j).1.1
  | 0, _ => by simpa [inP] using hp
  | j + 1, hj => by
    have ih := inP_RI h (sp := sp) (u0 := u0) (cnt := cnt) hk hst hbd hsp hu hm hp j (by omega)
    have b1 := inP_b (bd := bd) (sp := sp) (m0 := mo) (u0 := u0) (cnt := cnt) h hk hst (j + 1) hj
    have d5 := h.d5 k j hk (by omega)
    have d6 := h.d6 k j hk (by omega)
    have e1 : 1 * 1 ≤ (1 + X (6 + 11 * k + 5 + 2 * j)) * st := Int.mul_le_mul (by omega) hst.1 (by omega) (by omega)
    have enx : inP X st bd sp mo u0 cnt (6 + 11 * k) (j + 1) = ((((inP X st bd sp mo u0 cnt (6 + 11 * k) j).1.1 + (1 + X ((6 + 11 * k) + 5 + 2 * j)) * st), u0 + sp * ((inP X st bd sp mo u0 cnt (6 + 11 * k) j).1.1 + (1 + X ((6 + 11 * k) + 5 + 2 * j)) * st - mo)),
      (inP X st bd sp mo u0 cnt (6 + 11 * k) j).2 ++ [((inP X st bd sp mo u0 cnt (6 + 11 * k) j).1.1 + (1 + X ((6 + 11 * k) + 5 + 2 * j)) * st, some (u0 + sp * ((inP X st bd sp mo u0 cnt (6 + 11 * k) j).1.1 + (1 + X ((6 + 11 * k) + 5 + 2 * j)) * st - mo) + (if j + 1 < cnt then ((X ((6 + 11 * k) + 6 + 2 * j) - 3) * bd).fdiv 3 else 0)))]) := rfl
    rw [enx] at b1 ⊢
    simp only at b1 ⊢
    rw [← List.append_assoc]
    refine ih.snoc (by omega) (by omega) (fun q hq => ?_)
    cases hq
    generalize (inP X st bd sp mo u0 cnt (6 + 11 * k) j).1.1 + (1 + X ((6 + 11 * k) + 5 + 2 * j)) * st = M at *
    have p1 := natAbs_mul_lt (a := sp) (b := M - mo) (n := 45) (m := 14) hsp (by omega)
    have p2 := natAbs_mul_lt (a := X ((6 + 11 * k) + 6 + 2 * j) - 3) (b := bd) (n := 3) (m := 44) (by omega) (by omega)
    have p3 := fdiv3_b (x := (X ((6 + 11 * k) + 6 + 2 * j) - 3) * bd) (by omega)
    generalize sp * (M - mo) = y at *
    generalize ((X ((6 + 11 * k) + 6 + 2 * j) - 3) * bd).fdiv 3 = z at *
    split <;> omega
end
end LawP
namespace LawP
set_option exponentiation.threshold 9000
open Lt LawT
open PySem (Str)
section
variable {X : Nat → Int} {tied : Bool} {sc bd st m0 : Int}
theorem inP_up (h : Ds X) {sp u0 mo : Int} {cnt k : Nat} (hk : k < 8) (hst : 1 ≤ st ∧ st ≤ 1009) (hsp : sp.natAbs < 2 ^ 45) : ∀ j, j ≤ 3 → ((inP X st bd sp mo u0 cnt (6 + 11 * k) j).1.2 - u0).natAbs < 2 ^ 59
  | 0, _ => by show (u0 - u0).natAbs < _; rw [Int.sub_self]; decide
  | j + 1, hj => by
    have b1 := inP_b (bd := bd) (sp := sp) (m0 := mo) (u0 := u0) (cnt := cnt) h hk hst (j + 1) hj
    have eu : (inP X st bd sp mo u0 cnt (6 + 11 * k) (j + 1)).1.2 = u0 + sp * ((inP X st bd sp mo u0 cnt (6 + 11 * k) (j + 1)).1.1 - mo) := rfl
    rw [eu]
    generalize (inP X st bd sp mo u0 cnt (6 + 11 * k) (j + 1)).1.1 = M at *
    have p1 := natAbs_mul_lt (a := sp) (b := M - mo) (n := 45) (m := 14) hsp (by omega)
    generalize sp * (M - mo) = y at *
    omega
theorem ou_RI (h : Ds X) (hst : 1 ≤ st ∧ st ≤ 1009) (hsc : 0 < sc ∧ sc < 2 ^ 41) (hbd : 0 ≤ bd ∧ bd < 2 ^ 44) (hm : -1000000000000 ≤ m0 ∧ m0 ≤ 1000003) : ∀ k, k ≤ 8 → RI (ouP X tied sc bd st m0 k).2 (ouP X tied sc bd st m0 k).1.1 ∧ (ouP X tied sc bd st m0 k).1.2.natAbs ≤ k * 2 ^ 60 ∧ m0 ≤ (ouP X tied sc bd st m0 k).1.1 ∧ (ouP X tied sc bd st m0 k).1.1 ≤ m0 + 9090 * k
  | 0, _ => ⟨⟨⟨List.Pairwise.nil, fun e he => (nomatch he)⟩, fun e he => (nomatch he)⟩, by show (0 : Int).natAbs ≤ _; simp, by show m0 ≤ m0; omega, by show m0 ≤ m0 + 9090 * 0; omega⟩
  | k + 1, hk => by
    obtain ⟨r1, r2, r3, r4⟩ := ou_RI h hst hsc hbd hm k (by omega)
    have hk8 : k < 8 := by omega
    have d1 := h.d1 k hk8
    have d2 := h.d2 k hk8
    have d4 := h.d4 k hk8
    have c := cnP_le (tied := tied) h hk8
    have eo : ouP X tied sc bd st m0 (k + 1) = ((inP X st bd ((X (6 + 11 * k + 4) - 6) * sc) (bgP X tied sc k (gpP X k (ouP X tied sc bd st m0 k).1.1).1 (ouP X tied sc bd st m0 k).1.2).1.1 (bgP X tied sc k (gpP X k (ouP X tied sc bd st m0 k).1.1).1 (ouP X tied sc bd st m0 k).1.2).1.2 (cnP X tied k) (6 + 11 * k) (cnP X tied k)).1, preP X tied sc k (ouP X tied sc bd st m0 k) ++ (inP X st bd ((X (6 + 11 * k + 4) - 6) * sc) (bgP X tied sc k (gpP X k (ouP X tied sc bd st m0 k).1.1).1 (ouP X tied sc bd st m0 k).1.2).1.1 (bgP X tied sc k (gpP X k (ouP X tied sc bd st m0 k).1.1).1 (ouP X tied sc bd st m0 k).1.2).1.2 (cnP X tied k) (6 + 11 * k) (cnP X tied k)).2) := rfl
    rw [eo]
    unfold preP
    generalize ouP X tied sc bd st m0 k = s at *
    obtain ⟨⟨mo, up⟩, row⟩ := s
    simp only at r1 r2 r3 r4 ⊢
    have p2 := natAbs_mul_lt (a := X (6 + 11 * k + 2) - 6) (b := sc) (n := 3) (m := 41) (by omega) (by omega)
    have p4 := natAbs_mul_lt (a := X (6 + 11 * k + 4) - 6) (b := sc) (n := 3) (m := 41) (by omega) (by omega)
    have g : RI (row ++ (gpP X k mo).2) (gpP X k mo).1 ∧ mo ≤ (gpP X k mo).1 ∧ (gpP X k mo).1 ≤ mo + 1 := by
      unfold gpP
      split
      · exact ⟨r1.snoc (by omega) (by omega) (fun q hq => nomatch hq), by show mo ≤ mo + 1; omega, by show mo + 1 ≤ mo + 1; omega⟩
      · exact ⟨by simpa using r1, by show mo ≤ mo; omega, by show mo ≤ mo + 1; omega⟩
    obtain ⟨g1, g2, g3⟩ := g
    generalize gpP X k mo = gp at *
    obtain ⟨mg, rg⟩ := gp
    simp only at g1 g2 g3 ⊢
    have f : RI (row ++ rg ++ (bgP X tied sc k mg up).2) (bgP X tied sc k mg up).1.1 ∧ mg ≤ (bgP X tied sc k mg up).1.1 ∧ (bgP X tied sc k mg up).1.1 ≤ mg + 4 ∧ (bgP X tied sc k mg up).1.2.natAbs ≤ k * 2 ^ 60 + 2 ^ 44 := by
      unfold bgP
      split
      · generalize (X (6 + 11 * k + 2) - 6) * sc = y at *
        refine ⟨g1.snoc (by omega) (by omega) (fun q hq => ?_), by show mg ≤ mg + 1 + _; omega, by show mg + 1 + _ ≤ _; omega, by show (up + y).natAbs ≤ _; omega⟩
        cases hq
        omega
      · exact ⟨by simpa using g1, by show mg ≤ mg; omega, by show mg ≤ mg + 4; omega, Nat.le_trans r2 (Nat.le_add_right _ _)⟩
    obtain ⟨f1, f2, f3, f4⟩ := f
    generalize bgP X tied sc k mg up = bg at *
    obtain ⟨⟨mb, ub⟩, rb⟩ := bg
    simp only at f1 f2 f3 f4 ⊢
    have i1 := inP_RI (bd := bd) (cnt := cnP X tied k) (u0 := ub) h hk8 hst hbd (sp := (X (6 + 11 * k + 4) - 6) * sc) (by omega) (by omega) (mo := mb) (by omega) f1 _ c
    have i2 := inP_up (bd := bd) (u0 := ub) (mo := mb) (cnt := cnP X tied k) h hk8 hst (sp := (X (6 + 11 * k + 4) - 6) * sc) (by omega) _ c
    have i3 := inP_b (bd := bd) (sp := (X (6 + 11 * k + 4) - 6) * sc) (m0 := mb) (u0 := ub) (cnt := cnP X tied k) h hk8 hst _ c
    refine ⟨i1, by omega, by omega, by omega⟩
end
end LawP
namespace LawP
set_option exponentiation.threshold 9000
open Lt LawT
open PySem (Str)
open L2 (Key)
theorem hS : HS prog := ⟨⟨lk_common, lk_ratio⟩, lk_plus, lk_minus, lk_times, lk_over⟩
theorem hFar : HFar prog fuel := ⟨hS, Nat.le_refl _, lk_order, lk_size, lk_slope, lk_line_by, lk_height, lk_off, ⟨_, _, lk_farthest, rfl, rfl⟩⟩
theorem hLab : HLab prog fuel := ⟨hFar, ⟨_, _, lk_far_table, rfl, rfl⟩, ⟨_, _, lk_end_place, rfl, rfl⟩, ⟨_, _, lk_leads, rfl, rfl⟩, ⟨_, _, lk_labels_by, rfl, rfl⟩, ⟨_, _, lk_places_of, rfl, rfl⟩⟩
theorem hTel : HTel prog fuel := ⟨hLab, ⟨_, _, lk_bars_by, rfl, rfl⟩, ⟨_, _, lk_begin_of, rfl, rfl⟩, ⟨_, _, lk_run_pieces, rfl, rfl⟩, ⟨_, _, lk_piece_between, rfl, rfl⟩, ⟨_, _, lk_told_by, rfl, rfl⟩, lk_runs⟩
section
variable {k : Nat} {S : Store} {E : XP}
theorem count_wp {r : Nat} {es : List Ent} {q : Rat} {tied : Bool} (hr : getL S r = some (es.map entD)) (hup : es.Pairwise fun a c => a.1 < c.1) (hz : ∀ e ∈ es, ∀ q, e.2 = some q → SmB (e.1, q)) (hl : es.length ≤ 100) (hq : Sz 1000 q) :
    Wp (callN prog fuel (k + 11) "_law_count" [.ref r, rD q, .bl tied] S) E fun x S' => Ext S S' ∧ x = .int ((telF (sruns es) q tied).length : Nat) := by
  apply wp_callN lk__law_count rfl
  simp only [d__law_count]
  cases tied with
  | true =>
    simp [wpx, wpo, wps]
    apply wp_callN lk_chain rfl
    simp only [d_chain, b_chain]
    simp [wpx, wpo, wps]
    refine (told_by_wp (k := k) (tied := true) hTel hr hup hz hl hq).imp ?_
    rintro x S3 ⟨⟨te, pa, h3, rfl, _, _, gte, _⟩, htlen⟩
    simp [wpx, wpo, wps, gte]
    exact h3
  | false =>
    simp [wpx, wpo, wps]
    apply wp_callN lk_spans rfl
    simp only [d_spans, b_spans]
    simp [wpx, wpo, wps]
    refine (told_by_wp (k := k) (tied := false) hTel hr hup hz hl hq).imp ?_
    rintro x S3 ⟨⟨te, pa, h3, rfl, _, _, gte, _⟩, htlen⟩
    simp [wpx, wpo, wps, gte]
    exact h3
end
end LawP
set_option maxRecDepth 100000
set_option maxHeartbeats 2000000
namespace LawP
set_option exponentiation.threshold 9000
open Lt LawT
open PySem (Str)
section
variable {X : Nat → Int} {tied : Bool} {sc bd st m0 b : Int}
def pshF (X : Nat → Int) (bd : Int) (cnt a i : Nat) : Int := if i + 1 < cnt then ((X (a + 6 + 2 * i) - 3) * bd).fdiv 3 else 0
theorem inP_get {sp u0 : Int} {cnt a : Nat} : ∀ j i, i < j → (inP X st bd sp m0 u0 cnt a j).2[i]? = some ((inP X st bd sp m0 u0 cnt a (i + 1)).1.1, some (u0 + sp * ((inP X st bd sp m0 u0 cnt a (i + 1)).1.1 - m0) + pshF X bd cnt a i))
  | 0, i, h => by omega
  | j + 1, i, h => by
    by_cases c : i < j
    · have ih := inP_get (sp := sp) (u0 := u0) (cnt := cnt) (a := a) j i c
      show ((inP X st bd sp m0 u0 cnt a j).2 ++ [_])[i]? = _
      rw [List.getElem?_append_left (by rw [inP_len]; exact c)]
      exact ih
    · have e : i = j := by omega
      subst e
      show ((inP X st bd sp m0 u0 cnt a i).2 ++ [_])[i]? = _
      rw [List.getElem?_append_right (by rw [inP_len]; exact Nat.le_refl _), inP_len]
      simp
      exact ⟨rfl, rfl⟩
theorem psh_bd (h : Ds X) (hbd : 0 ≤ bd) {cnt k i : Nat} (hk : k < 8) (hi : i < 3) : -bd ≤ pshF X bd cnt (6 + 11 * k) i ∧ pshF X bd cnt (6 + 11 * k) i ≤ bd := by
  unfold pshF
  split
  · have d := h.d6 k i hk hi
    generalize X (6 + 11 * k + 6 + 2 * i) = x at *
    have e1 : (x - 3) * bd ≤ 3 * bd := Int.mul_le_mul_of_nonneg_right (by omega) hbd
    have e2 : (-3) * bd ≤ (x - 3) * bd := Int.mul_le_mul_of_nonneg_right (by omega) hbd
    rw [Int.fdiv_eq_ediv_of_nonneg _ (by decide)]
    generalize (x - 3) * bd = y at *
    omega
  · omega
theorem psh_zero {cnt a i : Nat} : pshF X 0 cnt a i = 0 := by
  unfold pshF
  split
  · rw [Int.mul_zero]; rfl
  · rfl
theorem div_abs {P bd b : Int} (hb : 0 < b) (h1 : -bd ≤ P) (h2 : P ≤ bd) : absQ (Rat.divInt P b) ≤ Rat.divInt bd b := by
  have hbr : (0 : Rat) < (b : Rat) := by have : ((0 : Int) : Rat) < (b : Rat) := Rat.intCast_lt_intCast.mpr hb; simpa using this
  have e1 : (P : Rat) ≤ (bd : Rat) := Rat.intCast_le_intCast.mpr h2
  have e2 : -(bd : Rat) ≤ (P : Rat) := by have : ((-bd : Int) : Rat) ≤ (P : Rat) := Rat.intCast_le_intCast.mpr h1; simpa using this
  rw [Rat.divInt_eq_div, Rat.divInt_eq_div, absQ_le]
  generalize (P : Rat) = p at *
  generalize (bd : Rat) = d at *
  generalize (b : Rat) = c at *
  have key : ∀ x : Rat, x ≤ d → x / c ≤ d / c := fun x hx => by
    by_cases k : x / c ≤ d / c
    · exact k
    · exfalso
      have q1 : 0 < (x / c - d / c) * c := Rat.mul_pos (by grind) hbr
      have q2 : (x / c - d / c) * c = x - d := by grind
      grind
  refine ⟨key p e1, ?_⟩
  have := key (-p) (by grind)
  have e : -p / c = -(p / c) := by grind
  grind
/-- a stretch of a planted row, behind a sample that stands in it -/
theorem stretch (h : Ds X) (hb : 0 < b) (hbd : 0 ≤ bd) {ts : List Smp} (hup : Up ts) {sp u0 mo : Int} {c k s : Nat} (hk : k < 8) (hc : 1 ≤ c) (hc3 : c ≤ 3) (hl : ts.length = s + 1 + c) (hs : sA ts s = (mo, Rat.divInt u0 b))
    (hv : ∀ i, i < c → sA ts (s + 1 + i) = smE (hdN b ((inP X st bd sp mo u0 c (6 + 11 * k) (i + 1)).1.1, some (u0 + sp * ((inP X st bd sp mo u0 c (6 + 11 * k) (i + 1)).1.1 - mo) + pshF X bd c (6 + 11 * k) i)))) :
    LeadQ ts s (s + c) (Rat.divInt bd b) ∧ (bd = 0 → OnL ts s (s + c) (Rat.divInt sp b)) := by
  have hbr : (b : Rat) ≠ 0 := by have : ((0 : Int) : Rat) < (b : Rat) := Rat.intCast_lt_intCast.mpr hb; grind
  have val : ∀ i, i < c → (sA ts (s + 1 + i)).2 = (sA ts s).2 + Rat.divInt sp b * (((sA ts (s + 1 + i)).1 : Rat) - ((sA ts s).1 : Rat)) + Rat.divInt (pshF X bd c (6 + 11 * k) i) b := fun i hi => by
    rw [hv i hi, hs]
    simp only [smE, hdN, Option.map_some, Option.getD_some]
    generalize (inP X st bd sp mo u0 c (6 + 11 * k) (i + 1)).1.1 = M
    generalize pshF X bd c (6 + 11 * k) i = P
    simp only [Rat.divInt_eq_div, Rat.intCast_add, Rat.intCast_mul, Rat.intCast_sub]
    grind
  have z0 : Rat.divInt 0 b = 0 := by simp
  constructor
  · refine lead_of (sp := Rat.divInt sp b) hup (by omega) (by omega) ?_ fun j j1 j2 => ?_
    · have := val (c - 1) (by omega)
      rw [show s + 1 + (c - 1) = s + c by omega] at this
      have e : pshF X bd c (6 + 11 * k) (c - 1) = 0 := by unfold pshF; rw [if_neg (by omega)]
      rw [this, e, z0]
      grind
    · obtain ⟨i, rfl⟩ : ∃ i, j = s + 1 + i := ⟨j - s - 1, by omega⟩
      have := val i (by omega)
      have pb := psh_bd (cnt := c) h hbd hk (show i < 3 by omega)
      have e : (sA ts (s + 1 + i)).2 - ((sA ts s).2 + Rat.divInt sp b * (((sA ts (s + 1 + i)).1 : Rat) - ((sA ts s).1 : Rat))) = Rat.divInt (pshF X bd c (6 + 11 * k) i) b := by rw [this]; grind
      rw [e]
      exact div_abs hb pb.1 pb.2
  · intro hz
    subst hz
    intro j j1 j2
    by_cases c0 : j = s
    · subst c0; grind
    · obtain ⟨i, rfl⟩ : ∃ i, j = s + 1 + i := ⟨j - s - 1, by omega⟩
      have := val i (by omega)
      rw [psh_zero, z0] at this
      rw [this]
      grind
theorem sruns_up {R : List Ent} (hup : R.Pairwise fun a c => a.1 < c.1) : ∀ r ∈ sruns R, Up r := by
  intro r hr
  unfold sruns at hr
  obtain ⟨t, ht, rfl⟩ := List.mem_map.mp hr
  have h3 := (runs_all R).1
  have h4 : t.Sublist (runsF R).flatten := List.sublist_flatten_of_mem ht
  rw [h3] at h4
  have h5 := hup.sublist (h4.trans List.filter_sublist)
  have h6 : (t.map smE).Pairwise fun a c => a.1 < c.1 := by rw [List.pairwise_map]; exact h5
  intro i j hij hj
  have := List.pairwise_iff_getElem.mp h6 i j (by omega) hj hij
  simpa [sA, List.getD, List.getElem?_eq_getElem hj, List.getElem?_eq_getElem (show i < (t.map smE).length by omega)] using this
theorem inP_some {sp u0 : Int} {cnt a : Nat} {j : Nat} : ∀ e ∈ (inP X st bd sp m0 u0 cnt a j).2, e.2.isSome = true := by
  intro e he
  obtain ⟨i, hi, rfl⟩ := List.getElem_of_mem he
  rw [inP_len] at hi
  have := inP_get (X := X) (st := st) (bd := bd) (m0 := m0) (sp := sp) (u0 := u0) (cnt := cnt) (a := a) j i hi
  rw [List.getElem?_eq_getElem (by rw [inP_len]; exact hi)] at this
  rw [Option.some.inj this]
  rfl
/-- samples of a row's part -/
def smL (b : Int) (l : List EnN) : List Smp := l.map fun e => smE (hdN b e)
theorem smL_map {l : List EnN} : (l.map (hdN b)).map smE = smL b l := by unfold smL; rw [List.map_map]; rfl
theorem smL_last {l : List EnN} {m u : Int} (h : l.getLast? = some (m, some u)) : 1 ≤ l.length ∧ sA (smL b l) (l.length - 1) = (m, Rat.divInt u b) := by
  have h1 : 1 ≤ l.length := by
    cases l with
    | nil => cases h
    | cons _ _ => simp
  refine ⟨h1, ?_⟩
  rw [List.getLast?_eq_getElem?] at h
  unfold sA smL
  simp only [List.getD, List.getElem?_map, h]
  rfl
/-- what stands behind k pieces -/
structure PIv (X : Nat → Int) (tied : Bool) (sc bd st m0 b : Int) (k : Nat) : Prop where
  ex : ∃ (A : List (List Smp)) (l : List EnN), sruns ((ouP X tied sc bd st m0 k).2.map (hdN b)) = A ++ [smL b l] ∧ (if tied = true then 2 else 1) ≤ l.length ∧ l.getLast? = some ((ouP X tied sc bd st m0 k).1.1, some (ouP X tied sc bd st m0 k).1.2) ∧ A.length = (ouP X tied sc bd st m0 k).2.countP (fun e => e.2.isNone) ∧ (tied = true → bd = 0 → OnL (smL b l) (l.length - 2) (l.length - 1) (Rat.divInt ((X (6 + 11 * (k - 1) + 4) - 6) * sc) b))
  le : cntW (if tied = true then Way.chain else Way.spans) (sruns ((ouP X tied sc bd st m0 k).2.map (hdN b))) (Rat.divInt bd b) ≤ k
  ex0 : tied = true → bd = 0 → (cntW Way.chain (sruns ((ouP X tied sc bd st m0 k).2.map (hdN b))) 0 : Int) + (1 + X 0) = k + exF X (k - 1)
theorem piece_of (h : Ds X) (hb : 0 < b) (hbd : 0 ≤ bd) {sp u0 mo : Int} {c k : Nat} {pre : List EnN} (hk : k < 8) (hc : 1 ≤ c) (hc3 : c ≤ 3) (hp : pre.getLast? = some (mo, some u0)) (hup : Up (smL b (pre ++ (inP X st bd sp mo u0 c (6 + 11 * k) c).2))) :
    LeadQ (smL b (pre ++ (inP X st bd sp mo u0 c (6 + 11 * k) c).2)) (pre.length - 1) (pre.length - 1 + c) (Rat.divInt bd b) ∧ (bd = 0 → OnL (smL b (pre ++ (inP X st bd sp mo u0 c (6 + 11 * k) c).2)) (pre.length - 1) (pre.length - 1 + c) (Rat.divInt sp b)) := by
  obtain ⟨p1, p2⟩ := smL_last (b := b) hp
  refine stretch (st := st) (sp := sp) (u0 := u0) (mo := mo) (c := c) (s := pre.length - 1) h hb hbd hup hk hc hc3 (by simp [smL, inP_len]; omega) ?_ (fun i hi => ?_)
  · rw [← p2]
    unfold smL
    rw [List.map_append]
    exact sA_pre (by rw [List.length_map]; omega)
  · have q := inP_get (X := X) (st := st) (bd := bd) (m0 := mo) (sp := sp) (u0 := u0) (cnt := c) (a := 6 + 11 * k) c i hi
    unfold sA smL
    simp only [List.getD, List.getElem?_map]
    rw [List.getElem?_append_right (by omega)]
    rw [show pre.length - 1 + 1 + i - pre.length = i by omega, q]
    rfl
theorem piece_one (h : Ds X) (hb : 0 < b) (hbd : 0 ≤ bd) {sp u0 mo : Int} {c k : Nat} (hk : k < 8) (hc3 : c ≤ 3) (hup : Up (smL b ([(mo, some u0)] ++ (inP X st bd sp mo u0 c (6 + 11 * k) c).2))) :
    LeadQ (smL b ([(mo, some u0)] ++ (inP X st bd sp mo u0 c (6 + 11 * k) c).2)) 0 c (Rat.divInt bd b) := by
  by_cases hc : 1 ≤ c
  · have := (piece_of (st := st) (sp := sp) (u0 := u0) (mo := mo) (c := c) (pre := [(mo, some u0)]) h hb hbd hk hc hc3 rfl hup).1
    simpa using this
  · intro j j1 j2
    omega
theorem up_of (h : Ds X) (hst : 1 ≤ st ∧ st ≤ 1009) (hsc : 0 < sc ∧ sc < 2 ^ 41) (hbd : 0 ≤ bd ∧ bd < 2 ^ 44) (hm : -1000000000000 ≤ m0 ∧ m0 ≤ 1000003) {k : Nat} (hk : k ≤ 8) : ((ouP X tied sc bd st m0 k).2.map (hdN b)).Pairwise fun a c => a.1 < c.1 := by
  rw [List.pairwise_map]
  exact (ou_RI h hst hsc hbd hm k hk).1.1.1
theorem ou_shape (k : Nat) : ∃ mb ub g f, ouP X tied sc bd st m0 (k + 1) = ((inP X st bd ((X (6 + 11 * k + 4) - 6) * sc) mb ub (cnP X tied k) (6 + 11 * k) (cnP X tied k)).1, (ouP X tied sc bd st m0 k).2 ++ g ++ f ++ (inP X st bd ((X (6 + 11 * k + 4) - 6) * sc) mb ub (cnP X tied k) (6 + 11 * k) (cnP X tied k)).2) ∧
    ((k = 0 ∧ g = [] ∧ f = [(mb, some ub)]) ∨ (0 < k ∧ X (6 + 11 * k) = 0 ∧ (∃ mg, g = [(mg, none)]) ∧ f = [(mb, some ub)]) ∨ (0 < k ∧ X (6 + 11 * k) ≠ 0 ∧ tied = false ∧ g = [] ∧ f = [(mb, some ub)]) ∨ (0 < k ∧ X (6 + 11 * k) ≠ 0 ∧ tied = true ∧ g = [] ∧ f = [] ∧ (mb, ub) = (ouP X tied sc bd st m0 k).1)) := by
  refine ⟨_, _, _, _, rfl, ?_⟩
  by_cases h0 : k = 0
  · subst h0
    left
    refine ⟨rfl, ?_, ?_⟩
    · unfold gpP; rw [if_neg (by omega)]
    · unfold bgP; rw [if_pos (.inr (.inl rfl))]
  · right
    by_cases hx : X (6 + 11 * k) = 0
    · left
      refine ⟨by omega, hx, ⟨(ouP X tied sc bd st m0 k).1.1 + 1, ?_⟩, ?_⟩
      · unfold gpP; rw [if_pos ⟨hx, by omega⟩]
      · unfold bgP; rw [if_pos (.inl hx)]
    · right
      have hg : gpP X k (ouP X tied sc bd st m0 k).1.1 = ((ouP X tied sc bd st m0 k).1.1, []) := by unfold gpP; rw [if_neg (fun z => hx z.1)]
      rw [hg]
      cases tied with
      | false =>
        left
        refine ⟨by omega, hx, rfl, rfl, ?_⟩
        unfold bgP; rw [if_pos (.inr (.inr rfl))]
      | true =>
        right
        have hb : ∀ m u, bgP X true sc k m u = ((m, u), []) := fun m u => by unfold bgP; rw [if_neg (by rintro (z | z | z); exact hx z; exact h0 z; cases z)]
        refine ⟨by omega, hx, rfl, rfl, ?_, ?_⟩
        · rw [hb]
        · rw [hb]
theorem isNone_in {sp u0 mo : Int} {c a j : Nat} : ((inP X st bd sp mo u0 c a j).2).countP (fun e => e.2.isNone) = 0 := by
  rw [List.countP_eq_zero]
  intro e he
  have := inP_some e he
  cases h : e.2 with
  | none => rw [h] at this; cases this
  | some _ => simp [h]
theorem step (h : Ds X) (hb : 0 < b) (hst : 1 ≤ st ∧ st ≤ 1009) (hsc : 0 < sc ∧ sc < 2 ^ 41) (hbd : 0 ≤ bd ∧ bd < 2 ^ 44) (hm : -1000000000000 ≤ m0 ∧ m0 ≤ 1000003) {k : Nat} (hk : k < 8) (hv : k = 0 ∨ (0 < k ∧ PIv X tied sc bd st m0 b k)) : PIv X tied sc bd st m0 b (k + 1) := by
  have hq0 : 0 ≤ Rat.divInt bd b := by
    have := div_abs (P := 0) hb (by omega) hbd.1
    have z := absQ_nn (Rat.divInt 0 b)
    grind
  have hup := up_of (tied := tied) (b := b) h hst hsc hbd hm (show k + 1 ≤ 8 by omega)
  have c3 := cnP_le (tied := tied) h hk
  have c1 : tied = true → 1 ≤ cnP X tied k := fun ht => by unfold cnP; rw [ht]; simp
  obtain ⟨mb, ub, g, f, eo, hcase⟩ := ou_shape (X := X) (tied := tied) (sc := sc) (bd := bd) (st := st) (m0 := m0) k
  have hIs := inP_some (X := X) (st := st) (bd := bd) (m0 := mb) (sp := (X (6 + 11 * k + 4) - 6) * sc) (u0 := ub) (cnt := cnP X tied k) (a := 6 + 11 * k) (j := cnP X tied k)
  have hIn := isNone_in (X := X) (st := st) (bd := bd) (mo := mb) (sp := (X (6 + 11 * k + 4) - 6) * sc) (u0 := ub) (c := cnP X tied k) (a := 6 + 11 * k) (j := cnP X tied k)
  have hlast := fun (pre : List EnN) (hp : pre.getLast? = some (mb, some ub)) => inP_last (X := X) (st := st) (bd := bd) (sp := (X (6 + 11 * k + 4) - 6) * sc) (cnt := cnP X tied k) (a := 6 + 11 * k) hp
  have hpo := fun (pre : List EnN) (hc : 1 ≤ cnP X tied k) (hp : pre.getLast? = some (mb, some ub)) hu => piece_of (st := st) (sp := (X (6 + 11 * k + 4) - 6) * sc) (u0 := ub) (mo := mb) (c := cnP X tied k) (pre := pre) h hb hbd.1 hk hc c3 hp hu
  have hp1 := piece_one (st := st) (sp := (X (6 + 11 * k + 4) - 6) * sc) (u0 := ub) (mo := mb) (c := cnP X tied k) h hb hbd.1 hk c3
  have hIl := inP_len (X := X) (st := st) (bd := bd) (sp := (X (6 + 11 * k + 4) - 6) * sc) (m0 := mb) (u0 := ub) (cnt := cnP X tied k) (a := 6 + 11 * k) (cnP X tied k)
  rw [eo] at hup
  simp only at hup
  have hsome : ∀ (l : List EnN), (∀ e ∈ l, e.2.isSome = true) → ∀ e ∈ l.map (hdN b), e.2.isSome = true := fun l hl e he => by
    obtain ⟨x, hx, rfl⟩ := List.mem_map.mp he
    have := hl x hx
    simpa [hdN] using this
  generalize hI : inP X st bd ((X (6 + 11 * k + 4) - 6) * sc) mb ub (cnP X tied k) (6 + 11 * k) (cnP X tied k) = I at *
  generalize hrow : (ouP X tied sc bd st m0 k).2 = row at *
  -- a new run
  have new : ∀ A, f = [(mb, some ub)] → sruns ((row ++ g ++ f ++ I.2).map (hdN b)) = A ++ [smL b (f ++ I.2)] → A.length = (row ++ g).countP (fun e => e.2.isNone) → cntW (if tied = true then Way.chain else Way.spans) A (Rat.divInt bd b) ≤ k → (tied = true → bd = 0 → (cntW Way.chain A 0 : Int) + (1 + X 0) = k + exF X (k - 1) ∧ exF X k = exF X (k - 1)) → PIv X tied sc bd st m0 b (k + 1) := by
    intro A hf hr hA hcnt hex
    subst hf
    have hU : Up (smL b ([(mb, some ub)] ++ I.2)) := sruns_up hup _ (by rw [hr]; simp)
    have hl1 := hp1 hU
    have hlen : (smL b ([(mb, some ub)] ++ I.2)).length = 1 + cnP X tied k := by simp [smL, hIl]; omega
    have hone : cR (if tied = true then Way.chain else Way.spans) (Rat.divInt bd b) (smL b ([(mb, some ub)] ++ I.2)) = 1 := by
      cases ht : tied with
      | true =>
        have := c1 ht
        rw [if_pos rfl]
        exact cR_chain_one (by rw [hlen]; omega) (by rw [hlen, show 1 + cnP X tied k - 1 = cnP X tied k by omega]; exact hl1)
      | false =>
        rw [if_neg (by simp)]
        exact cR_span_one (by rw [hlen]; omega) (by rw [hlen, show 1 + cnP X tied k - 1 = cnP X tied k by omega]; exact hl1)
    refine ⟨⟨A, [(mb, some ub)] ++ I.2, ?_, ?_, ?_, ?_, ?_⟩, ?_, ?_⟩
    · rw [eo]; exact hr
    · rw [List.length_append, hIl]
      split
      · rename_i ht; have := c1 ht; simp; omega
      · simp
    · rw [eo]; exact hlast _ rfl
    · rw [eo, hA]
      simp only [List.countP_append, hIn]
      simp
    · intro ht hz
      have hc := c1 ht
      have := (hpo [(mb, some ub)] hc rfl hU).2 hz
      rw [List.length_append, hIl]
      refine this.sub (by simp) (by omega) (by first | (simp; done) | (simp; omega))
    · rw [eo]
      show cntW _ (sruns ((row ++ g ++ [(mb, some ub)] ++ I.2).map (hdN b))) _ ≤ _
      rw [hr, cntW_append, cntW_one (by rw [hlen]; omega), hone]
      omega
    · intro ht hz
      obtain ⟨q1, q2⟩ := hex ht hz
      rw [eo]
      show (cntW Way.chain (sruns ((row ++ g ++ [(mb, some ub)] ++ I.2).map (hdN b))) 0 : Int) + _ = _
      rw [hr, cntW_append, cntW_one (by rw [hlen]; omega)]
      have h1 : cR Way.chain 0 (smL b ([(mb, some ub)] ++ I.2)) = 1 := by
        rw [ht, hz, if_pos rfl] at hone
        have z : Rat.divInt 0 b = 0 := by simp
        rwa [z] at hone
      rw [h1, Nat.add_sub_cancel, q2]
      omega
  rcases hcase with ⟨hk0, rfl, rfl⟩ | ⟨hk0, hx, ⟨mg, rfl⟩, rfl⟩ | ⟨hk0, hx, ht, rfl, rfl⟩ | ⟨hk0, hx, ht, rfl, rfl, hmu⟩
  · subst hk0
    have hr0 : row = [] := hrow.symm
    subst hr0
    refine new [] rfl ?_ rfl (by show cntW _ [] _ ≤ 0; cases tied <;> exact Nat.le_refl _) (fun _ _ => ⟨by show (0 : Int) + (1 + X 0) = _; simp [exF], rfl⟩)
    have := sruns_some (B := ([(mb, some ub)] ++ I.2).map (hdN b)) (by simp) (hsome _ (fun e he => by
      rcases List.mem_append.mp he with z | z
      · rw [List.mem_singleton] at z; subst z; rfl
      · exact hIs e z))
    rw [smL_map] at this
    simpa using this
  · obtain ⟨⟨A, l, e1, e2, e3, e4, e5⟩, hle, hex0⟩ := (hv.resolve_left (by omega)).2
    rw [hrow] at e1 e4 hle hex0
    have ew : sruns (([(mb, some ub)] ++ I.2).map (hdN b)) = [smL b ([(mb, some ub)] ++ I.2)] := by
      have := sruns_some (B := ([(mb, some ub)] ++ I.2).map (hdN b)) (by simp) (hsome _ (fun e he => by
        rcases List.mem_append.mp he with z | z
        · rw [List.mem_singleton] at z; subst z; rfl
        · exact hIs e z))
      rwa [smL_map] at this
    refine new (sruns (row.map (hdN b))) rfl ?_ ?_ hle (fun ht hz => ⟨hex0 ht hz, ?_⟩)
    · have : (row ++ [(mg, none)] ++ [(mb, some ub)] ++ I.2).map (hdN b) = row.map (hdN b) ++ (mg, none) :: ([(mb, some ub)] ++ I.2).map (hdN b) := by simp [hdN]
      rw [this, sruns_gap, ew]
    · rw [e1, List.countP_append, ← e4]
      simp
    · obtain ⟨k', rfl⟩ : ∃ k', k = k' + 1 := ⟨k - 1, by omega⟩
      show (if onF X (k' + 1) then exF X k' - 1 else exF X k') = exF X (k' + 1 - 1)
      have : onF X (k' + 1) = false := by
        unfold onF
        rw [hx]
        simp
      rw [this]
      simp
  · subst ht
    obtain ⟨⟨A, l, e1, e2, e3, e4, e5⟩, hle, hex0⟩ := (hv.resolve_left (by omega)).2
    have hrl := ou_last (X := X) (tied := false) (sc := sc) (bd := bd) (st := st) (m0 := m0) k hk0
    rw [hrow] at e1 e4 hle hrl
    have hB : ∀ e ∈ ([(mb, some ub)] ++ I.2), e.2.isSome = true := fun e he => by
      rcases List.mem_append.mp he with z | z
      · rw [List.mem_singleton] at z; subst z; rfl
      · exact hIs e z
    have ew : sruns (([(mb, some ub)] ++ I.2).map (hdN b)) = [smL b ([(mb, some ub)] ++ I.2)] := by
      have := sruns_some (B := ([(mb, some ub)] ++ I.2).map (hdN b)) (by simp) (hsome _ hB)
      rwa [smL_map] at this
    have er : row ++ [] ++ [(mb, some ub)] ++ I.2 = row ++ ([(mb, some ub)] ++ I.2) := by simp
    rw [er, List.map_append] at hup
    have eon : sruns (row.map (hdN b) ++ ([(mb, some ub)] ++ I.2).map (hdN b)) = A ++ [smL b (l ++ ([(mb, some ub)] ++ I.2))] := by
      have := sruns_on (R := row.map (hdN b)) (B := ([(mb, some ub)] ++ I.2).map (hdN b)) ⟨_, by rw [List.getLast?_map, hrl]; rfl, rfl⟩ (by simp) (hsome _ hB) e1
      rw [this, smL_map]
      unfold smL
      rw [← List.map_append]
    have hU : Up (smL b ([(mb, some ub)] ++ I.2)) := sruns_up (List.pairwise_append.mp hup).2.1 _ (by rw [ew]; simp)
    have hlen : (smL b ([(mb, some ub)] ++ I.2)).length = 1 + cnP X false k := by simp [smL, hIl]; omega
    have hone : cR Way.spans (Rat.divInt bd b) (smL b ([(mb, some ub)] ++ I.2)) = 1 := cR_span_one (by rw [hlen]; omega) (by rw [hlen, show 1 + cnP X false k - 1 = cnP X false k by omega]; exact hp1 hU)
    refine ⟨⟨A, l ++ ([(mb, some ub)] ++ I.2), ?_, ?_, ?_, ?_, fun z => by cases z⟩, ?_, fun z => by cases z⟩
    · rw [eo]
      simp only
      rw [er, List.map_append]
      exact eon
    · rw [List.length_append]
      simp
      try omega
    · rw [eo, ← List.append_assoc]
      exact hlast (l ++ [(mb, some ub)]) (by simp)
    · rw [eo, e4]
      simp only [List.countP_append, hIn]
      simp
    · rw [eo]
      simp only
      rw [er, List.map_append]
      have rc := (row_cut (w := Way.spans) (L := row.map (hdN b)) (R := ([(mb, some ub)] ++ I.2).map (hdN b)) hup hq0).2.1
      rw [ew, cntW_one (by rw [hlen]; omega), hone] at rc
      have z : (if Way.spans.loose = true then 0 else 1) = 0 := rfl
      rw [z] at rc
      simp only [Bool.false_eq_true, if_false] at hle ⊢
      omega
  · subst ht
    obtain ⟨⟨A, l, e1, e2, e3, e4, e5⟩, hle, hex0⟩ := (hv.resolve_left (by omega)).2
    have hrl := ou_last (X := X) (tied := true) (sc := sc) (bd := bd) (st := st) (m0 := m0) k hk0
    have hc := c1 rfl
    rw [← hmu] at e3 hrl
    rw [hrow] at e1 e4 hle hrl hex0
    simp only [if_true] at e2 hle
    have hne : I.2 ≠ [] := by intro z; rw [z] at hIl; simp at hIl; omega
    have er : row ++ [] ++ [] ++ I.2 = row ++ I.2 := by simp
    rw [er, List.map_append] at hup
    have eon : sruns (row.map (hdN b) ++ I.2.map (hdN b)) = A ++ [smL b (l ++ I.2)] := by
      have := sruns_on (R := row.map (hdN b)) (B := I.2.map (hdN b)) ⟨_, by rw [List.getLast?_map, hrl]; rfl, rfl⟩ (by simpa using hne) (hsome _ hIs) e1
      rw [this, smL_map]
      unfold smL
      rw [← List.map_append]
    have hU : Up (smL b (l ++ I.2)) := sruns_up hup _ (by rw [eon]; simp)
    obtain ⟨st1, st2⟩ := hpo l hc e3 hU
    have hsp : smL b (l ++ I.2) = smL b l ++ smL b I.2 := by unfold smL; rw [List.map_append]
    have ll : (smL b l).length = l.length := by simp [smL]
    have lv : (smL b I.2).length = cnP X true k := by simp [smL, hIl]
    have lx : (smL b l).length + (smL b I.2).length - 1 = l.length - 1 + cnP X true k := by rw [ll, lv]; omega
    refine ⟨⟨A, l ++ I.2, ?_, ?_, ?_, ?_, ?_⟩, ?_, ?_⟩
    · rw [eo]
      simp only
      rw [er, List.map_append]
      exact eon
    · rw [List.length_append]; simp only [if_true]; omega
    · rw [eo]
      exact hlast l e3
    · rw [eo, e4]
      simp only [List.countP_append, hIn]
      simp
    · intro _ hz
      rw [List.length_append, hIl]
      exact (st2 hz).sub (by omega) (by omega) (by omega)
    · rw [eo]
      simp only [if_true]
      rw [er, List.map_append, eon, cntW_append, cntW_one (by rw [hsp, List.length_append]; omega), hsp]
      rw [e1, cntW_append, cntW_one (by rw [ll]; omega)] at hle
      have := cR_chain_step (q := Rat.divInt bd b) (u := smL b l) (v := smL b I.2) (by rw [ll]; omega) (by rw [lv]; omega) (by rw [← hsp, lx, ll]; exact st1)
      omega
    · intro _ hz
      have hx0 := hex0 rfl hz
      have hon := e5 rfl hz
      rw [eo]
      simp only
      rw [er, List.map_append, eon, cntW_append, cntW_one (by rw [hsp, List.length_append]; omega), hsp]
      rw [e1, cntW_append, cntW_one (by rw [ll]; omega)] at hx0
      have := cR_chain_zero (u := smL b l) (v := smL b I.2) (by rw [← hsp]; exact hU) (by rw [ll]; omega) (by rw [lv]; omega) (by rw [ll]; exact hon) (by rw [← hsp, lx, ll]; exact st2 hz)
      rw [this]
      obtain ⟨k', rfl⟩ : ∃ k', k = k' + 1 := ⟨k - 1, by omega⟩
      have hxf : exF X (k' + 1 + 1 - 1) = if onF X (k' + 1) then exF X k' - 1 else exF X k' := rfl
      rw [hxf]
      have heq : (Rat.divInt ((X (6 + 11 * (k' + 1 - 1) + 4) - 6) * sc) b = Rat.divInt ((X (6 + 11 * (k' + 1) + 4) - 6) * sc) b) ↔ onF X (k' + 1) = true := by
        have hbr : (b : Rat) ≠ 0 := by have : ((0 : Int) : Rat) < (b : Rat) := Rat.intCast_lt_intCast.mpr hb; grind
        have d0 := (h.d0 (k' + 1) hk).1
        unfold onF
        rw [Bool.and_eq_true, decide_eq_true_eq, decide_eq_true_eq]
        constructor
        · intro z
          refine ⟨by omega, ?_⟩
          rw [Rat.divInt_eq_div, Rat.divInt_eq_div] at z
          have z2 : (((X (6 + 11 * (k' + 1 - 1) + 4) - 6) * sc : Int) : Rat) = (((X (6 + 11 * (k' + 1) + 4) - 6) * sc : Int) : Rat) := by
            generalize (((X (6 + 11 * (k' + 1 - 1) + 4) - 6) * sc : Int) : Rat) = x at *
            generalize (((X (6 + 11 * (k' + 1) + 4) - 6) * sc : Int) : Rat) = y at *
            grind
          have z3 := Rat.intCast_inj.mp z2
          have := Int.eq_of_mul_eq_mul_right (by omega) z3
          omega
        · rintro ⟨_, z⟩
          rw [z]
      by_cases ho : onF X (k' + 1) = true
      · rw [if_pos (heq.mpr ho), if_pos ho]
        simp only [Nat.add_sub_cancel] at hx0 ⊢
        omega
      · rw [if_neg (fun z => ho (heq.mp z)), if_neg ho]
        simp only [Nat.add_sub_cancel] at hx0 ⊢
        omega
end
end LawP
set_option maxRecDepth 100000
set_option maxHeartbeats 2000000
namespace LawP
set_option exponentiation.threshold 9000
open Lt LawT
open PySem (Str)
section
variable {X : Nat → Int} {tied : Bool} {sc bd st m0 b : Int}
theorem all_k (h : Ds X) (hb : 0 < b) (hst : 1 ≤ st ∧ st ≤ 1009) (hsc : 0 < sc ∧ sc < 2 ^ 41) (hbd : 0 ≤ bd ∧ bd < 2 ^ 44) (hm : -1000000000000 ≤ m0 ∧ m0 ≤ 1000003) : ∀ k, k < 8 → PIv X tied sc bd st m0 b (k + 1)
  | 0, hk => step h hb hst hsc hbd hm hk (.inl rfl)
  | k + 1, hk => step h hb hst hsc hbd hm hk (.inr ⟨by omega, all_k h hb hst hsc hbd hm k (by omega)⟩)
/-- what the law asks of the count -/
structure Fine (X : Nat → Int) (tied : Bool) (bd b : Int) (row : List EnN) : Prop where
  le : ((telF (sruns (row.map (hdN b))) (Rat.divInt bd b) tied).length : Int) ≤ 1 + X 0
  ge : 1 + row.countP (fun e => e.2.isNone) ≤ (telF (sruns (row.map (hdN b))) (Rat.divInt bd b) tied).length
  ex : tied = true → bd = 0 → ((telF (sruns (row.map (hdN b))) (Rat.divInt bd b) tied).length : Int) = exF X (X 0).toNat
theorem cnt_tel {rss : List (List Smp)} {q : Rat} : cntW (if tied = true then Way.chain else Way.spans) rss q = (telF rss q tied).length := by
  cases tied <;> rfl
theorem fine (h : Ds X) (hb : 0 < b) (hst : 1 ≤ st ∧ st ≤ 1009) (hsc : 0 < sc ∧ sc < 2 ^ 41) (hbd : 0 ≤ bd ∧ bd < 2 ^ 44) (hm : -1000000000000 ≤ m0 ∧ m0 ≤ 1000003) : Fine X tied bd b (ouP X tied sc bd st m0 (1 + X 0).toNat).2 := by
  have a0 := h.a0
  have e : (1 + X 0).toNat = (X 0).toNat + 1 := by omega
  rw [e]
  obtain ⟨⟨A, l, e1, e2, e3, e4, e5⟩, hle, hex⟩ := all_k (tied := tied) h hb hst hsc hbd hm (X 0).toNat (by omega)
  have hne : ∀ ts ∈ sruns ((ouP X tied sc bd st m0 ((X 0).toNat + 1)).2.map (hdN b)), 1 ≤ ts.length := by
    intro ts hts
    unfold sruns at hts
    obtain ⟨r, hr, rfl⟩ := List.mem_map.mp hts
    rw [List.length_map]
    exact List.length_pos_iff.mpr ((runs_all _).2 r hr)
  refine ⟨?_, ?_, fun ht hz => ?_⟩
  · rw [cnt_tel] at hle
    omega
  · rw [← cnt_tel]
    rw [cntW_sum hne]
    have hl : (sruns ((ouP X tied sc bd st m0 ((X 0).toNat + 1)).2.map (hdN b))).length = 1 + (ouP X tied sc bd st m0 ((X 0).toNat + 1)).2.countP (fun e => e.2.isNone) := by
      rw [e1, List.length_append, e4]; simp; omega
    rw [← hl]
    generalize sruns ((ouP X tied sc bd st m0 ((X 0).toNat + 1)).2.map (hdN b)) = rss at *
    have : ∀ l : List (List Smp), (∀ ts ∈ l, 1 ≤ ts.length) → l.length ≤ (l.map (cR (if tied = true then Way.chain else Way.spans) (Rat.divInt bd b))).sum := by
      intro l
      induction l with
      | nil => intro _; simp
      | cons t l ih =>
        intro hl
        have i1 := ih (fun x hx => hl x (by simp [hx]))
        have i2 : 1 ≤ cR (if tied = true then Way.chain else Way.spans) (Rat.divInt bd b) t := by
          cases tied with
          | true => exact Nat.le_max_right _ _
          | false => exact Nat.le_max_right _ _
        simp only [List.map_cons, List.sum_cons, List.length_cons]
        omega
    exact this rss hne
  · subst ht hz
    have := hex rfl rfl
    have z : Rat.divInt 0 b = 0 := by simp
    have ec : (telF (sruns ((ouP X true sc 0 st m0 ((X 0).toNat + 1)).2.map (hdN b))) 0 true).length = cntW Way.chain (sruns ((ouP X true sc 0 st m0 ((X 0).toNat + 1)).2.map (hdN b))) 0 := rfl
    rw [z, ec]
    simp only [Nat.add_sub_cancel] at this
    omega
end
section
variable {k : Nat} {S : Store} {E : XP}
def zs : List Int := [8, 4, 4, 7, 3, 12] ++ (List.replicate 8 ([5, 3, 13, 3, 13, 3, 7, 3, 7, 3, 7] : List Int)).flatten
theorem zs_at {k j : Nat} (hk : k < 8) (hj : j < 11) : zs[6 + 11 * k + j]? = ([5, 3, 13, 3, 13, 3, 7, 3, 7, 3, 7] : List Int)[j]? := by
  have h1 : k = 0 ∨ k = 1 ∨ k = 2 ∨ k = 3 ∨ k = 4 ∨ k = 5 ∨ k = 6 ∨ k = 7 := by omega
  have h2 : j = 0 ∨ j = 1 ∨ j = 2 ∨ j = 3 ∨ j = 4 ∨ j = 5 ∨ j = 6 ∨ j = 7 ∨ j = 8 ∨ j = 9 ∨ j = 10 := by omega
  rcases h1 with rfl | rfl | rfl | rfl | rfl | rfl | rfl | rfl <;> rcases h2 with rfl | rfl | rfl | rfl | rfl | rfl | rfl | rfl | rfl | rfl | rfl <;> rfl
theorem ds_of (ns : List Int) : Ds (fun i => drawF ns 0 zs i) where
  a0 := draw_bd rfl (by decide)
  a1 := draw_bd rfl (by decide)
  a4 := draw_bd rfl (by decide)
  d0 := fun k hk => draw_bd (zs_at (j := 0) hk (by decide)) (by decide)
  d1 := fun k hk => draw_bd (zs_at (j := 1) hk (by decide)) (by decide)
  d2 := fun k hk => draw_bd (zs_at (j := 2) hk (by decide)) (by decide)
  d3 := fun k hk => draw_bd (zs_at (j := 3) hk (by decide)) (by decide)
  d4 := fun k hk => draw_bd (zs_at (j := 4) hk (by decide)) (by decide)
  d5 := fun k j hk hj => by
    have : zs[6 + 11 * k + 5 + 2 * j]? = some 3 := by
      rw [show 6 + 11 * k + 5 + 2 * j = 6 + 11 * k + (5 + 2 * j) by omega, zs_at hk (by omega)]
      have : j = 0 ∨ j = 1 ∨ j = 2 := by omega
      rcases this with rfl | rfl | rfl <;> rfl
    exact draw_bd this (by decide)
  d6 := fun k j hk hj => by
    have : zs[6 + 11 * k + 6 + 2 * j]? = some 7 := by
      rw [show 6 + 11 * k + 6 + 2 * j = 6 + 11 * k + (6 + 2 * j) by omega, zs_at hk (by omega)]
      have : j = 0 ∨ j = 1 ∨ j = 2 := by omega
      rcases this with rfl | rfl | rfl <;> rfl
    exact draw_bd this (by decide)
theorem hHd : Has prog "_law_handed" 2 5 b__law_handed := ⟨_, _, lk__law_handed, rfl, rfl⟩
theorem law_wp (ns : List Int) : Wp (callN prog fuel (k + 13) "law" [.frl (ns.map .int)] S) (fun _ _ => False) fun r _ => r = .bl true := by
  apply wp_callN lk_law rfl
  simp only [d_law]
  simp [wpx, wpo, wps, lim]
  have hz2 : ∀ z ∈ ([2] : List Int), 0 < z ∧ z < 2 ^ 8000 := fun z hz => by
    have : z = 2 := by simpa using hz
    have h2 : (2 : Int) ^ 20 < 2 ^ 8000 := Int.pow_lt_pow_of_lt (by decide) (by decide)
    omega
  refine (row_wp (ns := ns) (zs := [2]) lk__law_row lk__law_cell lk__law_mix lstOf_frl (by decide) (by decide) (by simp [wps]) hz2 (by decide)).imp ?_
  rintro r S1 ⟨x1, q1, rfl, hq1⟩
  have e0 : (rowF ns 1 [2])[0]? = some (drawF ns 1 [2] 0) := row_get (by decide)
  have y0 : ∀ S', itemR (some ((rowF ns 1 [2]).map .int)) 0 S' = .ok (.int (drawF ns 1 [2] 0)) S' := fun S' => itemR_nat (i := 0) (by simp [e0])
  obtain ⟨tied, htd⟩ : ∃ tied : Bool, tied = decide (drawF ns 1 [2] 0 = 0) := ⟨_, rfl⟩
  simp [wpx, wpo, wps, lim, hq1, y0, eqD_int, ← htd]
  have hz : ∀ z ∈ zs, 0 < z ∧ z < 2 ^ 8000 := fun z hz => by
    have : 0 < z ∧ z < 2 ^ 20 := by
      simp [zs] at hz
      omega
    have h2 : (2 : Int) ^ 20 < 2 ^ 8000 := Int.pow_lt_pow_of_lt (by decide) (by decide)
    omega
  refine (row_wp (ns := ns) (zs := zs) lk__law_row lk__law_cell lk__law_mix (r := S1.length + 3) lstOf_frl (by decide) (by decide) (by simp [wps, zs]) hz (by decide)).imp ?_
  rintro r S2 ⟨x2, q, rfl, hq⟩
  have hD := ds_of ns
  obtain ⟨X, hX⟩ : ∃ X : Nat → Int, X = fun i => drawF ns 0 zs i := ⟨_, rfl⟩
  rw [← hX] at hD
  have it : ∀ (i : Int) S', 0 ≤ i → i < 94 → itemR (some ((rowF ns 0 zs).map .int)) i S' = .ok (.int (X i.toNat)) S' := fun i S' h0 h1 => by
    obtain ⟨n, rfl⟩ := Int.eq_ofNat_of_zero_le h0
    rw [hX]
    exact itemR_nat (by rw [List.getElem?_map, row_get (show n < zs.length by have : zs.length = 94 := rfl; omega)]; rfl)
  generalize (rowF ns 0 zs).map D.int = L at *
  have j0 : ∀ S', itemR (some L) 0 S' = .ok (.int (X 0)) S' := fun S' => it 0 S' (by decide) (by decide)
  have j2 : ∀ S', itemR (some L) 2 S' = .ok (.int (X 2)) S' := fun S' => it 2 S' (by decide) (by decide)
  have j3 : ∀ S', itemR (some L) 3 S' = .ok (.int (X 3)) S' := fun S' => it 3 S' (by decide) (by decide)
  have j5 : ∀ S', itemR (some L) 5 S' = .ok (.int (X 5)) S' := fun S' => it 5 S' (by decide) (by decide)
  have a0 := hD.a0
  obtain ⟨a2, b2⟩ : 0 ≤ X 2 ∧ X 2 < 4 := by rw [hX]; exact draw_bd rfl (by decide)
  obtain ⟨a3, b3⟩ : 0 ≤ X 3 ∧ X 3 < 7 := by rw [hX]; exact draw_bd rfl (by decide)
  obtain ⟨a5, b5⟩ : 0 ≤ X 5 ∧ X 5 < 12 := by rw [hX]; exact draw_bd rfl (by decide)
  obtain ⟨sc, hsm, isc⟩ := pick (xs := [1, 7, 1000000, 1000000000039]) (i := X 2) a2 (by simpa using b2)
  have hsc : 0 < sc ∧ sc < 2 ^ 41 := by
    simp at hsm
    omega
  simp only [List.map] at isc
  have smb : Sm (X 3) sc := sm_of 4 42 (by omega) (by omega) (by decide)
  obtain ⟨bd, hbd⟩ : ∃ bd : Int, bd = X 3 * sc := ⟨_, rfl⟩
  have hbd2 : 0 ≤ bd ∧ bd < 2 ^ 44 := by
    rw [hbd]
    refine ⟨Int.mul_nonneg a3 (by omega), ?_⟩
    have : X 3 * sc ≤ 6 * sc := Int.mul_le_mul_of_nonneg_right (by omega) (by omega)
    omega
  have hqT : ∀ T, getL (S2 ++ T) q = some L := fun T => Ext.one.getL hq
  simp [wpx, wpo, wps, hq, hqT, j2, j3, isc, smb, ← hbd]
  refine (planted_wp (K := k + 11) (tied := tied) hD it (hqT _) hsc hbd2).imp ?_
  rintro r S3 ⟨st, m0, hst, hm0, x3, p, rfl, hpl, hp⟩
  have hst2 : 1 ≤ st ∧ st ≤ 1009 := by simp at hst; omega
  have hm2 : -1000000000000 ≤ m0 ∧ m0 ≤ 1000003 := by simp at hm0; omega
  obtain ⟨b, hb⟩ : ∃ b : Int, b = 1 + X 5 := ⟨_, rfl⟩
  have hb0 : 0 < b := by omega
  have hfine := fine (tied := tied) (st := st) (m0 := m0) hD hb0 hst2 hsc hbd2 hm2
  have hri := (ou_RI (tied := tied) hD hst2 hsc hbd2 hm2 (1 + X 0).toNat (by omega)).1
  have hol := ou_len (tied := tied) (sc := sc) (bd := bd) (st := st) (m0 := m0) hD (1 + X 0).toNat (by omega)
  generalize (ouP X tied sc bd st m0 (1 + X 0).toNat).2 = row at *
  have hq3 := x3.getL (hqT [.lst [D.int 1, .int 7, .int 1000000, .int 1000000000039]])
  simp [wpx, wpo, wps, hq3, j5, ← hb]
  refine (handed_wp (k := k + 10) hHd lk__law_ratio hF hp hb0 (Nat.lt_of_lt_of_le (show b.natAbs < 2 ^ 10 by omega) (Nat.pow_le_pow_right (by decide) (by decide))) (by omega)).imp ?_
  rintro r S4 ⟨x4, e, rfl, hel, he⟩
  have hq4 := x4.getL hq3
  have hp4 := x4.getL hp
  simp [wpx, wpo, wps, hq4, j5, ← hb]
  have hBb : b.natAbs < BIG := big_pow (n := 10) (show b.natAbs < 2 ^ 10 by omega) (by decide)
  refine (law_ratio_wp lk__law_ratio hb0 hBb hF).imp ?_
  rintro r S5 ⟨rfl, rfl⟩
  have eg : (row.map fun e => gapD (hdN b e)) = (row.map (hdN b)).map entD := by
    rw [List.map_map]
    exact List.map_congr_left fun e _ => gap_ent _
  rw [eg] at he
  have hup := hd_up (b := b) hri.1
  have hzB := hd_B hri.1 hb0 (Nat.lt_of_lt_of_le (show b.natAbs < 2 ^ 10 by omega) (Nat.pow_le_pow_right (by decide) (by decide)))
  have hq1000 : Sz 1000 (Rat.divInt bd b) := sz_divInt hb0 (Nat.lt_of_lt_of_le (show bd.natAbs < 2 ^ 44 by omega) (Nat.pow_le_pow_right (by decide) (by decide))) (Nat.lt_of_lt_of_le (show b.natAbs < 2 ^ 10 by omega) (Nat.pow_le_pow_right (by decide) (by decide)))
  have cw := fun (S : Store) (E : XP) (hr : getL S e = some ((row.map (hdN b)).map entD)) => count_wp (k := k + 1) (S := S) (E := E) (tied := tied) hr hup hzB (by rw [List.length_map]; omega) hq1000
  obtain ⟨f1, f2, f3⟩ := hfine
  generalize (telF (sruns (row.map (hdN b))) (Rat.divInt bd b) tied).length = cn at *
  generalize hdv : rD (Rat.divInt bd b) = dv at *
  refine (cw S5 _ he).imp ?_
  rintro r S6 ⟨x6, rfl⟩
  have hq6 := x6.getL hq4
  have hp6 := x6.getL hp4
  have he6 := x6.getL he
  have ngt : ¬ (1 + X 0 < (cn : Int)) := by omega
  simp [wpx, wpo, wps, hq6, hp6, j0, ngt]
  refine lcI_seq (xs := row.map enD) (fun i acc S7 => S7 = S6 ∧ acc = ((row.take i).filter fun e => e.2.isNone).map enD) hp6 ⟨rfl, rfl⟩ ?_ ?_
  · rintro i y acc S7 hy hi ⟨rfl, rfl⟩
    obtain ⟨c, hc, rfl⟩ := map_get hy
    refine ⟨hp6, _, bind_name (by simp [wipeE]), ?_⟩
    have et : row.take (i + 1) = row.take i ++ [c] := by rw [List.take_succ, hc]; rfl
    have hlt : (((row.take i).filter fun e => e.2.isNone).map enD).length < lim := by
      rw [List.length_map]
      have := List.length_filter_le (fun e : EnN => e.2.isNone) (row.take i)
      rw [List.length_take] at this
      unfold lim
      omega
    cases hn : c.2.isNone with
    | true =>
      simp [wpx, wpo, wps, wipeE, en_seq, isN_num, hn]
      refine ⟨by simpa using hlt, ?_⟩
      rw [et, List.filter_append]
      simp [hn]
    | false =>
      simp [wpx, wpo, wps, wipeE, en_seq, isN_num, hn]
      rw [et, List.filter_append]
      simp [hn]
  · rintro acc S7 ⟨rfl, rfl⟩
    refine ⟨hp6, ?_⟩
    rw [List.take_of_length_le (by simp)]
    have hcl : ((row.filter fun e => e.2.isNone).map enD).length = row.countP (fun e => e.2.isNone) := by rw [List.length_map, List.countP_eq_length_filter]
    have fin : ∀ S8, Ext S7 S8 → WpS (exB (prog.cx fuel (callN prog fuel (k + 12))) (d_law.body.drop 10) [some (D.frl (List.map D.int ns)), some (D.bl tied), some (D.ref q), some (D.int sc), some (D.int bd), some (D.ref p), some (D.ref e), some dv, some (D.int cn), none] S8) { nx := fun _ _ => False, rt := fun r _ => r = .bl true } := by
      intro S8 x8
      simp only [d_law, List.drop]
      have hq8 := x8.getL hq6
      have hp8 := x8.getL hp6
      have he8 := x8.getL he6
      have last : ∀ S9, Ext S8 S9 → WpS (exB (prog.cx fuel (callN prog fuel (k + 12))) (d_law.body.drop 11) [some (D.frl (List.map D.int ns)), some (D.bl tied), some (D.ref q), some (D.int sc), some (D.int bd), some (D.ref p), some (D.ref e), some dv, some (D.int cn), none] S9) { nx := fun _ _ => False, rt := fun r _ => r = .bl true } := by
        intro S9 x9
        simp only [d_law, List.drop]
        have hq9 := x9.getL hq8
        have hp9 := x9.getL hp8
        have he9 := x9.getL he8
        simp [wpx, wpo, wps, hq9, j5, ← hb]
        refine (handed_wp (k := k + 10) hHd lk__law_ratio hF hp9 hb0 (Nat.lt_of_lt_of_le (show b.natAbs < 2 ^ 10 by omega) (Nat.pow_le_pow_right (by decide) (by decide))) (by omega)).imp ?_
        rintro r S10 ⟨x10, e2, rfl, _, hx2⟩
        rw [eg] at hx2
        simp [wpx, wpo, wps, eqD_rows (x10.getL he9) hx2]
      by_cases h4 : X 0 < 4
      · simp [wpx, wpo, wps, hq8, j0, h4]
        refine (cw S8 _ he8).imp ?_
        rintro r S9 ⟨x9, rfl⟩
        have f := last S9 x9
        simp only [d_law, List.drop] at f
        simp [wpx, wpo, wps, eqD_int] at f ⊢
        exact f
      · have f := last S8 Ext.refl
        simp only [d_law, List.drop] at f
        simp [wpx, wpo, wps, hq8, j0, h4] at f ⊢
        exact f
    have hge : ¬ ((cn : Int) < 1 + ((row.filter fun e => e.2.isNone).length : Int)) := by
      rw [List.countP_eq_length_filter] at f2
      omega
    have fT : ∀ T, WpS (exB (prog.cx fuel (callN prog fuel (k + 12))) (d_law.body.drop 10) [some (D.frl (List.map D.int ns)), some (D.bl tied), some (D.ref q), some (D.int sc), some (D.int bd), some (D.ref p), some (D.ref e), some dv, some (D.int cn), none] (S7 ++ T)) { nx := fun _ _ => False, rt := fun r _ => r = .bl true } := fun T => fin _ Ext.one
    simp only [d_law, List.drop] at fT
    have hq7 : ∀ T, getL (S7 ++ T) q = some L := fun T => Ext.one.getL hq6
    by_cases ht : tied = true
    · by_cases hz0 : bd = 0
      · have hex := f3 ht hz0
        have f := fT [Cell.lst (List.map enD (List.filter (fun e => e.snd.isNone) row))]
        simp [wpx, wpo, wps, hge, ht, hz0, eqD_int] at f ⊢
        refine ⟨by omega, ?_⟩
        refine (exact_wp (k := k + 11) hD it (hq7 _)).imp ?_
        rintro r S8 ⟨rfl, rfl⟩
        simp [wpx, wpo, wps, eqD_int, ← hex] at f ⊢
        exact f
      · have f := fT [Cell.lst (List.map enD (List.filter (fun e => e.snd.isNone) row))]
        simp [wpx, wpo, wps, hge, ht, hz0, eqD_int] at f ⊢
        exact ⟨by omega, f⟩
    · have htf : tied = false := by cases tied with
        | true => exact absurd rfl ht
        | false => rfl
      have f := fT [Cell.lst (List.map enD (List.filter (fun e => e.snd.isNone) row))]
      simp [wpx, wpo, wps, hge, htf, eqD_int] at f ⊢
      exact ⟨by omega, f⟩
theorem law_true (ns : List Int) (h1 : ns.length ≤ 63) (h2 : ∀ z ∈ ns, PySem.Builtin.Int.intBits z ≤ 1048576) : ∃ S', callN prog fuel 60 "law" [.frl (ns.map .int)] [] = .ok (.bl true) S' :=
  ok_of (law_wp (k := 47) ns)
end
end LawP
open PySem PySem.W PySem.Calls PyProof.Rows in
theorem PySem.Challenge.cw_lath_k58_planted_ways_holds : PySem.Challenge.rw_lath_k58_planted_ways.Holds := by
  w_on; o_law
  refine HandSHeadRun.head_any (r := OpenLaw.row PySem.Challenge.rw_lath_k58_planted_ways) (q := view (OpenLaw.row PySem.Challenge.rw_lath_k58_planted_ways).prog [43]) (H := LawH.hk) (ob := LawH.ob) (M := 4000) (loose := LawH.names) (d := HandSHeadRun.topDef (OpenLaw.row PySem.Challenge.rw_lath_k58_planted_ways).prog 43) (kwd := []) LawH.ob_eq
    (by kernel_rfl) (fun s => by kernel_rfl) LawH.run (by kernel_rfl) (by kernel_rfl) (by kernel_rfl) (by rfl) (by first | assumption | decide +kernel) (by decide +kernel) ⟨rfl, rfl, rfl, rfl, rfl, by decide +kernel⟩ ?hw ?hc
  case hw => w_witness2
  case hc => exact Lt.lt_end (l := PySem.Challenge.rw_lath_k58_planted_ways) (k := 60) (fuel := LawP.fuel) (x := "_law_script") (P := LawT.prog) (fa := LawH.fa) (fn := LawH.fn) (m := LawT.d_law) rfl (by kernel_rfl) ⟨rfl, by decide, by decide⟩ (by kernel_rfl) (by kernel_rfl) (by kernel_rfl) LawH.checks LawT.lk_law (by kernel_rfl) (by kernel_rfl) LawP.law_true
