import PyProof.Rows.All
import Wide.All
import OpenK.AllK
import Wide.FinOn
import KE.KStateDown
import Lean
import HandS.ForExc
import HandS.More
import HandS.Defaults
import HandS.Head0
import HandS.Head1
import HandS.Head2
import HandS.HeadEnd
import HandS.HeadHook1
import HandS.HeadHook2
import HandS.ForMost
import HandS.Wide
import HandS.Deep
import HandS.HotCalls
import HandS.TupAny
import HandS.Style
import HandS.IsInst
import HandS.SortInts
import HandS.CallSlots
import HandS.TryOnly
import HandS.ExcOwn
import HandS.ExcInit
import HandS.ExcIs
import HandS.ExcField
import HandS.Codes
import HandS.Iter
import HandS.WordsExc
import HandS.Dict
import HandS.WordsDict
import HandS.TryMany
import HandS.Base
import HandS.Call
import HandS.Ends
import HandS.Exc
import HandS.EndBits
import PySem.Challenge.RW_lath_k62_tellings_looked_at
set_option Elab.async false
set_option linter.all false
set_option maxRecDepth 100000
set_option maxHeartbeats 0
namespace Lt
open PySem L2
inductive D where
  | non | bl (b : Bool) | int (i : Int) | str (s : Str) | tup (xs : List D) | frl (xs : List D) | frt (xs : List D) | ref (n : Nat)
  deriving Inhabited
inductive Cell where
  | lst (xs : List D) | dK (kvs : List (Key × D)) | dT (kvs : List (List Key × D)) | ins (C : Str) (fs : List (Str × D))
  deriving Inhabited
abbrev Store := List Cell
abbrev Env := List (Option D)
structure Exc where
  cls : Str
  at_ : Option D
inductive R (α : Type) where
  | ok (a : α) (S : Store) | exc (c : Exc) (S : Store) | bad
inductive SR where
  | nx (e : Env) (S : Store) | ret (d : D) (S : Store) | brk (e : Env) (S : Store) | exc (c : Exc) (e : Env) (S : Store) | bad
def R.bind {α β : Type} (r : R α) (k : α → Store → R β) : R β := match r with
  | .ok a S => k a S
  | .exc c S => .exc c S
  | .bad => .bad
def R.toS {α : Type} (r : R α) (e : Env) (k : α → Store → SR) : SR := match r with
  | .ok a S => k a S
  | .exc c S => .exc c e S
  | .bad => .bad
inductive Op where | add | sub | mul | fdiv | mod | pow
inductive Cm where | lt | le | gt | ge | eq | ne | isin | notin
inductive Ty where | int | bool | str | tuple | list
inductive Bi where | len | abs | int | str | list | tuple | sorted | max | min
mutual
inductive Ex where
  | int (i : Int) | str (s : Str) | bl (b : Bool) | non
  | var (i : Nat) | glo (x : Str)
  | bin (op : Op) (a b : Ex) | neg (a : Ex) | not (a : Ex) | and (a b : Ex) | or (a b : Ex)
  | cmp (op : Cm) (a b : Ex) | chn (o1 o2 : Cm) (a b c : Ex) | isN (a : Ex) | ntN (a : Ex) | ife (c a b : Ex)
  | tup (es : List Ex) | lst (es : List Ex)
  | idx (a i : Ex) | slT (a b : Ex) | slF (a b : Ex) | slB (a b c : Ex) | rev (a : Ex)
  | call (f : Str) (es : List Ex)
  | bi (b : Bi) (es : List Ex) | isI (a : Ex) (t : Ty)
  | app (o a : Ex) | ext (o a : Ex) | clr (o : Ex)
  | isB (a : Ex) (b : Bool) | chn4 (o1 o2 o3 : Cm) (a b c d : Ex)
  | fld (a : Ex) (C f : Str) | mth (o : Ex) (C m key : Str) (es : List Ex) | mk (C key : Str) (es : List Ex)
  | any | chn5 (o1 o2 o3 o4 : Cm) (a b c d f : Ex) | ntB (a : Ex) (b : Bool)
  | dic (t : Bool) | dgt (o k : Ex) | din (n : Bool) (k o : Ex) | get1 (o k : Ex) | get2 (o k d : Ex) | dpop (o k : Ex)
  | ixo (o a : Ex) | ins (o i a : Ex) | pop0 (o : Ex) | pop1 (o i : Ex)
  | xis (i : Nat) (C : Str) | xat (i : Nat) | xcl (i : Nat) (f : Str) | dsp (es : List Ex)
  | lc (own : List Nat) (t : Tg) (it : It) (el : Ex) | lcI (own : List Nat) (t : Tg) (it : It) (c el : Ex)
inductive It where
  | seq (a : Ex) | rng (a : Ex) | rng2 (a b : Ex) | enm (a : Ex) | zip (a b : Ex) | rvd (a : Ex)
inductive Tg where
  | name (i : Nat) | tup (is : List Nat)
end
inductive St where
  | asg (t : Tg) (e : Ex) | par (i j : Nat) (a b : Ex) | sub (o i e : Ex)
  | exp (e : Ex) | ite (c : Ex) (a b : List St) | forS (t : Tg) (it : It) (b : List St) | whl (c : Ex) (b : List St)
  | ret (e : Ex) | retN | brk | pass
  | stf (o : Ex) (C f : Str) (e : Ex)
  | any | dst (o k e : Ex)
  | rai (C : Str) | tryC (b : List St) (C : Str) (a : Ex)
  | raiA (C : Str) (a : Ex) | tryA (b : List St) (C : Str) (i : Nat) (su : List St)
  | par3 (i j l : Nat) (a b c : Ex) | try2 (b : List St) (C : Str) (i : Nat) (su : List St) (C2 : Str) (i2 : Nat) (su2 : List St)
/-- lists and texts are shorter -/
def lim : Nat := 100000
/-- the list at a cell -/
def getL (S : Store) (r : Nat) : Option (List D) := match S[r]? with
  | some (.lst xs) => some xs
  | _ => none
/-- a value's list -/
def lstOf (S : Store) (d : D) : Option (List D) := match d with
  | .ref r => getL S r
  | .frl xs => some xs
  | _ => none
def alloc (c : Cell) (S : Store) : R D := .ok (.ref S.length) (S ++ [c])
def Sm (i j : Int) : Prop := i.natAbs.log2 + j.natAbs.log2 < 1000000
instance (i j : Int) : Decidable (Sm i j) := inferInstanceAs (Decidable (_ < _))
def binop (op : Op) (x y : D) (S : Store) : R D := match op, x, y with
  | .add, .int i, .int j => .ok (.int (i + j)) S
  | .add, .str s, .str t => if s.length + t.length ≤ lim then .ok (.str (s ++ t)) S else .bad
  | .add, .ref a, .ref b => match getL S a, getL S b with
    | some xs, some ys => if xs.length + ys.length ≤ lim then alloc (.lst (xs ++ ys)) S else .bad
    | _, _ => .bad
  | .add, .tup xs, .tup ys => if xs.length + ys.length ≤ lim then .ok (.tup (xs ++ ys)) S else .bad
  | .sub, .int i, .int j => .ok (.int (i - j)) S
  | .mul, .int i, .int j => if Sm i j then .ok (.int (i * j)) S else .bad
  | .mul, .ref a, .int j => match getL S a with
    | some xs => if 0 ≤ j ∧ j ≤ 100000 ∧ xs.length * j.toNat ≤ lim then alloc (.lst (List.replicate j.toNat xs).flatten) S else .bad
    | _ => .bad
  | .fdiv, .int i, .int j => if j ≠ 0 ∧ j.natAbs.log2 < 9000 then .ok (.int (i.fdiv j)) S else .bad
  | .mod, .int i, .int j => if j ≠ 0 then .ok (.int (i.fmod j)) S else .bad
  | .pow, .int i, .int j => if 0 ≤ j ∧ j ≤ 1000000 ∧ i.natAbs < 2 ^ 64 then .ok (.int (i ^ j.toNat)) S else .bad
  | _, _, _ => .bad
def mapO {α β : Type} (f : α → Option β) : List α → Option (List β)
  | [] => some []
  | x :: r => match f x, mapO f r with
    | some y, some ys => some (y :: ys)
    | _, _ => none
/-- a value as plain data -/
def toP (S : Store) : Nat → D → Option PyData
  | 0, _ => none
  | _ + 1, .non => some .none
  | _ + 1, .bl b => some (.bool b)
  | _ + 1, .int i => some (.int i)
  | _ + 1, .str s => if PyData.canLay0 (.str s) = true then some (.str s) else none
  | n + 1, .tup xs => (mapO (toP S n) xs).map .tuple
  | n + 1, .frl xs => (mapO (toP S n) xs).map .list
  | n + 1, .frt xs => (mapO (toP S n) xs).map .tuple
  | n + 1, .ref r => match getL S r with
    | some xs => (mapO (toP S n) xs).map .list
    | none => none
def eqD (S : Store) (x y : D) : Option Bool := match toP S 12 x, toP S 12 y with
  | some a, some b => some (PyData.eqv a b)
  | _, _ => none
/-- a flat value is among flat ones -/
def flatD : D → Bool
  | .non => true
  | .bl _ => true
  | .int _ => true
  | .str _ => true
  | _ => false
def eqF : D → D → Bool
  | .non, .non => true
  | .bl a, .bl b => a == b
  | .bl a, .int b => (if a then 1 else 0) == b
  | .int a, .bl b => a == (if b then 1 else 0)
  | .int a, .int b => a == b
  | .str a, .str b => a == b
  | _, _ => false
def inO (S : Store) (x : D) (y : D) : Option Bool := match y with
  | .tup ys => if flatD x = true ∧ ys.all flatD = true then some (ys.any fun z => eqF z x) else none
  | .frt ys => if flatD x = true ∧ ys.all flatD = true then some (ys.any fun z => eqF z x) else none
  | .ref _ => match toP S 12 x, toP S 12 y with
    | some a, some (.list bs) => some (bs.any fun b => PyData.eqv b a)
    | _, _ => none
  | _ => none
def cmpop (op : Cm) (x y : D) (S : Store) : R D := match op with
  | .lt => match x, y with
    | .int i, .int j => .ok (.bl (decide (i < j))) S
    | _, _ => .bad
  | .le => match x, y with
    | .int i, .int j => .ok (.bl (decide (i ≤ j))) S
    | _, _ => .bad
  | .gt => match x, y with
    | .int i, .int j => .ok (.bl (decide (j < i))) S
    | _, _ => .bad
  | .ge => match x, y with
    | .int i, .int j => .ok (.bl (decide (j ≤ i))) S
    | _, _ => .bad
  | .eq => match eqD S x y with
    | some b => .ok (.bl b) S
    | none => .bad
  | .ne => match eqD S x y with
    | some b => .ok (.bl (!b)) S
    | none => .bad
  | .isin => match inO S x y with
    | some b => .ok (.bl b) S
    | none => .bad
  | .notin => match inO S x y with
    | some b => .ok (.bl (!b)) S
    | none => .bad
def isN : D → Bool
  | .non => true
  | _ => false
def isTy (S : Store) (t : Ty) (x : D) : Option Bool := match x with
  | .non => some false
  | .bl _ => some (match t with
    | .bool => true
    | .int => true
    | _ => false)
  | .int _ => some (match t with
    | .int => true
    | _ => false)
  | .str _ => some (match t with
    | .str => true
    | _ => false)
  | .tup _ => some (match t with
    | .tuple => true
    | _ => false)
  | .frl _ => some (match t with
    | .list => true
    | _ => false)
  | .frt _ => some (match t with
    | .tuple => true
    | _ => false)
  | .ref r => match getL S r with
    | some _ => some (match t with
      | .list => true
      | _ => false)
    | none => none
def seqOf (S : Store) (d : D) : Option (List D) := match d with
  | .tup xs => some xs
  | .frl xs => some xs
  | .frt xs => some xs
  | .ref r => getL S r
  | _ => none
def item (x i : D) (S : Store) : R D := match i with
  | .int k => match seqOf S x with
    | some xs => match atI xs k with
      | some d => .ok d S
      | none => .bad
    | none => .bad
  | _ => .bad
def cutD (xs : List D) (lo hi : Option Int) : List D := (xs.drop (HT.sIx xs.length 0 lo)).take (HT.sIx xs.length xs.length hi - HT.sIx xs.length 0 lo)
def intO : Option D → Option (Option Int)
  | none => some none
  | some (.int i) => some (some i)
  | _ => none
def isInt : D → Bool
  | .int _ => true
  | _ => false
def slice (x : D) (lo hi : Option D) (S : Store) : R D := match x with
  | .tup xs => match intO lo, intO hi with
    | some l, some h => .ok (.tup (cutD xs l h)) S
    | _, _ => .bad
  | .str z => match intO lo, intO hi with
    | some l, some h => if z.length ≤ lim then .ok (.str (PySem.Txt.slice z l h)) S else .bad
    | _, _ => .bad
  | x => match lstOf S x, intO lo, intO hi with
    | some xs, some l, some h => alloc (.lst (cutD xs l h)) S
    | _, _, _ => .bad
def intsOf : List D → Option (List Int)
  | [] => some []
  | .int i :: r => match intsOf r with
    | some is => some (i :: is)
    | none => none
  | _ :: _ => none
def keyD : D → Option Key
  | .int i => some (.inl i)
  | .str s => some (.inr s)
  | _ => none
def keysD : D → Option (List Key)
  | .tup xs => mapO keyD xs
  | _ => none
section
variable {κ : Type} [DecidableEq κ]
def lookK (kvs : List (κ × D)) (k : κ) : Option D := (kvs.find? fun kv => decide (kv.1 = k)).map (·.2)
def putKD (kvs : List (κ × D)) (k : κ) (v : D) : List (κ × D) :=
  if (kvs.any fun kv => decide (kv.1 = k)) = true then kvs.map (fun kv => if kv.1 = k then (kv.1, v) else kv) else kvs ++ [(k, v)]
def dropKD (kvs : List (κ × D)) (k : κ) : List (κ × D) := kvs.filter fun kv => decide (kv.1 ≠ k)
end
/-- a display's pairs, one behind another -/
def pairsD : List D → Option (List (Key × D))
  | [] => some []
  | [_] => none
  | k :: v :: r => match keyD k, pairsD r with
    | some k, some l => some ((k, v) :: l)
    | _, _ => none
def mergeD (kvs : List (Key × D)) : List (Key × D) := kvs.foldl (fun acc kv => putKD acc kv.1 kv.2) []
def dspR (ds : List D) (S : Store) : R D := match pairsD ds with
  | some kvs => if kvs.length ≤ 15 then alloc (.dK (mergeD kvs)) S else .bad
  | none => .bad
def isDct (x : D) (S : Store) : Bool := match x with
  | .ref r => match S[r]? with
    | some (.dK _) => true
    | some (.dT _) => true
    | _ => false
  | _ => false
def dgetO (S : Store) (x y : D) : Option (Option D) := match x with
  | .ref r => match S[r]? with
    | some (.dK kvs) => (keyD y).map (lookK kvs)
    | some (.dT kvs) => (keysD y).map (lookK kvs)
    | _ => none
  | _ => none
def dgtR (x y : D) (S : Store) : R D := match dgetO S x y with
  | some (some d) => .ok d S
  | _ => .bad
def dinR (n : Bool) (y x : D) (S : Store) : R D := match dgetO S x y with
  | some o => .ok (.bl (if n then !o.isSome else o.isSome)) S
  | none => .bad
def getR (x y z : D) (S : Store) : R D := match dgetO S x y with
  | some o => .ok (o.getD z) S
  | none => .bad
def dpopR (x y : D) (S : Store) : R D := match x with
  | .ref r => match S[r]?, keyD y with
    | some (.dK kvs), some k => match lookK kvs k with
      | some v => .ok v (S.set r (.dK (dropKD kvs k)))
      | none => .bad
    | _, _ => .bad
  | _ => .bad
def dstR (x y v : D) (S : Store) : R D := match x with
  | .ref r => match S[r]? with
    | some (.dK kvs) => match keyD y with
      | some k => if kvs.length < lim then .ok .non (S.set r (.dK (putKD kvs k v))) else .bad
      | none => .bad
    | some (.dT kvs) => match keysD y with
      | some k => if kvs.length < lim then .ok .non (S.set r (.dT (putKD kvs k v))) else .bad
      | none => .bad
    | _ => .bad
  | _ => .bad
def lenO (S : Store) (x : D) : Option Nat := match x with
  | .ref r => match S[r]? with
    | some (.dK kvs) => some kvs.length
    | some (.lst xs) => some xs.length
    | _ => none
  | x => (seqOf S x).map (·.length)
def minL : Int → List Int → Int
  | a, [] => a
  | a, b :: r => minL (if b < a then b else a) r
def maxL : Int → List Int → Int
  | a, [] => a
  | a, b :: r => maxL (if b > a then b else a) r
/-- the whole numbers that a dict holds as keys -/
def intsK : List (Key × D) → Option (List Int)
  | [] => some []
  | (.inl i, _) :: r => (intsK r).map (i :: ·)
  | _ :: _ => none
/-- two texts as they are sorted -/
def sort2 (a b : Str) : List D := if PySem.Spec.ltCps b.cps.toList a.cps.toList = true then [.str b, .str a] else [.str a, .str b]
/-- sorted of a dict, of two texts -/
def srtR (x : D) (S : Store) : R D := match x with
  | .ref r => match S[r]? with
    | some (.dK kvs) => match intsK kvs with
      | some is => if is.length < 64 then alloc (.lst ((is.mergeSort (fun a b => decide (a ≤ b))).map .int)) S else .bad
      | none => .bad
    | some (.lst [.str a, .str b]) => alloc (.lst (sort2 a b)) S
    | _ => .bad
  | _ => .bad
def biop (b : Bi) (ds : List D) (S : Store) : R D := match b, ds with
  | .len, [x] => match x with
    | .str s => if s.length ≤ lim then .ok (.int s.length) S else .bad
    | x => match lenO S x with
      | some n => .ok (.int n) S
      | none => .bad
  | .abs, [.int i] => .ok (.int (if i < 0 then -i else i)) S
  | .int, [.int i] => .ok (.int i) S
  | .int, [.bl k] => .ok (.int (if k then 1 else 0)) S
  | .list, [x] => match seqOf S x with
    | some xs => alloc (.lst xs) S
    | none => .bad
  | .tuple, [x] => match x with
    | .tup xs => .ok (.tup xs) S
    | x => match lstOf S x with
      | some xs => .ok (.tup xs) S
      | none => .bad
  | .max, [.int i, .int j] => .ok (.int (if j > i then j else i)) S
  | .min, [.int i, .int j] => .ok (.int (if j < i then j else i)) S
  | .max, [x] => match lstOf S x with
    | some xs => match intsOf xs with
      | some (a :: is) => .ok (.int (maxL a is)) S
      | _ => .bad
    | none => .bad
  | .min, [x] => match lstOf S x with
    | some xs => match intsOf xs with
      | some (a :: is) => .ok (.int (minL a is)) S
      | _ => .bad
    | none => .bad
  | .sorted, [x] => match lstOf S x with
    | some xs => match intsOf xs with
      | some is => if is.length < 64 then alloc (.lst ((is.mergeSort (fun a b => decide (a ≤ b))).map .int)) S else .bad
      | none => srtR x S
    | none => srtR x S
  | _, _ => .bad
def isLst (o : D) (S : Store) : Bool := match o with
  | .ref r => (getL S r).isSome
  | _ => false
def append (o a : D) (S : Store) : R D := match o with
  | .ref r => match getL S r with
    | some xs => if xs.length < lim then .ok .non (S.set r (.lst (xs ++ [a]))) else .bad
    | _ => .bad
  | _ => .bad
def extend (o a : D) (S : Store) : R D := match o, a with
  | .ref r, .ref q => match getL S r, getL S q with
    | some xs, some ys => if xs.length + ys.length ≤ lim then .ok .non (S.set r (.lst (xs ++ ys))) else .bad
    | _, _ => .bad
  | _, _ => .bad
def clear (o : D) (S : Store) : R D := match o with
  | .ref r => match getL S r with
    | some _ => .ok .non (S.set r (.lst []))
    | _ => .bad
  | _ => .bad
/-- the first place of an equal one -/
def findP (a : PyData) : List PyData → Option Nat
  | [] => none
  | b :: r => if PyData.eqv b a = true then some 0 else (findP a r).map (· + 1)
def ixoR (x y : D) (S : Store) : R D := match toP S 12 x, toP S 12 y with
  | some (.list bs), some a => match findP a bs with
    | some j => .ok (.int j) S
    | none => .bad
  | _, _ => .bad
def insR (x i y : D) (S : Store) : R D := match x, i with
  | .ref r, .int j => match getL S r with
    | some xs => if xs.length < lim ∧ 0 ≤ j ∧ j < 2 ^ 62 then .ok .non (S.set r (.lst (xs.take j.toNat ++ [y] ++ xs.drop j.toNat))) else .bad
    | none => .bad
  | _, _ => .bad
def pop0R (x : D) (S : Store) : R D := match x with
  | .ref r => match getL S r with
    | some xs => match xs[xs.length - 1]? with
      | some y => .ok y (S.set r (.lst xs.dropLast))
      | none => .bad
    | none => .bad
  | _ => .bad
def pop1R (x i : D) (S : Store) : R D := match x, i with
  | .ref r, .int j => match getL S r with
    | some xs => match xs[j.toNat]? with
      | some y => if 0 ≤ j ∧ j < 2 ^ 62 then .ok y (S.set r (.lst (xs.eraseIdx j.toNat))) else .bad
      | none => .bad
    | none => .bad
  | _, _ => .bad
def setItem (o i v : D) (S : Store) : R D := match o, i with
  | .ref r, .int k => match getL S r with
    | some xs => match ixN xs.length k with
      | some j => .ok .non (S.set r (.lst (xs.set j v)))
      | none => .bad
    | _ => .bad
  | _, _ => .bad
def getI (S : Store) (r : Nat) : Option (Str × List (Str × D)) := match S[r]? with
  | some (.ins C fs) => some (C, fs)
  | _ => none
def putD (f : Str) (v : D) : List (Str × D) → List (Str × D)
  | [] => [(f, v)]
  | (g, x) :: r => if g = f then (g, v) :: r else (g, x) :: putD f v r
def fldR (C f : Str) (x : D) (S : Store) : R D := match x with
  | .ref r => match getI S r with
    | some (C', fs) => if C' = C then (match fs.lookup f with
      | some d => .ok d S
      | none => .bad) else .bad
    | none => .bad
  | _ => .bad
def insOk (C m : Str) (x : D) (S : Store) : Bool := match x with
  | .ref r => match getI S r with
    | some (C', fs) => decide (C' = C) && (fs.lookup m).isNone
    | none => false
  | _ => false
def stfR (C f : Str) (x v : D) (S : Store) : R D := match x with
  | .ref r => match getI S r with
    | some (C', fs) => if C' = C ∧ fs.length < 900 then .ok .non (S.set r (.ins C (putD f v fs))) else .bad
    | none => .bad
  | _ => .bad
/-- behind __init__ -/
def madeR (n : Nat) (d : D) (S : Store) : R D := match d with
  | .non => .ok (.ref n) S
  | _ => .bad
def isBR (b : Bool) (x : D) (S : Store) : R D := match x with
  | .bl c => .ok (.bl (decide (c = b))) S
  | _ => .bad
def ntBR (b : Bool) (x : D) (S : Store) : R D := match x with
  | .bl c => .ok (.bl (!decide (c = b))) S
  | _ => .bad
structure Itr where
  n : Nat
  at_ : Nat → Store → Option D
  fin : Store → Bool
def seqItr (d : D) (S : Store) : Option Itr := match seqOf S d with
  | some xs => some ⟨xs.length, fun i S => match seqOf S d with
      | some ys => if ys.length = xs.length then ys[i]? else none
      | none => none, fun S => match seqOf S d with
      | some ys => decide (ys.length = xs.length)
      | none => false⟩
  | none => none
def lstItr (d : D) (S : Store) (f : Nat → Nat → Nat) (w : Nat → D → D) : Option Itr := match lstOf S d with
  | some xs => some ⟨xs.length, fun i S => match lstOf S d with
      | some ys => if ys.length = xs.length then (ys[f xs.length i]?).map (w i) else none
      | none => none, fun S => match lstOf S d with
      | some ys => decide (ys.length = xs.length)
      | none => false⟩
  | none => none
def zipItr (x y : D) (S : Store) : Option Itr := match lstOf S x, lstOf S y with
  | some xs, some ys => some ⟨min xs.length ys.length, fun i S => match lstOf S x, lstOf S y with
      | some xs', some ys' => if xs'.length = xs.length ∧ ys'.length = ys.length then (match xs'[i]?, ys'[i]? with
        | some u, some v => some (.tup [u, v])
        | _, _ => none) else none
      | _, _ => none, fun S => match lstOf S x, lstOf S y with
      | some xs', some ys' => decide (xs'.length = xs.length ∧ ys'.length = ys.length)
      | _, _ => false⟩
  | _, _ => none
def rngItr (lo hi : Int) : Option Itr := if -(2 ^ 62) ≤ lo ∧ lo < 2 ^ 62 ∧ -(2 ^ 62) ≤ hi ∧ hi < 2 ^ 62 then some ⟨(hi - lo).toNat, fun i _ => some (.int (lo + i)), fun _ => true⟩ else none
/-- the slots of a target -/
def tsl : Tg → List Nat
  | .name i => [i]
  | .tup is => is
def setAll : List Nat → List D → Env → Option Env
  | [], [], e => some e
  | i :: is, x :: xs, e => if i < e.length then setAll is xs (e.set i (some x)) else none
  | _, _, _ => none
def bindT : Tg → D → Env → Store → Option Env
  | .name i, d, e, _ => if i < e.length then some (e.set i (some d)) else none
  | .tup is, d, e, S => match seqOf S d with
    | some xs => if xs.length = is.length then setAll is xs e else none
    | none => none
/-- turns of a loop: k are left, the next is the i-th -/
def forGo (t : Tg) (it : Itr) (body : Env → Store → SR) : Nat → Nat → Env → Store → SR
  | 0, _, e, S => if it.fin S = true then .nx e S else .bad
  | k + 1, i, e, S => match it.at_ i S with
    | none => .bad
    | some d => match bindT t d e S with
      | none => .bad
      | some e1 => match body e1 S with
        | .nx e2 S2 => forGo t it body k (i + 1) e2 S2
        | .brk e2 S2 => .nx e2 S2
        | r => r
def whGo (c : Env → Store → R D) (body : Env → Store → SR) : Nat → Env → Store → SR
  | 0, _, _ => .bad
  | k + 1, e, S => (c e S).toS e fun d S1 => match d with
    | .bl true => match body e S1 with
      | .nx e2 S2 => whGo c body k e2 S2
      | .brk e2 S2 => .nx e2 S2
      | r => r
    | .bl false => .nx e S1
    | _ => .bad
/-- no error comes out of a comprehension -/
def R.bindX {α β : Type} (r : R α) (k : α → Store → R β) : R β := match r with
  | .ok a S => k a S
  | _ => .bad
/-- turns of a comprehension; acc: what is made so far -/
def lcGo (t : Tg) (it : Itr) (c : Option (Env → Store → R D)) (el : Env → Store → R D) (e : Env) : Nat → Nat → List D → Store → R (List D)
  | 0, _, acc, S => if it.fin S = true then .ok acc S else .bad
  | k + 1, i, acc, S => match it.at_ i S with
    | none => .bad
    | some d => match bindT t d e S with
      | none => .bad
      | some e1 => match c with
        | none => (el e1 S).bindX fun y S2 => if acc.length < lim then lcGo t it none el e k (i + 1) (acc ++ [y]) S2 else .bad
        | some c => (c e1 S).bindX fun b S1 => match b with
          | .bl true => (el e1 S1).bindX fun y S2 => if acc.length < lim then lcGo t it (some c) el e k (i + 1) (acc ++ [y]) S2 else .bad
          | .bl false => lcGo t it (some c) el e k (i + 1) acc S1
          | _ => .bad
def wipeE (e : Env) : List Nat → Env
  | [] => e
  | v :: vs => (wipeE e vs).set v none
structure Cxt where
  cl : Str → List D → Store → R D
  glo : Str → Option D
  fuel : Nat
  sub : Str → Str → Option Bool
  /-- the error that a suite holds -/
  exc : Option Exc
  /-- isinstance of an error's class -/
  isc : Str → Str → Option Bool
  /-- a def that looks at the error that a suite holds -/
  clx : Str → Exc → Store → R D
def xclR (o : Option Exc) (g : Exc → R D) : R D := match o with
  | some c => g c
  | none => .bad
def xisR (o : Option Exc) (f : Str → Option Bool) (S : Store) : R D := match o with
  | some c => match f c.cls with
    | some b => .ok (.bl b) S
    | none => .bad
  | none => .bad
def xatR (o : Option Exc) (f : Str → Bool) (S : Store) : R D := match o with
  | some c => match c.at_ with
    | some d => if f c.cls = true then .ok d S else .bad
    | none => .bad
  | none => .bad
mutual
def ev (G : Cxt) : Ex → Env → Store → R D
  | .int i, _, S => .ok (.int i) S
  | .str s, _, S => .ok (.str s) S
  | .bl b, _, S => .ok (.bl b) S
  | .non, _, S => .ok .non S
  | .var i, e, S => match e[i]? with
    | some (some d) => .ok d S
    | _ => .bad
  | .glo x, _, S => match G.glo x with
    | some d => .ok d S
    | none => .bad
  | .bin op a b, e, S => (ev G a e S).bind fun x S => (ev G b e S).bind fun y S => binop op x y S
  | .neg a, e, S => (ev G a e S).bind fun x S => match x with
    | .int i => .ok (.int (-i)) S
    | _ => .bad
  | .not a, e, S => (ev G a e S).bind fun x S => match x with
    | .bl b => .ok (.bl (!b)) S
    | _ => .bad
  | .and a b, e, S => (ev G a e S).bind fun x S => match x with
    | .bl true => ev G b e S
    | .bl false => .ok (.bl false) S
    | _ => .bad
  | .or a b, e, S => (ev G a e S).bind fun x S => match x with
    | .bl true => .ok (.bl true) S
    | .bl false => ev G b e S
    | _ => .bad
  | .cmp op a b, e, S => (ev G a e S).bind fun x S => (ev G b e S).bind fun y S => cmpop op x y S
  | .chn o1 o2 a b c, e, S => (ev G a e S).bind fun x S => (ev G b e S).bind fun y S => (cmpop o1 x y S).bind fun k S => match k with
    | .bl true => (ev G c e S).bind fun z S => cmpop o2 y z S
    | .bl false => .ok (.bl false) S
    | _ => .bad
  | .isN a, e, S => (ev G a e S).bind fun x S => .ok (.bl (isN x)) S
  | .ntN a, e, S => (ev G a e S).bind fun x S => .ok (.bl (!isN x)) S
  | .ife c a b, e, S => (ev G c e S).bind fun x S => match x with
    | .bl true => ev G a e S
    | .bl false => ev G b e S
    | _ => .bad
  | .tup es, e, S => (evs G es e S).bind fun ds S => .ok (.tup ds) S
  | .lst es, e, S => (evs G es e S).bind fun ds S => alloc (.lst ds) S
  | .idx a i, e, S => (ev G a e S).bind fun x S => (ev G i e S).bind fun y S => item x y S
  | .slT a b, e, S => (ev G a e S).bind fun x S => (ev G b e S).bind fun y S => slice x none (some y) S
  | .slF a b, e, S => (ev G a e S).bind fun x S => (ev G b e S).bind fun y S => slice x (some y) none S
  | .slB a b c, e, S => (ev G a e S).bind fun x S => (ev G b e S).bind fun y S => if isInt y = true then (ev G c e S).bind fun z S => slice x (some y) (some z) S else .bad
  | .rev a, e, S => (ev G a e S).bind fun x S => match lstOf S x with
    | some xs => alloc (.lst xs.reverse) S
    | none => .bad
  | .call f es, e, S => (evs G es e S).bind fun ds S => G.cl f ds S
  | .bi b es, e, S => (evs G es e S).bind fun ds S => biop b ds S
  | .isI a t, e, S => (ev G a e S).bind fun x S => match isTy S t x with
    | some b => .ok (.bl b) S
    | none => .bad
  | .app o a, e, S => (ev G o e S).bind fun x S => if isLst x S = true then (ev G a e S).bind fun y S => append x y S else .bad
  | .ext o a, e, S => (ev G o e S).bind fun x S => if isLst x S = true then (ev G a e S).bind fun y S => extend x y S else .bad
  | .clr o, e, S => (ev G o e S).bind fun x S => clear x S
  | .isB a b, e, S => (ev G a e S).bind (isBR b)
  | .chn4 o1 o2 o3 a b c d, e, S => (ev G a e S).bind fun x S => (ev G b e S).bind fun y S => (cmpop o1 x y S).bind fun k S => match k with
    | .bl true => (ev G c e S).bind fun z S => (cmpop o2 y z S).bind fun k S => match k with
      | .bl true => (ev G d e S).bind fun w S => cmpop o3 z w S
      | .bl false => .ok (.bl false) S
      | _ => .bad
    | .bl false => .ok (.bl false) S
    | _ => .bad
  | .fld a C f, e, S => (ev G a e S).bind (fldR C f)
  | .mth o C m key es, e, S => (ev G o e S).bind fun x S => if insOk C m x S = true then (evs G es e S).bind fun ds S => G.cl key (x :: ds) S else .bad
  | .mk C key es, e, S => (evs G es e S).bind fun ds S => (G.cl key (.ref S.length :: ds) (S ++ [.ins C []])).bind (madeR S.length)
  | .any, _, _ => .bad
  | .chn5 o1 o2 o3 o4 a b c d f, e, S => (ev G a e S).bind fun x S => (ev G b e S).bind fun y S => (cmpop o1 x y S).bind fun k S => match k with
    | .bl true => (ev G c e S).bind fun z S => (cmpop o2 y z S).bind fun k S => match k with
      | .bl true => (ev G d e S).bind fun w S => (cmpop o3 z w S).bind fun k S => match k with
        | .bl true => (ev G f e S).bind fun u S => cmpop o4 w u S
        | .bl false => .ok (.bl false) S
        | _ => .bad
      | .bl false => .ok (.bl false) S
      | _ => .bad
    | .bl false => .ok (.bl false) S
    | _ => .bad
  | .ntB a b, e, S => (ev G a e S).bind (ntBR b)
  | .dic t, _, S => alloc (if t = true then .dT [] else .dK []) S
  | .dgt o k, e, S => (ev G o e S).bind fun x S => (ev G k e S).bind fun y S => dgtR x y S
  | .din n k o, e, S => (ev G k e S).bind fun y S => (ev G o e S).bind fun x S => dinR n y x S
  | .get1 o k, e, S => (ev G o e S).bind fun x S => if isDct x S = true then (ev G k e S).bind fun y S => getR x y .non S else .bad
  | .get2 o k d, e, S => (ev G o e S).bind fun x S => if isDct x S = true then (ev G k e S).bind fun y S => (ev G d e S).bind fun z S => getR x y z S else .bad
  | .dpop o k, e, S => (ev G o e S).bind fun x S => if isDct x S = true then (ev G k e S).bind fun y S => dpopR x y S else .bad
  | .ixo o a, e, S => (ev G o e S).bind fun x S => if isLst x S = true then (ev G a e S).bind fun y S => ixoR x y S else .bad
  | .ins o i a, e, S => (ev G o e S).bind fun x S => if isLst x S = true then (ev G i e S).bind fun j S => (ev G a e S).bind fun y S => insR x j y S else .bad
  | .pop0 o, e, S => (ev G o e S).bind pop0R
  | .pop1 o i, e, S => (ev G o e S).bind fun x S => if isLst x S = true then (ev G i e S).bind fun j S => pop1R x j S else .bad
  | .xis _ C, _, S => xisR G.exc (fun x => G.isc x C) S
  | .xat _, _, S => xatR G.exc (fun x => (G.isc x x).isSome) S
  | .xcl _ f, _, S => xclR G.exc (fun c => G.clx f c S)
  | .dsp es, e, S => (evs G es e S).bind dspR
  | .lc own t it el, e, S => (evI G it e S).bind fun j S => (lcGo t j none (ev G el) (wipeE e own) j.n 0 [] S).bind fun ds S => alloc (.lst ds) S
  | .lcI own t it c el, e, S => (evI G it e S).bind fun j S => (lcGo t j (some (ev G c)) (ev G el) (wipeE e own) j.n 0 [] S).bind fun ds S => alloc (.lst ds) S
def evs (G : Cxt) : List Ex → Env → Store → R (List D)
  | [], _, S => .ok [] S
  | a :: r, e, S => (ev G a e S).bind fun x S => (evs G r e S).bind fun xs S => .ok (x :: xs) S
def evI (G : Cxt) : It → Env → Store → R Itr
  | .seq a, e, S => (ev G a e S).bind fun x S => match seqItr x S with
    | some j => .ok j S
    | none => .bad
  | .rng a, e, S => (ev G a e S).bind fun x S => match x with
    | .int j => match rngItr 0 j with
      | some j => .ok j S
      | none => .bad
    | _ => .bad
  | .rng2 a b, e, S => (ev G a e S).bind fun x S => (ev G b e S).bind fun y S => match x, y with
    | .int i, .int j => match rngItr i j with
      | some j => .ok j S
      | none => .bad
    | _, _ => .bad
  | .enm a, e, S => (ev G a e S).bind fun x S => match lstItr x S (fun _ i => i) (fun i d => .tup [.int i, d]) with
    | some j => .ok j S
    | none => .bad
  | .zip a b, e, S => (ev G a e S).bind fun x S => (ev G b e S).bind fun y S => match zipItr x y S with
    | some j => .ok j S
    | none => .bad
  | .rvd a, e, S => (ev G a e S).bind fun x S => match lstItr x S (fun n i => n - 1 - i) (fun _ d => d) with
    | some j => .ok j S
    | none => .bad
end
/-- behind a suite: the error's name goes -/
def suR (i : Nat) : SR → SR
  | .nx e2 S2 => .nx (e2.set i none) S2
  | .ret d S2 => .ret d S2
  | .brk e2 S2 => .brk (e2.set i none) S2
  | .exc _ _ _ => .bad
  | .bad => .bad
mutual
def exS (G : Cxt) : St → Env → Store → SR
  | .asg t a, e, S => (ev G a e S).toS e fun d S1 => match bindT t d e S1 with
    | some e1 => .nx e1 S1
    | none => .bad
  | .par i j a b, e, S => (ev G a e S).toS e fun x S1 => (ev G b e S1).toS e fun y S2 => if i < e.length ∧ j < e.length then .nx ((e.set i (some x)).set j (some y)) S2 else .bad
  | .sub o i a, e, S => (ev G a e S).toS e fun v S1 => (ev G o e S1).toS e fun x S2 => (ev G i e S2).toS e fun k S3 => (setItem x k v S3).toS e fun _ S4 => .nx e S4
  | .exp a, e, S => (ev G a e S).toS e fun _ S1 => .nx e S1
  | .ite c a b, e, S => (ev G c e S).toS e fun x S1 => match x with
    | .bl true => exB G a e S1
    | .bl false => exB G b e S1
    | _ => .bad
  | .forS t it b, e, S => (evI G it e S).toS e fun j S1 => forGo t j (exB G b) j.n 0 e S1
  | .whl c b, e, S => whGo (ev G c) (exB G b) G.fuel e S
  | .ret a, e, S => (ev G a e S).toS e fun d S1 => .ret d S1
  | .retN, _, S => .ret .non S
  | .brk, e, S => .brk e S
  | .pass, e, S => .nx e S
  | .stf o C f a, e, S => (ev G a e S).toS e fun v S1 => (ev G o e S1).toS e fun x S2 => (stfR C f x v S2).toS e fun _ S3 => .nx e S3
  | .any, _, _ => .bad
  | .dst o k a, e, S => (ev G a e S).toS e fun v S1 => (ev G o e S1).toS e fun x S2 => (ev G k e S2).toS e fun y S3 => (dstR x y v S3).toS e fun _ S4 => .nx e S4
  | .rai C, e, S => .exc ⟨C, none⟩ e S
  | .tryC b C a, e, S => match exB G b e S with
    | .exc c e1 S1 => match G.sub c.cls C with
      | some true => match ev G a e1 S1 with
        | .ok d S2 => .ret d S2
        | _ => .bad
      | some false => .exc c e1 S1
      | none => .bad
    | q => q
  | .raiA C a, e, S => (ev G a e S).toS e fun d S1 => .exc ⟨C, some d⟩ e S1
  | .tryA b C i su, e, S => match exB G b e S with
    | .exc c e1 S1 => match G.sub c.cls C with
      | some true => if i < e1.length then suR i (exB { G with exc := some c } su (e1.set i none) S1) else .bad
      | some false => .exc c e1 S1
      | none => .bad
    | q => q
  | .par3 i j l a b c, e, S => (ev G a e S).toS e fun x S1 => (ev G b e S1).toS e fun y S2 => (ev G c e S2).toS e fun z S3 => if i < e.length ∧ j < e.length ∧ l < e.length then .nx (((e.set i (some x)).set j (some y)).set l (some z)) S3 else .bad
  | .try2 b C i su C2 i2 su2, e, S => match exB G b e S with
    | .exc c e1 S1 => match G.sub c.cls C with
      | some true => if i < e1.length then suR i (exB { G with exc := some c } su (e1.set i none) S1) else .bad
      | some false => match G.sub c.cls C2 with
        | some true => if i2 < e1.length then suR i2 (exB { G with exc := some c } su2 (e1.set i2 none) S1) else .bad
        | some false => .exc c e1 S1
        | none => .bad
      | none => .bad
    | q => q
def exB (G : Cxt) : List St → Env → Store → SR
  | [], e, S => .nx e S
  | s :: r, e, S => match exS G s e S with
    | .nx e1 S1 => exB G r e1 S1
    | q => q
end
structure Def where
  ps : List Str
  ns : List Str
  dfl : List D
  body : List St
structure Prog where
  defs : List (Str × Def)
  glob : List (Str × D)
  subs : List (Str × List (Str × Bool))
  /-- a class: its fields, its methods with their defs' names -/
  kl : List (Str × List Str × List (Str × Str))
  /-- of each error's class, whose instances its instances are -/
  isx : List (Str × List (Str × Bool))
  /-- errors with a field, as subs -/
  sub2 : List (Str × List (Str × Bool))
  /-- defs that look at a held error -/
  xdefs : List (Str × Def)
def endX : SR → R D
  | .nx _ S => .ok .non S
  | .ret d S => .ok d S
  | _ => .bad
def endR : SR → R D
  | .nx _ S => .ok .non S
  | .ret d S => .ok d S
  | .exc c _ S => .exc c S
  | _ => .bad
/-- within such a def -/
def Prog.xc (P : Prog) (c : Exc) : Cxt := ⟨fun _ _ _ => .bad, fun _ => none, 0, fun _ _ => none, some c, fun x y => (P.isx.lookup x).bind fun l => l.lookup y, fun _ _ _ => .bad⟩
def Prog.clx (P : Prog) (f : Str) (c : Exc) (S : Store) : R D := match P.xdefs.lookup f with
  | some m => endX (exB (P.xc c) m.body (List.replicate m.ns.length none) S)
  | none => .bad
def Prog.cx (P : Prog) (fuel : Nat) (cl : Str → List D → Store → R D) : Cxt := ⟨cl, fun x => P.glob.lookup x, fuel, fun x y => ((P.subs.lookup x).or (P.sub2.lookup x)).bind fun l => l.lookup y, none, fun x y => (P.isx.lookup x).bind fun l => l.lookup y, P.clx⟩
/-- left out arguments -/
def padD (m : Def) (ds : List D) : List D := ds ++ m.dfl.drop (m.dfl.length - (m.ps.length - ds.length))
def callN (P : Prog) (fuel : Nat) : Nat → Str → List D → Store → R D
  | 0, _, _, _ => .bad
  | k + 1, f, ds, S => match P.defs.lookup f with
    | none => .bad
    | some d => if (padD d ds).length = d.ps.length then endR (exB (P.cx fuel (callN P fuel k)) d.body ((padD d ds).map some ++ List.replicate (d.ns.length - (padD d ds).length) none) S) else .bad
end Lt
namespace Lt
open PySem PySem.Spec PyProof.Rows L2
abbrev Sl := List (Option V)
/-- a list that never changes -/
def SqF (K : PySem.W.Frag) (H : Hp) (a : Addr) (vs : List V) : Prop := (∃ o, H a = some (.frz o (.lst vs))) ∨
    ∃ (o : Obj) (its : Array Value) (n : Nat), K.lookup a = some o ∧ o.cls = .type "list" ∧ o.dict = none ∧ o.data = .seq its n ∧ its.size ≤ sizeLine ∧ Vals vs its.toList
theorem SqF.sq {K : PySem.W.Frag} {H : Hp} {a : Addr} {vs : List V} (h : SqF K H a vs) : SqL K H a vs := by
  rcases h with h | h
  · exact .inl (.inr h)
  · exact .inr h
/-- a tuple of the module's -/
def SqC (K : PySem.W.Frag) (a : Addr) (vs : List V) : Prop := ∃ (o : Obj) (its : Array Value) (n : Nat), K.lookup a = some o ∧ o.cls = .type "tuple" ∧ o.data = .seq its n ∧ its.size ≤ sizeLine ∧ Vals vs its.toList
theorem SqC.sq {K : PySem.W.Frag} {H : Hp} {a : Addr} {vs : List V} (h : SqC K a vs) : SqT K H a vs := .inr h
section
variable (K : PySem.W.Frag) (CA : Str → Addr)
mutual
def RelD (L : List Addr) (H : Hp) : D → V → Prop
  | .non, v => v = .non
  | .bl b, v => v = .bl b
  | .int i, v => v = .int i
  | .str s, v => v = .str s
  | .ref n, v => ∃ a, L[n]? = some a ∧ v = .ref a
  | .tup xs, v => ∃ p vs, v = .ref p ∧ H p = some (.tup vs) ∧ RelDs L H xs vs
  | .frt xs, v => ∃ p vs, v = .ref p ∧ SqC K p vs ∧ RelDs L H xs vs
  | .frl xs, v => ∃ p vs, v = .ref p ∧ SqF K H p vs ∧ RelDs L H xs vs
def RelDs (L : List Addr) (H : Hp) : List D → List V → Prop
  | [], vs => vs = []
  | x :: xs, vs => ∃ v r, vs = v :: r ∧ RelD L H x v ∧ RelDs L H xs r
end
def CellR (L : List Addr) (H : Hp) (c : Cell) (a : Addr) : Prop := match c with
  | .lst xs => ∃ vs, H a = some (.lst vs) ∧ RelDs K L H xs vs
  | .dK kvs => ∃ vs, H a = some (.dK vs) ∧ vs.map (·.1) = kvs.map (·.1) ∧ RelDs K L H (kvs.map (·.2)) (vs.map (·.2))
  | .dT kvs => ∃ vs, H a = some (.dT vs) ∧ vs.map (·.1) = kvs.map (·.1) ∧ RelDs K L H (kvs.map (·.2)) (vs.map (·.2))
  | .ins C fs => ∃ dx gs, H a = some (.ins (CA C) dx gs) ∧ H dx = some (.own a) ∧ gs.map (·.1) = fs.map (·.1) ∧ RelDs K L H (fs.map (·.2)) (gs.map (·.2))
structure Good (S : Store) (L : List Addr) (H : Hp) : Prop where
  len : L.length = S.length
  nd : L.Nodup
  cell : ∀ (n : Nat) c a, S[n]? = some c → L[n]? = some a → CellR K CA L H c a
structure Step (L : List Addr) (H : Hp) (L' : List Addr) (H' : Hp) : Prop where
  ext : ∃ M, L' = L ++ M
  fresh : ∀ a, a ∈ L' → a ∈ L ∨ H a = none
  keep : ∀ a o, H a = some o → a ∉ L → H' a = some o
end
section
variable {K : PySem.W.Frag} {CA : Str → Addr} {S S' : Store} {L L1 M2 L' : List Addr} {H H1 H2 H' : Hp}
theorem Step.refl : Step L H L H := ⟨⟨[], by simp⟩, fun _ h => .inl h, fun _ _ h _ => h⟩
theorem Step.trans (a : Step L H L1 H1) (b : Step L1 H1 M2 H2) : Step L H M2 H2 := by
  obtain ⟨M, rfl⟩ := a.ext
  obtain ⟨M2, rfl⟩ := b.ext
  refine ⟨⟨M ++ M2, by simp⟩, fun x hx => ?_, fun x o e hn => ?_⟩
  · rcases b.fresh x hx with h | h
    · exact a.fresh x h
    · by_cases hL : x ∈ L
      · exact .inl hL
      · cases e : H x with
        | none => exact .inr rfl
        | some o =>
          have := a.keep x o e hL
          rw [h] at this; cases this
  · refine b.keep x o (a.keep x o e hn) fun hm => ?_
    rcases a.fresh x hm with h | h
    · exact hn h
    · rw [e] at h; cases h
theorem Step.get (a : Step L H L1 H1) {n : Nat} {x : Addr} (h : L[n]? = some x) : L1[n]? = some x := by
  obtain ⟨M, rfl⟩ := a.ext
  obtain ⟨hn, _⟩ := List.getElem?_eq_some_iff.mp h
  rw [List.getElem?_append_left hn]; exact h
theorem Good.at_ (g : Good K CA S L H) {a : Addr} (h : a ∈ L) : ∃ (n : Nat) (c : Cell), S[n]? = some c ∧ L[n]? = some a ∧ CellR K CA L H c a := by
  obtain ⟨n, hn, e⟩ := List.getElem_of_mem h
  have hS : n < S.length := by rw [← g.len]; exact hn
  exact ⟨n, S[n], by simp [hS], by simp [hn, e], g.cell n _ a (by simp [hS]) (by simp [hn, e])⟩
theorem Good.there (g : Good K CA S L H) {a : Addr} (h : a ∈ L) : ∃ o, H a = some o ∧ (∀ xs, o ≠ .tup xs) ∧ (∀ ob u, o ≠ .frz ob u) ∧ ∀ fs, o ≠ .xd fs := by
  obtain ⟨n, c, _, _, r⟩ := g.at_ h
  cases c with
  | lst xs => obtain ⟨vs, e, _⟩ := r; exact ⟨_, e, (by intro _ z; cases z), (by intro _ _ z; cases z), (by intro _ z; cases z)⟩
  | dK xs => obtain ⟨vs, e, _⟩ := r; exact ⟨_, e, (by intro _ z; cases z), (by intro _ _ z; cases z), (by intro _ z; cases z)⟩
  | dT xs => obtain ⟨vs, e, _⟩ := r; exact ⟨_, e, (by intro _ z; cases z), (by intro _ _ z; cases z), (by intro _ z; cases z)⟩
  | ins C fs => obtain ⟨dx, gs, e, _⟩ := r; exact ⟨_, e, (by intro _ z; cases z), (by intro _ _ z; cases z), (by intro _ z; cases z)⟩
theorem Good.fresh (g : Good K CA S L H) {a : Addr} (e : H a = none) : a ∉ L := fun h => by
  obtain ⟨o, e', _⟩ := g.there h
  rw [e] at e'; cases e'
/-- what never changes -/
def Per : HO → Prop
  | .tup _ => True
  | .frz _ _ => True
  | .xd _ => True
  | _ => False
/-- no cell goes, nothing changes that never changes -/
structure Mon (L : List Addr) (H : Hp) (L' : List Addr) (H' : Hp) : Prop where
  get : ∀ (n : Nat) (a : Addr), L[n]? = some a → L'[n]? = some a
  per : ∀ a o, H a = some o → Per o → H' a = some o
theorem Step.mon (g : Good K CA S L H) (st : Step L H L1 H1) : Mon L H L1 H1 := ⟨fun _ _ h => st.get h, fun a o e p => st.keep a o e fun h => by
  obtain ⟨o', e', n1, n2, n3⟩ := g.there h
  rw [e] at e'; cases e'
  cases o with
  | tup xs => exact n1 _ rfl
  | frz x u => exact n2 _ _ rfl
  | xd fs => exact n3 _ rfl
  | _ => exact p⟩
theorem SqT.mon (m : Mon L H L1 H1) {p : Addr} {vs : List V} (h : SqT K H p vs) : SqT K H1 p vs := by
  rcases h with (h | ⟨o, h⟩) | h
  · exact .inl (.inl (m.per _ _ h True.intro))
  · exact .inl (.inr ⟨o, m.per _ _ h True.intro⟩)
  · exact .inr h
theorem SqF.mon (m : Mon L H L1 H1) {p : Addr} {vs : List V} (h : SqF K H p vs) : SqF K H1 p vs := by
  rcases h with ⟨o, h⟩ | h
  · exact .inl ⟨o, m.per _ _ h True.intro⟩
  · exact .inr h
mutual
theorem RelD.mon (m : Mon L H L1 H1) : ∀ (d : D) (v : V), RelD K L H d v → RelD K L1 H1 d v
  | .non, v, h => by simpa [RelD] using h
  | .bl b, v, h => by simpa [RelD] using h
  | .int i, v, h => by simpa [RelD] using h
  | .str s, v, h => by simpa [RelD] using h
  | .ref n, v, h => by
    simp only [RelD] at h ⊢
    obtain ⟨a, e, h⟩ := h
    exact ⟨a, m.get _ _ e, h⟩
  | .tup xs, v, h => by
    simp only [RelD] at h ⊢
    obtain ⟨p, vs, e, h1, h2⟩ := h
    exact ⟨p, vs, e, m.per _ _ h1 True.intro, RelDs.mon m xs vs h2⟩
  | .frt xs, v, h => by
    simp only [RelD] at h ⊢
    obtain ⟨p, vs, e, h1, h2⟩ := h
    exact ⟨p, vs, e, h1, RelDs.mon m xs vs h2⟩
  | .frl xs, v, h => by
    simp only [RelD] at h ⊢
    obtain ⟨p, vs, e, h1, h2⟩ := h
    exact ⟨p, vs, e, h1.mon m, RelDs.mon m xs vs h2⟩
theorem RelDs.mon (m : Mon L H L1 H1) : ∀ (ds : List D) (vs : List V), RelDs K L H ds vs → RelDs K L1 H1 ds vs
  | [], vs, h => by simpa [RelDs] using h
  | d :: ds, vs, h => by
    simp only [RelDs] at h ⊢
    obtain ⟨v, r, e, h1, h2⟩ := h
    exact ⟨v, r, e, RelD.mon m d v h1, RelDs.mon m ds r h2⟩
end
theorem RelD.step (g : Good K CA S L H) (st : Step L H L1 H1) {d : D} {v : V} (h : RelD K L H d v) : RelD K L1 H1 d v := RelD.mon (st.mon g) d v h
theorem RelDs.step (g : Good K CA S L H) (st : Step L H L1 H1) {d : List D} {v : List V} (h : RelDs K L H d v) : RelDs K L1 H1 d v := RelDs.mon (st.mon g) d v h
theorem RelDs.cons {d : D} {ds : List D} {v : V} {vs : List V} (h : RelD K L H d v) (t : RelDs K L H ds vs) : RelDs K L H (d :: ds) (v :: vs) := by
  simp only [RelDs]
  exact ⟨v, vs, rfl, h, t⟩
theorem RelDs.nil : RelDs K L H [] [] := by simp [RelDs]
theorem RelDs.length : ∀ {ds : List D} {vs : List V}, RelDs K L H ds vs → vs.length = ds.length
  | [], vs, h => by simp only [RelDs] at h; rw [h]; rfl
  | d :: ds, vs, h => by
    simp only [RelDs] at h
    obtain ⟨v, r, rfl, _, t⟩ := h
    simp [RelDs.length t]
theorem RelDs.get : ∀ {ds : List D} {vs : List V} {i : Nat} {d : D}, RelDs K L H ds vs → ds[i]? = some d → ∃ v, vs[i]? = some v ∧ RelD K L H d v
  | [], _, _, _, _, e => by simp at e
  | x :: ds, vs, i, d, h, e => by
    simp only [RelDs] at h
    obtain ⟨v, r, rfl, h1, t⟩ := h
    cases i with
    | zero => simp at e; subst e; exact ⟨v, by simp, h1⟩
    | succ i => simp at e; obtain ⟨w, e2, h2⟩ := RelDs.get t e; exact ⟨w, by simpa using e2, h2⟩
theorem RelDs.append : ∀ {ds es : List D} {vs ws : List V}, RelDs K L H ds vs → RelDs K L H es ws → RelDs K L H (ds ++ es) (vs ++ ws)
  | [], _, vs, _, h, t => by simp only [RelDs] at h; subst h; exact t
  | x :: ds, _, vs, _, h, t => by
    simp only [RelDs] at h
    obtain ⟨v, r, rfl, h1, h2⟩ := h
    exact RelDs.cons h1 (RelDs.append h2 t)
theorem RelDs.set : ∀ {ds : List D} {vs : List V} (i : Nat) {d : D} {v : V}, RelDs K L H ds vs → RelD K L H d v → RelDs K L H (ds.set i d) (vs.set i v)
  | [], vs, _, _, _, h, _ => by simp only [RelDs] at h; subst h; exact RelDs.nil
  | x :: ds, vs, i, _, _, h, hd => by
    simp only [RelDs] at h
    obtain ⟨v, r, rfl, h1, h2⟩ := h
    cases i with
    | zero => exact RelDs.cons hd h2
    | succ i => exact RelDs.cons h1 (RelDs.set i h2 hd)
theorem RelDs.drop : ∀ {ds : List D} {vs : List V} (i : Nat), RelDs K L H ds vs → RelDs K L H (ds.drop i) (vs.drop i)
  | ds, vs, 0, h => by simpa using h
  | [], vs, i + 1, h => by simp only [RelDs] at h; subst h; exact RelDs.nil
  | x :: ds, vs, i + 1, h => by
    simp only [RelDs] at h
    obtain ⟨v, r, rfl, h1, h2⟩ := h
    exact RelDs.drop i h2
theorem RelDs.take : ∀ {ds : List D} {vs : List V} (i : Nat), RelDs K L H ds vs → RelDs K L H (ds.take i) (vs.take i)
  | ds, vs, 0, h => by simpa using RelDs.nil
  | [], vs, i + 1, h => by simp only [RelDs] at h; subst h; exact RelDs.nil
  | x :: ds, vs, i + 1, h => by
    simp only [RelDs] at h
    obtain ⟨v, r, rfl, h1, h2⟩ := h
    exact RelDs.cons h1 (RelDs.take i h2)
theorem RelDs.reverse : ∀ {ds : List D} {vs : List V}, RelDs K L H ds vs → RelDs K L H ds.reverse vs.reverse
  | [], vs, h => by simp only [RelDs] at h; subst h; exact RelDs.nil
  | x :: ds, vs, h => by
    simp only [RelDs] at h
    obtain ⟨v, r, rfl, h1, h2⟩ := h
    rw [List.reverse_cons, List.reverse_cons]
    exact RelDs.append (RelDs.reverse h2) (RelDs.cons h1 RelDs.nil)
theorem RelDs.rep {ds : List D} {vs : List V} (h : RelDs K L H ds vs) : ∀ n, RelDs K L H (List.replicate n ds).flatten (List.replicate n vs).flatten
  | 0 => RelDs.nil
  | n + 1 => by
    rw [List.replicate_succ, List.replicate_succ, List.flatten_cons, List.flatten_cons]
    exact RelDs.append h (RelDs.rep h n)
theorem RelDs.ints : ∀ {is : List Int}, RelDs K L H (is.map .int) (is.map V.int)
  | [] => RelDs.nil
  | i :: is => by
    rw [List.map_cons, List.map_cons]
    exact RelDs.cons (by simp [RelD]) RelDs.ints
/-- what a cell's description leans on -/
theorem CellR.mon (m : Mon L H L1 H1) {c : Cell} {a : Addr} (h : CellR K CA L H c a) (e : H1 a = H a) (hd : ∀ dx, H dx = some (.own a) → H1 dx = some (.own a)) : CellR K CA L1 H1 c a := by
  cases c with
  | lst xs => obtain ⟨vs, e1, r⟩ := h; exact ⟨vs, e.trans e1, RelDs.mon m _ _ r⟩
  | dK xs => obtain ⟨vs, e1, k, r⟩ := h; exact ⟨vs, e.trans e1, k, RelDs.mon m _ _ r⟩
  | dT xs => obtain ⟨vs, e1, k, r⟩ := h; exact ⟨vs, e.trans e1, k, RelDs.mon m _ _ r⟩
  | ins C fs => obtain ⟨dx, gs, e1, e2, e3, r⟩ := h; exact ⟨dx, gs, e.trans e1, hd dx e2, e3, RelDs.mon m _ _ r⟩
theorem Good.noO (g : Good K CA S L H) {b x : Addr} (e : H b = some (.own x)) : b ∉ L := fun h => by
  obtain ⟨n, c, _, _, r⟩ := g.at_ h
  cases c with
  | lst xs => obtain ⟨vs, e', _⟩ := r; rw [e] at e'; cases e'
  | dK xs => obtain ⟨vs, e', _⟩ := r; rw [e] at e'; cases e'
  | dT xs => obtain ⟨vs, e', _⟩ := r; rw [e] at e'; cases e'
  | ins C fs => obtain ⟨dx, gs, e', _⟩ := r; rw [e] at e'; cases e'
/-- a new cell -/
theorem Good.alloc (g : Good K CA S L H) {p : Addr} {o : HO} {c : Cell} (hp : H p = none) (hc : CellR K CA (L ++ [p]) (upd H p o) c p) :
    Step L H (L ++ [p]) (upd H p o) ∧ Good K CA (S ++ [c]) (L ++ [p]) (upd H p o) := by
  have hn := g.fresh hp
  have st : Step L H (L ++ [p]) (upd H p o) := by
    refine ⟨⟨[p], rfl⟩, fun x hx => ?_, fun x u e _ => ?_⟩
    · rcases List.mem_append.mp hx with h | h
      · exact .inl h
      · rw [List.mem_singleton] at h; subst h; exact .inr hp
    · rw [upd_ne (ne_of_none e hp)]; exact e
  refine ⟨st, by simp [g.len], ?_, fun n c' a h1 h2 => ?_⟩
  · rw [List.nodup_append]
    refine ⟨g.nd, by simp, fun x hx y hy => ?_⟩
    rw [List.mem_singleton] at hy
    subst hy
    exact fun e => hn (e ▸ hx)
  · by_cases hlt : n < S.length
    · rw [List.getElem?_append_left hlt] at h1
      rw [List.getElem?_append_left (by rw [g.len]; exact hlt)] at h2
      have ha : a ∈ L := List.mem_of_getElem? h2
      refine (g.cell n c' a h1 h2).mon (st.mon g) (upd_ne fun e => hn (e ▸ ha)) fun dx e => ?_
      rw [upd_ne (ne_of_none e hp)]; exact e
    · have e : n = S.length := by
        have := (List.getElem?_eq_some_iff.mp h1).1
        simp at this; omega
      subst e
      rw [List.getElem?_append_right (Nat.le_refl _)] at h1
      rw [List.getElem?_append_right (by rw [g.len]; exact Nat.le_refl _)] at h2
      simp at h1
      simp [g.len] at h2
      subst h1 h2
      exact hc
/-- something new that is no cell -/
theorem Good.side (g : Good K CA S L H) {p : Addr} {o : HO} (hp : H p = none) : Step L H L (upd H p o) ∧ Good K CA S L (upd H p o) := by
  have hn := g.fresh hp
  have st : Step L H L (upd H p o) := ⟨⟨[], by simp⟩, fun x hx => .inl hx, fun x u e _ => by rw [upd_ne (ne_of_none e hp)]; exact e⟩
  refine ⟨st, g.len, g.nd, fun n c a h1 h2 => ?_⟩
  have ha : a ∈ L := List.mem_of_getElem? h2
  refine (g.cell n c a h1 h2).mon (st.mon g) (upd_ne fun e => hn (e ▸ ha)) fun dx e => ?_
  rw [upd_ne (ne_of_none e hp)]; exact e
/-- a cell is written -/
theorem Good.write (g : Good K CA S L H) {n : Nat} {a : Addr} {o : HO} {c : Cell} (hn : L[n]? = some a) (hc : CellR K CA L (upd H a o) c a) :
    Step L H L (upd H a o) ∧ Good K CA (S.set n c) L (upd H a o) := by
  have ha : a ∈ L := List.mem_of_getElem? hn
  have st : Step L H L (upd H a o) := ⟨⟨[], by simp⟩, fun x hx => .inl hx, fun x u e hx => by rw [upd_ne (by intro z; subst z; exact hx ha)]; exact e⟩
  refine ⟨st, by simp [g.len], g.nd, fun m c' b h1 h2 => ?_⟩
  by_cases hm : m = n
  · subst hm
    rw [hn] at h2; cases h2
    have hlt : m < S.length := by rw [← g.len]; exact (List.getElem?_eq_some_iff.mp hn).1
    rw [List.getElem?_set_self hlt] at h1
    cases h1
    exact hc
  · rw [List.getElem?_set_ne (Ne.symm hm)] at h1
    have hab : b ≠ a := fun e => by
      subst e
      obtain ⟨h3, e3⟩ := List.getElem?_eq_some_iff.mp h2
      obtain ⟨h4, e4⟩ := List.getElem?_eq_some_iff.mp hn
      exact hm ((List.getElem_inj g.nd).mp (e3.trans e4.symm))
    refine (g.cell m c' b h1 h2).mon (st.mon g) (upd_ne hab) fun dx e => ?_
    rw [upd_ne (by intro z; subst z; exact g.noO e ha)]; exact e
/-- a list that is no cell is changed -/
theorem Good.other (g : Good K CA S L H) {p : Addr} {xs ys : List V} (hp : p ∉ L) (e : H p = some (.lst xs)) : Mon L H L (upd H p (.lst ys)) ∧ Good K CA S L (upd H p (.lst ys)) := by
  have m : Mon L H L (upd H p (.lst ys)) := ⟨fun _ _ h => h, fun a o ea pa => by
    rw [upd_ne (by intro z; subst z; rw [e] at ea; cases ea; exact pa)]; exact ea⟩
  refine ⟨m, g.len, g.nd, fun n c a h1 h2 => ?_⟩
  have ha : a ∈ L := List.mem_of_getElem? h2
  refine (g.cell n c a h1 h2).mon m (upd_ne fun z => hp (z ▸ ha)) fun dx ex => ?_
  rw [upd_ne (by intro z; subst z; rw [e] at ex; cases ex)]; exact ex
/-- where a suite's error stands: its slot, its address, its dict's address and what stands there -/
abbrev PinT := Option (Nat × Addr × Option (Addr × D))
structure Cxp extends Cxt where
  pin : PinT
instance : Coe Cxp Cxt := ⟨Cxp.toCxt⟩
def PinR (K : PySem.W.Frag) (pn : PinT) (L : List Addr) (H : Hp) (e : Env) (σ : Sl) : Prop := ∀ i a o, pn = some (i, a, o) → σ[i]? = some (some (.ref a)) ∧ e[i]? = some none ∧ ∀ x d, o = some (x, d) → ∃ v, H x = some (.xd [("at", v)]) ∧ RelD K L H d v
structure EnvR (K : PySem.W.Frag) (pn : PinT) (L : List Addr) (H : Hp) (e : Env) (σ : Sl) : Prop where
  len : e.length = σ.length
  has : ∀ (i : Nat) d, e[i]? = some (some d) → ∃ v, σ[i]? = some (some v) ∧ RelD K L H d v
  pin : PinR K pn L H e σ
variable {pn : PinT}
theorem EnvR.mon {e : Env} {σ : Sl} (h : EnvR K pn L H e σ) (m : Mon L H L1 H1) : EnvR K pn L1 H1 e σ :=
  ⟨h.len, fun i d hi => let ⟨v, e1, r⟩ := h.has i d hi; ⟨v, e1, RelD.mon m d v r⟩, fun i a o hp => by
    obtain ⟨p1, p2, p3⟩ := h.pin i a o hp
    refine ⟨p1, p2, fun x d ho => ?_⟩
    obtain ⟨v, q1, q2⟩ := p3 x d ho
    exact ⟨v, m.per _ _ q1 True.intro, RelD.mon m d v q2⟩⟩
theorem EnvR.step {e : Env} {σ : Sl} (h : EnvR K pn L H e σ) (g : Good K CA S L H) (st : Step L H L1 H1) : EnvR K pn L1 H1 e σ := h.mon (st.mon g)
theorem EnvR.set {e : Env} {σ : Sl} (h : EnvR K pn L H e σ) {i : Nat} {d : D} {v : V} (r : RelD K L H d v) (hp : ∀ j a o, pn = some (j, a, o) → j ≠ i) : EnvR K pn L H (e.set i (some d)) (σ.set i (some v)) := by
  refine ⟨by simp [h.len], fun j d' hj => ?_, fun j a o hj => ?_⟩
  · by_cases hij : j = i
    · subst hij
      by_cases hlt : j < e.length
      · rw [List.getElem?_set_self hlt] at hj
        cases hj
        exact ⟨v, by rw [List.getElem?_set_self (by rw [← h.len]; exact hlt)], r⟩
      · rw [List.getElem?_eq_none (by simpa using hlt)] at hj; cases hj
    · rw [List.getElem?_set_ne (Ne.symm hij)] at hj
      obtain ⟨w, e1, r1⟩ := h.has j d' hj
      exact ⟨w, by rw [List.getElem?_set_ne (Ne.symm hij)]; exact e1, r1⟩
  · have hij := hp j a o hj
    obtain ⟨p1, p2, p3⟩ := h.pin j a o hj
    exact ⟨by rw [List.getElem?_set_ne (Ne.symm hij)]; exact p1, by rw [List.getElem?_set_ne (Ne.symm hij)]; exact p2, p3⟩
theorem EnvR.wipe {e : Env} {σ : Sl} (h : EnvR K pn L H e σ) (hp : pn = none) : ∀ vs : List Nat, EnvR K pn L H (wipeE e vs) (L2.wipe σ vs)
  | [] => h
  | v :: vs => by
    have ih := EnvR.wipe h hp vs
    unfold wipeE L2.wipe
    refine ⟨by simp [ih.len], fun j d' hj => ?_, fun j a o hj => by rw [hp] at hj; cases hj⟩
    by_cases hij : j = v
    · subst hij
      by_cases hlt : j < (wipeE e vs).length
      · rw [List.getElem?_set_self hlt] at hj; cases hj
      · rw [List.getElem?_eq_none (by simpa using hlt)] at hj; cases hj
    · rw [List.getElem?_set_ne (Ne.symm hij)] at hj
      obtain ⟨w, e1, r1⟩ := ih.has j d' hj
      exact ⟨w, by rw [List.getElem?_set_ne (Ne.symm hij)]; exact e1, r1⟩
def ExR (K : PySem.W.Frag) (CA : Str → Addr) (L : List Addr) (H : Hp) (c : Exc) (cls : Value) (dd : Option Addr) : Prop := cls = .ref (CA c.cls) ∧ match c.at_ with
  | none => dd = none
  | some d => ∃ x v, dd = some x ∧ H x = some (.xd [("at", v)]) ∧ RelD K L H d v
variable {α β : Type} {W : WX} {σ : Sl}
/-- behind a result: P of its value -/
def Aft (K : PySem.W.Frag) (CA : Str → Addr) (W : WX) (σ : Sl) (L : List Addr) (H : Hp) (r : R α) (P : α → Store → List Addr → Hp → Prop) : Prop := match r with
  | .ok a S' => ∀ L' H', Step L H L' H' → Good K CA S' L' H' → P a S' L' H'
  | .exc c S' => ∀ cls dd L' H', Step L H L' H' → Good K CA S' L' H' → ExR K CA L' H' c cls dd → W cls dd σ H'
  | .bad => False
theorem Aft.from (st : Step L H L1 H1) {r : R α} {P : α → Store → List Addr → Hp → Prop} (h : Aft K CA W σ L H r P) : Aft K CA W σ L1 H1 r P := by
  cases r with
  | ok a S' => exact fun L' H' s' g => h L' H' (st.trans s') g
  | exc c S' => exact fun cls dd L' H' s' g x => h cls dd L' H' (st.trans s') g x
  | bad => exact h
theorem Aft.bind {r : R α} {k : α → Store → R β} {P : β → Store → List Addr → Hp → Prop} (h : Aft K CA W σ L H (r.bind k) P) :
    Aft K CA W σ L H r fun a S1 L1 H1 => Step L H L1 H1 ∧ Good K CA S1 L1 H1 ∧ Aft K CA W σ L1 H1 (k a S1) P := by
  cases r with
  | ok a S1 => exact fun L1 H1 s1 g1 => ⟨s1, g1, Aft.from s1 h⟩
  | exc c S1 => exact h
  | bad => exact h
theorem Aft.bind0 {r : R α} {k : α → Store → R β} {P : β → Store → List Addr → Hp → Prop} (h : Aft K CA W σ L H (r.bind k) P) :
    Aft K CA W σ L H r fun a S1 L1 H1 => Aft K CA W σ L H (k a S1) P := by
  cases r with
  | ok a S1 => exact fun _ _ _ _ => h
  | exc c S1 => exact h
  | bad => exact h
theorem Aft.more {r : R α} {P : α → Store → List Addr → Hp → Prop} (h : Aft K CA W σ L H r P) : Aft K CA W σ L H r fun a S1 L1 H1 => Step L H L1 H1 ∧ Good K CA S1 L1 H1 ∧ P a S1 L1 H1 := by
  cases r with
  | ok a S1 => exact fun L1 H1 s1 g1 => ⟨s1, g1, h L1 H1 s1 g1⟩
  | exc c S1 => exact h
  | bad => exact h
theorem Aft.mono {r : R α} {P P' : α → Store → List Addr → Hp → Prop} (h : Aft K CA W σ L H r P) (m : ∀ a S1 L1 H1, P a S1 L1 H1 → P' a S1 L1 H1) : Aft K CA W σ L H r P' := by
  cases r with
  | ok a S1 => exact fun L1 H1 s1 g1 => m _ _ _ _ (h L1 H1 s1 g1)
  | exc c S1 => exact h
  | bad => exact h
/-- an expression's reading -/
def tE (K : PySem.W.Frag) (CA : Str → Addr) (G : Cxp) (W : WX) (x : Ex) : TE := fun σ H Q => ∃ S L e, Good K CA S L H ∧ EnvR K G.pin L H e σ ∧ Aft K CA W σ L H (ev G x e S) fun d _ L' H' => ∀ v, RelD K L' H' d v → Q v H'
def tEs (K : PySem.W.Frag) (CA : Str → Addr) (G : Cxp) (W : WX) (xs : List Ex) : TA := fun σ H Q => ∃ S L e, Good K CA S L H ∧ EnvR K G.pin L H e σ ∧ Aft K CA W σ L H (evs G xs e S) fun ds _ L' H' => ∀ vs, RelDs K L' H' ds vs → Q vs H'
def tT (K : PySem.W.Frag) (CA : Str → Addr) (G : Cxp) (W : WX) (x : Ex) : TT := fun σ H Q => ∃ S L e, Good K CA S L H ∧ EnvR K G.pin L H e σ ∧ Aft K CA W σ L H (ev G x e S) fun d _ _ H' => ∃ b, d = .bl b ∧ Q b H'
def AftS (K : PySem.W.Frag) (CA : Str → Addr) (pn : PinT) (W : WX) (L : List Addr) (H : Hp) (r : SR) (Z : Ends) : Prop := match r with
  | .nx e S' => ∀ σ' L' H', Step L H L' H' → Good K CA S' L' H' → EnvR K pn L' H' e σ' → Z.nx σ' H'
  | .ret d S' => ∀ v L' H', Step L H L' H' → Good K CA S' L' H' → RelD K L' H' d v → Z.rt v H'
  | .brk e S' => ∀ σ' L' H', Step L H L' H' → Good K CA S' L' H' → EnvR K pn L' H' e σ' → Z.bk σ' H'
  | .exc c e S' => ∀ σ' cls dd L' H', Step L H L' H' → Good K CA S' L' H' → EnvR K pn L' H' e σ' → ExR K CA L' H' c cls dd → W cls dd σ' H'
  | .bad => False
theorem AftS.from (st : Step L H L1 H1) {r : SR} {Z : Ends} (h : AftS K CA pn W L H r Z) : AftS K CA pn W L1 H1 r Z := by
  cases r with
  | nx e S' => exact fun σ' L' H' s' g x => h σ' L' H' (st.trans s') g x
  | ret d S' => exact fun σ' L' H' s' g x => h σ' L' H' (st.trans s') g x
  | brk e S' => exact fun σ' L' H' s' g x => h σ' L' H' (st.trans s') g x
  | exc c e S' => exact fun σ' cls dd L' H' s' g x y => h σ' cls dd L' H' (st.trans s') g x y
  | bad => exact h
theorem AftS.toS {e : Env} (er : EnvR K pn L H e σ) (g : Good K CA S L H) {r : R α} {k : α → Store → SR} {Z : Ends} (h : AftS K CA pn W L H (r.toS e k) Z) :
    Aft K CA W σ L H r fun a S1 L1 H1 => Step L H L1 H1 ∧ Good K CA S1 L1 H1 ∧ AftS K CA pn W L1 H1 (k a S1) Z := by
  cases r with
  | ok a S1 => exact fun L1 H1 s1 g1 => ⟨s1, g1, AftS.from s1 h⟩
  | exc c S1 => exact fun cls dd L' H' s' g' x => h σ cls dd L' H' s' g' (er.step g s') x
  | bad => exact h
def tS (K : PySem.W.Frag) (CA : Str → Addr) (G : Cxp) (W : WX) (x : St) : TS := fun Z σ H => ∃ S L e, Good K CA S L H ∧ EnvR K G.pin L H e σ ∧ AftS K CA G.pin W L H (exS G x e S) Z
def tB (K : PySem.W.Frag) (CA : Str → Addr) (G : Cxp) (W : WX) (xs : List St) : TS := fun Z σ H => ∃ S L e, Good K CA S L H ∧ EnvR K G.pin L H e σ ∧ AftS K CA G.pin W L H (exB G xs e S) Z
end
end Lt
namespace Lt
open PySem L2
structure MC where
  N : List Str
  sc : Scope
  top : Bool
  fs : Str → Nat → Bool
  xs : Str → Bool
  fl : Str → Str → Bool
  ms : Str → Str → Str → Nat → Bool
  mks : Str → Str → Nat → Bool
  xo : Str → Bool
  /-- the slot of the error that a suite holds -/
  hs : Option Nat
  /-- defs that look at a held error -/
  xq : Str → Bool
def MC.blk (C : MC) (sc : Scope) : MC := ⟨C.N, relS sc C.sc, false, C.fs, C.xs, C.fl, C.ms, C.mks, fun _ => false, C.hs, fun _ => false⟩
def MC.suite (C : MC) (i : Nat) : MC := ⟨C.N, C.sc, false, fun _ _ => false, fun _ => false, fun _ _ => false, fun _ _ _ _ => false, fun _ _ _ => false, fun _ => false, some i, C.xq⟩
def cold (C : MC) : Bool := C.hs.isNone
def hsIs (C : MC) (i : Nat) : Bool := match C.hs with
  | some j => decide (j = i)
  | none => false
def hsNe (C : MC) (i : Nat) : Bool := match C.hs with
  | some j => !decide (j = i)
  | none => true
def nmOk (x : Str) : Bool := !(x == ("__debug__" : Str)) && !(x == ("__classdict__" : Str))
def visB (sc : Scope) (x : Str) : Bool := match sc.names.lookup x with
  | some .local => true
  | some .cell => true
  | some .free => true
  | _ => false
def locB (sc : Scope) (x : Str) : Bool := match sc.names.lookup x with
  | some .local => true
  | _ => false
def celB (sc : Scope) (x : Str) : Bool := match sc.names.lookup x with
  | some .cell => true
  | _ => false
def gloB (sc : Scope) (x : Str) : Bool := match sc.names.lookup x with
  | some .globalImplicit => true
  | _ => false
def slotB (C : MC) (i : Nat) (x : Str) : Bool := match C.N[i]? with
  | some y => decide (y = x)
  | none => false
def opB : Op → Operator → Bool
  | .add, .Add => true
  | .sub, .Sub => true
  | .mul, .Mult => true
  | .fdiv, .FloorDiv => true
  | .mod, .Mod => true
  | .pow, .Pow => true
  | _, _ => false
def cmB : Cm → CmpOp → Bool
  | .lt, .Lt => true
  | .le, .LtE => true
  | .gt, .Gt => true
  | .ge, .GtE => true
  | .eq, .Eq => true
  | .ne, .NotEq => true
  | _, _ => false
def cmI : Cm → CmpOp → Bool
  | .isin, .In => true
  | .notin, .NotIn => true
  | a, b => cmB a b
def dinB : Bool → CmpOp → Bool
  | false, .In => true
  | true, .NotIn => true
  | _, _ => false
def biN : Bi → Str
  | .len => "len"
  | .abs => "abs"
  | .int => "int"
  | .str => "str"
  | .list => "list"
  | .tuple => "tuple"
  | .sorted => "sorted"
  | .max => "max"
  | .min => "min"
def biOk (C : MC) : Bi → Bool
  | .max => cold C
  | .sorted => cold C
  | .min => cold C
  | _ => true
def tyN : Ty → Str
  | .int => "int"
  | .bool => "bool"
  | .str => "str"
  | .tuple => "tuple"
  | .list => "list"
def notSl : Expr → Bool
  | .Slice _ _ _ _ => false
  | _ => true
def anyE : Expr → Bool
  | .ListComp _ _ _ _ => false
  | .SetComp _ _ _ _ => false
  | .DictComp _ _ _ _ _ => false
  | _ => true
def isTupE : Expr → Bool
  | .Tuple _ _ _ => true
  | _ => false
def itT : It → Bool
  | .enm _ => true
  | .zip _ _ => true
  | _ => false
/-- a test whose truth is its value's -/
def tOk : Ex → Bool
  | .ife _ _ _ => false
  | .any => false
  | .and a b => tOk a && tOk b
  | .or a b => tOk a && tOk b
  | .not a => tOk a
  | _ => true
def notSet : Expr → Bool
  | .Set _ _ _ => false
  | _ => true
def notSt : Expr → Bool
  | .Starred _ _ => false
  | _ => true
def notCall : Expr → Bool
  | .Call _ _ _ _ => false
  | _ => true
def ownL (C : MC) (own : List Nat) : List (Str × Nat) := own.map fun i => ((C.N[i]?).getD "", i)
def stB (C : MC) (x : Str) : Bool := locB C.sc x || (celB C.sc x && C.top)
def mTs (C : MC) : List Nat → List Expr → Bool
  | [], [] => true
  | i :: is, .Name x _ :: es => slotB C i x && stB C x && mTs C is es
  | _, _ => false
def mT (C : MC) : Tg → Expr → Bool
  | .name i, .Name x _ => hsNe C i && (slotB C i x && stB C x)
  | .tup is, .Tuple es _ _ => cold C && mTs C is es
  | _, _ => false
def mInt (i : Int) (e : Expr) : Bool := match e with
  | .Constant (.int j) k p => decide (j = i)
  | _ => false
theorem mInt_inv (i : Int) {e : Expr} (hh : mInt i e = true) : ∃ j k p, e = .Constant (.int j) k p ∧ (decide (j = i)) = true := by
  unfold mInt at hh
  split at hh
  · exact ⟨_, _, _, rfl, hh⟩
  · cases hh
def mStr (s : Str) (e : Expr) : Bool := match e with
  | .Constant (.str j) k p => decide (j = s)
  | _ => false
theorem mStr_inv (s : Str) {e : Expr} (hh : mStr s e = true) : ∃ j k p, e = .Constant (.str j) k p ∧ (decide (j = s)) = true := by
  unfold mStr at hh
  split at hh
  · exact ⟨_, _, _, rfl, hh⟩
  · cases hh
def mBl (b : Bool) (e : Expr) : Bool := match e with
  | .Constant (.bool j) k p => decide (j = b)
  | _ => false
theorem mBl_inv (b : Bool) {e : Expr} (hh : mBl b e = true) : ∃ j k p, e = .Constant (.bool j) k p ∧ (decide (j = b)) = true := by
  unfold mBl at hh
  split at hh
  · exact ⟨_, _, _, rfl, hh⟩
  · cases hh
def mNon  (e : Expr) : Bool := match e with
  | .Constant .none k p => true
  | _ => false
theorem mNon_inv  {e : Expr} (hh : mNon  e = true) : ∃ k p, e = .Constant .none k p ∧ (true) = true := by
  unfold mNon at hh
  split at hh
  · exact ⟨_, _, rfl, hh⟩
  · cases hh
def mVar (C : MC) (i : Nat) (e : Expr) : Bool := match e with
  | .Name x p => slotB C i x && visB C.sc x && nmOk x
  | _ => false
theorem mVar_inv (C : MC) (i : Nat) {e : Expr} (hh : mVar C i e = true) : ∃ x p, e = .Name x p ∧ (slotB C i x && visB C.sc x && nmOk x) = true := by
  unfold mVar at hh
  split at hh
  · exact ⟨_, _, rfl, hh⟩
  · cases hh
def mGlo (C : MC) (y : Str) (e : Expr) : Bool := match e with
  | .Name x p => decide (x = y) && gloB C.sc x && nmOk x
  | _ => false
theorem mGlo_inv (C : MC) (y : Str) {e : Expr} (hh : mGlo C y e = true) : ∃ x p, e = .Name x p ∧ (decide (x = y) && gloB C.sc x && nmOk x) = true := by
  unfold mGlo at hh
  split at hh
  · exact ⟨_, _, rfl, hh⟩
  · cases hh
def mBin (op : Op) (f g : Expr → Bool) (e : Expr) : Bool := match e with
  | .BinOp l o r p => opB op o && f l && g r
  | _ => false
theorem mBin_inv (op : Op) (f g : Expr → Bool) {e : Expr} (hh : mBin op f g e = true) : ∃ l o r p, e = .BinOp l o r p ∧ (opB op o && f l && g r) = true := by
  unfold mBin at hh
  split at hh
  · exact ⟨_, _, _, _, rfl, hh⟩
  · cases hh
def mNeg (f : Expr → Bool) (e : Expr) : Bool := match e with
  | .UnaryOp .USub l p => f l
  | _ => false
theorem mNeg_inv (f : Expr → Bool) {e : Expr} (hh : mNeg f e = true) : ∃ l p, e = .UnaryOp .USub l p ∧ (f l) = true := by
  unfold mNeg at hh
  split at hh
  · exact ⟨_, _, rfl, hh⟩
  · cases hh
def mNot (f : Expr → Bool) (e : Expr) : Bool := match e with
  | .UnaryOp .Not l p => f l
  | _ => false
theorem mNot_inv (f : Expr → Bool) {e : Expr} (hh : mNot f e = true) : ∃ l p, e = .UnaryOp .Not l p ∧ (f l) = true := by
  unfold mNot at hh
  split at hh
  · exact ⟨_, _, rfl, hh⟩
  · cases hh
def mCmp (op : Cm) (f g : Expr → Bool) (e : Expr) : Bool := match e with
  | .Compare l [o] [r] p => cmI op o && notSet r && f l && g r
  | _ => false
theorem mCmp_inv (op : Cm) (f g : Expr → Bool) {e : Expr} (hh : mCmp op f g e = true) : ∃ l o r p, e = .Compare l [o] [r] p ∧ (cmI op o && notSet r && f l && g r) = true := by
  unfold mCmp at hh
  split at hh
  · exact ⟨_, _, _, _, rfl, hh⟩
  · cases hh
def mChn5 (o1 o2 o3 o4 : Cm) (f g h i j : Expr → Bool) (e : Expr) : Bool := match e with
  | .Compare l [q1, q2, q3, q4] [r1, r2, r3, r4] p => cmB o1 q1 && cmB o2 q2 && cmB o3 q3 && cmB o4 q4 && f l && g r1 && h r2 && i r3 && j r4
  | _ => false
theorem mChn5_inv (o1 o2 o3 o4 : Cm) (f g h i j : Expr → Bool) {e : Expr} (hh : mChn5 o1 o2 o3 o4 f g h i j e = true) : ∃ l q1 q2 q3 q4 r1 r2 r3 r4 p, e = .Compare l [q1, q2, q3, q4] [r1, r2, r3, r4] p ∧ (cmB o1 q1 && cmB o2 q2 && cmB o3 q3 && cmB o4 q4 && f l && g r1 && h r2 && i r3 && j r4) = true := by
  unfold mChn5 at hh
  split at hh
  · exact ⟨_, _, _, _, _, _, _, _, _, _, rfl, hh⟩
  · cases hh
def mNtB (b : Bool) (f : Expr → Bool) (e : Expr) : Bool := match e with
  | .Compare l [.IsNot] [.Constant (.bool j) k p2] p => decide (j = b) && f l
  | _ => false
theorem mNtB_inv (b : Bool) (f : Expr → Bool) {e : Expr} (hh : mNtB b f e = true) : ∃ l j k p2 p, e = .Compare l [.IsNot] [.Constant (.bool j) k p2] p ∧ (decide (j = b) && f l) = true := by
  unfold mNtB at hh
  split at hh
  · exact ⟨_, _, _, _, _, rfl, hh⟩
  · cases hh
def mDic  (e : Expr) : Bool := match e with
  | .Dict [] [] p => true
  | _ => false
theorem mDic_inv  {e : Expr} (hh : mDic  e = true) : ∃ p, e = .Dict [] [] p ∧ (true) = true := by
  unfold mDic at hh
  split at hh
  · exact ⟨_, rfl, hh⟩
  · cases hh
def mDin (n : Bool) (f g : Expr → Bool) (e : Expr) : Bool := match e with
  | .Compare l [o] [r] p => dinB n o && notSet r && f l && g r
  | _ => false
theorem mDin_inv (n : Bool) (f g : Expr → Bool) {e : Expr} (hh : mDin n f g e = true) : ∃ l o r p, e = .Compare l [o] [r] p ∧ (dinB n o && notSet r && f l && g r) = true := by
  unfold mDin at hh
  split at hh
  · exact ⟨_, _, _, _, rfl, hh⟩
  · cases hh
def mMet2 (n : Str) (f g h : Expr → Bool) (e : Expr) : Bool := match e with
  | .Call (.Attribute l m ap) [r, t] [] cp => decide (m = n) && notCall l && (ap.endLine == cp.line) && notSt r && notSt t && f l && g r && h t
  | _ => false
theorem mMet2_inv (n : Str) (f g h : Expr → Bool) {e : Expr} (hh : mMet2 n f g h e = true) : ∃ l m ap r t cp, e = .Call (.Attribute l m ap) [r, t] [] cp ∧ (decide (m = n) && notCall l && (ap.endLine == cp.line) && notSt r && notSt t && f l && g r && h t) = true := by
  unfold mMet2 at hh
  split at hh
  · exact ⟨_, _, _, _, _, _, rfl, hh⟩
  · cases hh
def mChn4 (o1 o2 o3 : Cm) (f g h i : Expr → Bool) (e : Expr) : Bool := match e with
  | .Compare l [q1, q2, q3] [r1, r2, r3] p => cmB o1 q1 && cmB o2 q2 && cmB o3 q3 && f l && g r1 && h r2 && i r3
  | _ => false
theorem mChn4_inv (o1 o2 o3 : Cm) (f g h i : Expr → Bool) {e : Expr} (hh : mChn4 o1 o2 o3 f g h i e = true) : ∃ l q1 q2 q3 r1 r2 r3 p, e = .Compare l [q1, q2, q3] [r1, r2, r3] p ∧ (cmB o1 q1 && cmB o2 q2 && cmB o3 q3 && f l && g r1 && h r2 && i r3) = true := by
  unfold mChn4 at hh
  split at hh
  · exact ⟨_, _, _, _, _, _, _, _, rfl, hh⟩
  · cases hh
def mChn (o1 o2 : Cm) (f g h : Expr → Bool) (e : Expr) : Bool := match e with
  | .Compare l [q1, q2] [r1, r2] p => cmB o1 q1 && cmB o2 q2 && f l && g r1 && h r2
  | _ => false
theorem mChn_inv (o1 o2 : Cm) (f g h : Expr → Bool) {e : Expr} (hh : mChn o1 o2 f g h e = true) : ∃ l q1 q2 r1 r2 p, e = .Compare l [q1, q2] [r1, r2] p ∧ (cmB o1 q1 && cmB o2 q2 && f l && g r1 && h r2) = true := by
  unfold mChn at hh
  split at hh
  · exact ⟨_, _, _, _, _, _, rfl, hh⟩
  · cases hh
def mIsN (f : Expr → Bool) (e : Expr) : Bool := match e with
  | .Compare l [.Is] [.Constant .none k p2] p => f l
  | _ => false
theorem mIsN_inv (f : Expr → Bool) {e : Expr} (hh : mIsN f e = true) : ∃ l k p2 p, e = .Compare l [.Is] [.Constant .none k p2] p ∧ (f l) = true := by
  unfold mIsN at hh
  split at hh
  · exact ⟨_, _, _, _, rfl, hh⟩
  · cases hh
def mNtN (f : Expr → Bool) (e : Expr) : Bool := match e with
  | .Compare l [.IsNot] [.Constant .none k p2] p => f l
  | _ => false
theorem mNtN_inv (f : Expr → Bool) {e : Expr} (hh : mNtN f e = true) : ∃ l k p2 p, e = .Compare l [.IsNot] [.Constant .none k p2] p ∧ (f l) = true := by
  unfold mNtN at hh
  split at hh
  · exact ⟨_, _, _, _, rfl, hh⟩
  · cases hh
def mIfe (f g h : Expr → Bool) (e : Expr) : Bool := match e with
  | .IfExp t l r p => f t && g l && h r
  | _ => false
theorem mIfe_inv (f g h : Expr → Bool) {e : Expr} (hh : mIfe f g h e = true) : ∃ t l r p, e = .IfExp t l r p ∧ (f t && g l && h r) = true := by
  unfold mIfe at hh
  split at hh
  · exact ⟨_, _, _, _, rfl, hh⟩
  · cases hh
def mTup (f : List Expr → Bool) (e : Expr) : Bool := match e with
  | .Tuple es k p => f es
  | _ => false
theorem mTup_inv (f : List Expr → Bool) {e : Expr} (hh : mTup f e = true) : ∃ es k p, e = .Tuple es k p ∧ (f es) = true := by
  unfold mTup at hh
  split at hh
  · exact ⟨_, _, _, rfl, hh⟩
  · cases hh
def mLst (f : List Expr → Bool) (e : Expr) : Bool := match e with
  | .List es p => f es
  | _ => false
theorem mLst_inv (f : List Expr → Bool) {e : Expr} (hh : mLst f e = true) : ∃ es p, e = .List es p ∧ (f es) = true := by
  unfold mLst at hh
  split at hh
  · exact ⟨_, _, rfl, hh⟩
  · cases hh
def mIdx (f g : Expr → Bool) (e : Expr) : Bool := match e with
  | .Subscript l s p => notSl s && f l && g s
  | _ => false
theorem mIdx_inv (f g : Expr → Bool) {e : Expr} (hh : mIdx f g e = true) : ∃ l s p, e = .Subscript l s p ∧ (notSl s && f l && g s) = true := by
  unfold mIdx at hh
  split at hh
  · exact ⟨_, _, _, rfl, hh⟩
  · cases hh
def mSlT (f g : Expr → Bool) (e : Expr) : Bool := match e with
  | .Subscript l (.Slice none (some r) none p2) p => f l && g r
  | _ => false
theorem mSlT_inv (f g : Expr → Bool) {e : Expr} (hh : mSlT f g e = true) : ∃ l r p2 p, e = .Subscript l (.Slice none (some r) none p2) p ∧ (f l && g r) = true := by
  unfold mSlT at hh
  split at hh
  · exact ⟨_, _, _, _, rfl, hh⟩
  · cases hh
def mSlF (f g : Expr → Bool) (e : Expr) : Bool := match e with
  | .Subscript l (.Slice (some r) none none p2) p => f l && g r
  | _ => false
theorem mSlF_inv (f g : Expr → Bool) {e : Expr} (hh : mSlF f g e = true) : ∃ l r p2 p, e = .Subscript l (.Slice (some r) none none p2) p ∧ (f l && g r) = true := by
  unfold mSlF at hh
  split at hh
  · exact ⟨_, _, _, _, rfl, hh⟩
  · cases hh
def mSlB (f g h : Expr → Bool) (e : Expr) : Bool := match e with
  | .Subscript l (.Slice (some r) (some t) none p2) p => f l && g r && h t
  | _ => false
theorem mSlB_inv (f g h : Expr → Bool) {e : Expr} (hh : mSlB f g h e = true) : ∃ l r t p2 p, e = .Subscript l (.Slice (some r) (some t) none p2) p ∧ (f l && g r && h t) = true := by
  unfold mSlB at hh
  split at hh
  · exact ⟨_, _, _, _, _, rfl, hh⟩
  · cases hh
def mRev (f : Expr → Bool) (e : Expr) : Bool := match e with
  | .Subscript l (.Slice none none (some (.UnaryOp .USub (.Constant (.int 1) k p1) p2)) p3) p => f l
  | _ => false
theorem mRev_inv (f : Expr → Bool) {e : Expr} (hh : mRev f e = true) : ∃ l k p1 p2 p3 p, e = .Subscript l (.Slice none none (some (.UnaryOp .USub (.Constant (.int 1) k p1) p2)) p3) p ∧ (f l) = true := by
  unfold mRev at hh
  split at hh
  · exact ⟨_, _, _, _, _, _, rfl, hh⟩
  · cases hh
def mCall (C : MC) (y : Str) (n : Nat) (f : List Expr → Bool) (e : Expr) : Bool := match e with
  | .Call (.Name x q) es [] p => decide (x = y) && gloB C.sc x && nmOk x && C.fs x n && f es
  | _ => false
theorem mCall_inv (C : MC) (y : Str) (n : Nat) (f : List Expr → Bool) {e : Expr} (hh : mCall C y n f e = true) : ∃ x q es p, e = .Call (.Name x q) es [] p ∧ (decide (x = y) && gloB C.sc x && nmOk x && C.fs x n && f es) = true := by
  unfold mCall at hh
  split at hh
  · exact ⟨_, _, _, _, rfl, hh⟩
  · cases hh
def mBi (C : MC) (y : Str) (f : List Expr → Bool) (e : Expr) : Bool := match e with
  | .Call (.Name x q) es [] p => decide (x = y) && gloB C.sc x && f es
  | _ => false
theorem mBi_inv (C : MC) (y : Str) (f : List Expr → Bool) {e : Expr} (hh : mBi C y f e = true) : ∃ x q es p, e = .Call (.Name x q) es [] p ∧ (decide (x = y) && gloB C.sc x && f es) = true := by
  unfold mBi at hh
  split at hh
  · exact ⟨_, _, _, _, rfl, hh⟩
  · cases hh
def mIsI (C : MC) (y : Str) (f : Expr → Bool) (e : Expr) : Bool := match e with
  | .Call (.Name x q) [l, .Name z q2] [] p => decide (x = ("isinstance" : Str)) && gloB C.sc x && decide (z = y) && gloB C.sc z && notSt l && f l
  | _ => false
theorem mIsI_inv (C : MC) (y : Str) (f : Expr → Bool) {e : Expr} (hh : mIsI C y f e = true) : ∃ x q l z q2 p, e = .Call (.Name x q) [l, .Name z q2] [] p ∧ (decide (x = ("isinstance" : Str)) && gloB C.sc x && decide (z = y) && gloB C.sc z && notSt l && f l) = true := by
  unfold mIsI at hh
  split at hh
  · exact ⟨_, _, _, _, _, _, rfl, hh⟩
  · cases hh
def mMet1 (n : Str) (f g : Expr → Bool) (e : Expr) : Bool := match e with
  | .Call (.Attribute l m ap) [r] [] cp => decide (m = n) && notCall l && (ap.endLine == cp.line) && notSt r && f l && g r
  | _ => false
theorem mMet1_inv (n : Str) (f g : Expr → Bool) {e : Expr} (hh : mMet1 n f g e = true) : ∃ l m ap r cp, e = .Call (.Attribute l m ap) [r] [] cp ∧ (decide (m = n) && notCall l && (ap.endLine == cp.line) && notSt r && f l && g r) = true := by
  unfold mMet1 at hh
  split at hh
  · exact ⟨_, _, _, _, _, rfl, hh⟩
  · cases hh
def mMet0 (n : Str) (f : Expr → Bool) (e : Expr) : Bool := match e with
  | .Call (.Attribute l m ap) [] [] cp => decide (m = n) && notCall l && (ap.endLine == cp.line) && f l
  | _ => false
theorem mMet0_inv (n : Str) (f : Expr → Bool) {e : Expr} (hh : mMet0 n f e = true) : ∃ l m ap cp, e = .Call (.Attribute l m ap) [] [] cp ∧ (decide (m = n) && notCall l && (ap.endLine == cp.line) && f l) = true := by
  unfold mMet0 at hh
  split at hh
  · exact ⟨_, _, _, _, rfl, hh⟩
  · cases hh
def mIsB (b : Bool) (f : Expr → Bool) (e : Expr) : Bool := match e with
  | .Compare l [.Is] [.Constant (.bool j) k p2] p => decide (j = b) && f l
  | _ => false
theorem mIsB_inv (b : Bool) (f : Expr → Bool) {e : Expr} (hh : mIsB b f e = true) : ∃ l j k p2 p, e = .Compare l [.Is] [.Constant (.bool j) k p2] p ∧ (decide (j = b) && f l) = true := by
  unfold mIsB at hh
  split at hh
  · exact ⟨_, _, _, _, _, rfl, hh⟩
  · cases hh
def mFld (C : MC) (y n : Str) (f : Expr → Bool) (e : Expr) : Bool := match e with
  | .Attribute l m p => decide (m = n) && C.fl y n && notCall l && f l
  | _ => false
theorem mFld_inv (C : MC) (y n : Str) (f : Expr → Bool) {e : Expr} (hh : mFld C y n f e = true) : ∃ l m p, e = .Attribute l m p ∧ (decide (m = n) && C.fl y n && notCall l && f l) = true := by
  unfold mFld at hh
  split at hh
  · exact ⟨_, _, _, rfl, hh⟩
  · cases hh
def mMth (C : MC) (y n key : Str) (c : Nat) (f : Expr → Bool) (g : List Expr → Bool) (e : Expr) : Bool := match e with
  | .Call (.Attribute (.Name x q) w ap) es [] cp => decide (w = n) && (ap.endLine == cp.line) && decide (es.length < 30) && C.ms y n key c && f (.Name x q) && g es
  | _ => false
theorem mMth_inv (C : MC) (y n key : Str) (c : Nat) (f : Expr → Bool) (g : List Expr → Bool) {e : Expr} (hh : mMth C y n key c f g e = true) : ∃ x q w ap es cp, e = .Call (.Attribute (.Name x q) w ap) es [] cp ∧ (decide (w = n) && (ap.endLine == cp.line) && decide (es.length < 30) && C.ms y n key c && f (.Name x q) && g es) = true := by
  unfold mMth at hh
  split at hh
  · exact ⟨_, _, _, _, _, _, rfl, hh⟩
  · cases hh
def mMk (C : MC) (y key : Str) (c : Nat) (g : List Expr → Bool) (e : Expr) : Bool := match e with
  | .Call (.Name x q) es [] p => decide (x = y) && gloB C.sc x && nmOk x && C.mks y key c && g es
  | _ => false
theorem mMk_inv (C : MC) (y key : Str) (c : Nat) (g : List Expr → Bool) {e : Expr} (hh : mMk C y key c g e = true) : ∃ x q es p, e = .Call (.Name x q) es [] p ∧ (decide (x = y) && gloB C.sc x && nmOk x && C.mks y key c && g es) = true := by
  unfold mMk at hh
  split at hh
  · exact ⟨_, _, _, _, rfl, hh⟩
  · cases hh
def mLc (C : MC) (own ts : List Nat) (nd : Bool) (it : Expr → Bool) (t el : MC → Expr → Bool) (e : Expr) : Bool := match e with
  | .ListComp x [⟨tg, i, [], 0⟩] sc p => cold C && notSet i && ts.all (fun i => own.contains i) && (!nd || isTupE tg) && blkC C.N C.sc sc (ownL C own) && it i && t (C.blk sc) tg && el (C.blk sc) x
  | _ => false
theorem mLc_inv (C : MC) (own ts : List Nat) (nd : Bool) (it : Expr → Bool) (t el : MC → Expr → Bool) {e : Expr} (hh : mLc C own ts nd it t el e = true) : ∃ x tg i sc p, e = .ListComp x [⟨tg, i, [], 0⟩] sc p ∧ (cold C && notSet i && ts.all (fun i => own.contains i) && (!nd || isTupE tg) && blkC C.N C.sc sc (ownL C own) && it i && t (C.blk sc) tg && el (C.blk sc) x) = true := by
  unfold mLc at hh
  split at hh
  · exact ⟨_, _, _, _, _, rfl, hh⟩
  · cases hh
def mLcI (C : MC) (own ts : List Nat) (nd : Bool) (it : Expr → Bool) (t c el : MC → Expr → Bool) (e : Expr) : Bool := match e with
  | .ListComp x [⟨tg, i, [f], 0⟩] sc p => cold C && notSet i && ts.all (fun i => own.contains i) && (!nd || isTupE tg) && blkC C.N C.sc sc (ownL C own) && it i && t (C.blk sc) tg && c (C.blk sc) f && el (C.blk sc) x
  | _ => false
theorem mLcI_inv (C : MC) (own ts : List Nat) (nd : Bool) (it : Expr → Bool) (t c el : MC → Expr → Bool) {e : Expr} (hh : mLcI C own ts nd it t c el e = true) : ∃ x tg i f sc p, e = .ListComp x [⟨tg, i, [f], 0⟩] sc p ∧ (cold C && notSet i && ts.all (fun i => own.contains i) && (!nd || isTupE tg) && blkC C.N C.sc sc (ownL C own) && it i && t (C.blk sc) tg && c (C.blk sc) f && el (C.blk sc) x) = true := by
  unfold mLcI at hh
  split at hh
  · exact ⟨_, _, _, _, _, _, rfl, hh⟩
  · cases hh
def mCl1 (C : MC) (y : Str) (f : Expr → Bool) (e : Expr) : Bool := match e with
  | .Call (.Name x q) [l] [] p => decide (x = y) && gloB C.sc x && notSt l && f l
  | _ => false
theorem mCl1_inv (C : MC) (y : Str) (f : Expr → Bool) {e : Expr} (hh : mCl1 C y f e = true) : ∃ x q l p, e = .Call (.Name x q) [l] [] p ∧ (decide (x = y) && gloB C.sc x && notSt l && f l) = true := by
  unfold mCl1 at hh
  split at hh
  · exact ⟨_, _, _, _, rfl, hh⟩
  · cases hh
def mXis (C : MC) (i : Nat) (y : Str) (e : Expr) : Bool := match e with
  | .Call (.Name x q) [.Name n q1, .Name z q2] [] p => decide (x = ("isinstance" : Str)) && gloB C.sc x && decide (z = y) && gloB C.sc z && nmOk z && hsIs C i && slotB C i n && visB C.sc n && nmOk n
  | _ => false
theorem mXis_inv (C : MC) (i : Nat) (y : Str) {e : Expr} (hh : mXis C i y e = true) : ∃ x q n q1 z q2 p, e = .Call (.Name x q) [.Name n q1, .Name z q2] [] p ∧ (decide (x = ("isinstance" : Str)) && gloB C.sc x && decide (z = y) && gloB C.sc z && nmOk z && hsIs C i && slotB C i n && visB C.sc n && nmOk n) = true := by
  unfold mXis at hh
  split at hh
  · exact ⟨_, _, _, _, _, _, _, rfl, hh⟩
  · cases hh
def mXcl (C : MC) (i : Nat) (y : Str) (e : Expr) : Bool := match e with
  | .Call (.Name x q) [.Name n q1] [] p => decide (x = y) && gloB C.sc x && nmOk x && C.xq y && hsIs C i && slotB C i n && visB C.sc n && nmOk n
  | _ => false
theorem mXcl_inv (C : MC) (i : Nat) (y : Str) {e : Expr} (hh : mXcl C i y e = true) : ∃ x q n q1 p, e = .Call (.Name x q) [.Name n q1] [] p ∧ (decide (x = y) && gloB C.sc x && nmOk x && C.xq y && hsIs C i && slotB C i n && visB C.sc n && nmOk n) = true := by
  unfold mXcl at hh
  split at hh
  · exact ⟨_, _, _, _, _, rfl, hh⟩
  · cases hh
def mXat (C : MC) (i : Nat) (e : Expr) : Bool := match e with
  | .Attribute (.Name n q) m p => decide (m = ("at" : Str)) && hsIs C i && slotB C i n && visB C.sc n && nmOk n
  | _ => false
theorem mXat_inv (C : MC) (i : Nat) {e : Expr} (hh : mXat C i e = true) : ∃ n q m p, e = .Attribute (.Name n q) m p ∧ (decide (m = ("at" : Str)) && hsIs C i && slotB C i n && visB C.sc n && nmOk n) = true := by
  unfold mXat at hh
  split at hh
  · exact ⟨_, _, _, _, rfl, hh⟩
  · cases hh
def mCl2 (C : MC) (y : Str) (f g : Expr → Bool) (e : Expr) : Bool := match e with
  | .Call (.Name x q) [l, r] [] p => decide (x = y) && gloB C.sc x && notSt l && notSt r && f l && g r
  | _ => false
theorem mCl2_inv (C : MC) (y : Str) (f g : Expr → Bool) {e : Expr} (hh : mCl2 C y f g e = true) : ∃ x q l r p, e = .Call (.Name x q) [l, r] [] p ∧ (decide (x = y) && gloB C.sc x && notSt l && notSt r && f l && g r) = true := by
  unfold mCl2 at hh
  split at hh
  · exact ⟨_, _, _, _, _, rfl, hh⟩
  · cases hh
def mBool (op : BoolOp) (f g : Expr → Bool) (e : Expr) : Bool := match e with
  | .BoolOp o (l :: r :: rest) p => decide (o = op) && f l && (match rest with
    | [] => g r
    | _ :: _ => g (.BoolOp op (r :: rest) p))
  | _ => false
theorem mBool_inv (op : BoolOp) (f g : Expr → Bool) {e : Expr} (h : mBool op f g e = true) : ∃ l r rest p, e = .BoolOp op (l :: r :: rest) p ∧ f l = true ∧ ((rest = [] ∧ g r = true) ∨ (rest ≠ [] ∧ g (.BoolOp op (r :: rest) p) = true)) := by
  unfold mBool at h
  split at h
  · rename_i o l r rest p
    rw [Bool.and_eq_true, Bool.and_eq_true] at h
    obtain ⟨⟨h0, h1⟩, h2⟩ := h
    have h0 := of_decide_eq_true h0
    subst h0
    refine ⟨l, r, rest, p, rfl, h1, ?_⟩
    split at h2
    · exact .inl ⟨rfl, h2⟩
    · exact .inr ⟨by simp, h2⟩
  · cases h
def flatE : List (Option Expr) → List Expr → Option (List Expr)
  | [], [] => some []
  | some k :: ks, v :: vs => (flatE ks vs).map fun r => k :: v :: r
  | _, _ => none
def mDsp (f : List Expr → Bool) (e : Expr) : Bool := match e with
  | .Dict ks vs _ => match flatE ks vs with
    | some xs => decide (ks.length ≤ 15) && f xs
    | none => false
  | _ => false
theorem mDsp_inv (f : List Expr → Bool) {e : Expr} (hh : mDsp f e = true) : ∃ ks vs p xs, e = .Dict ks vs p ∧ flatE ks vs = some xs ∧ ks.length ≤ 15 ∧ f xs = true := by
  unfold mDsp at hh
  split at hh
  · split at hh
    · rename_i h
      exact ⟨_, _, _, _, rfl, h, of_decide_eq_true (Bool.and_eq_true_iff.mp hh).1, (Bool.and_eq_true_iff.mp hh).2⟩
    · cases hh
  · cases hh
mutual
def mE : Ex → MC → Expr → Bool
  | .int i, _ => mInt i
  | .str s, _ => mStr s
  | .bl b, _ => mBl b
  | .non, _ => mNon
  | .var i, C => mVar C i
  | .glo x, C => mGlo C x
  | .bin op a b, C => mBin op (mE a C) (mE b C)
  | .neg a, C => mNeg (mE a C)
  | .not a, C => mNot (mE a C)
  | .and a b, C => mBool .And (mE a C) (mE b C)
  | .or a b, C => mBool .Or (mE a C) (mE b C)
  | .cmp op a b, C => mCmp op (mE a C) (mE b C)
  | .chn o1 o2 a b c, C => mChn o1 o2 (mE a C) (mE b C) (mE c C)
  | .isN a, C => mIsN (mE a C)
  | .ntN a, C => mNtN (mE a C)
  | .ife c a b, C => mIfe (fun t => tOk c && mE c C t) (mE a C) (mE b C)
  | .tup es, C => mTup fun xs => decide (es.length ≤ lim) && mEs es C xs
  | .lst es, C => mLst fun xs => decide (es.length ≤ lim) && mEs es C xs
  | .idx a i, C => mIdx (mE a C) (mE i C)
  | .slT a b, C => mSlT (mE a C) (mE b C)
  | .slF a b, C => mSlF (mE a C) (mE b C)
  | .slB a b c, C => mSlB (mE a C) (mE b C) (mE c C)
  | .rev a, C => mRev (mE a C)
  | .call f es, C => mCall C f es.length (mEs es C)
  | .bi b es, C => mBi C (biN b) fun xs => biOk C b && (decide (es.length ≠ 0) && mEs es C xs)
  | .xis i y, C => mXis C i y
  | .xat i, C => mXat C i
  | .xcl i f, C => mXcl C i f
  | .dsp es, C => mDsp fun xs => decide (es.length ≠ 0) && mEs es C xs
  | .isI a t, C => mIsI C (tyN t) (mE a C)
  | .app o a, C => mMet1 "append" (mE o C) (mE a C)
  | .ext o a, C => mMet1 "extend" (mE o C) (mE a C)
  | .clr o, C => mMet0 "clear" (mE o C)
  | .isB a b, C => mIsB b (mE a C)
  | .chn4 o1 o2 o3 a b c d, C => mChn4 o1 o2 o3 (mE a C) (mE b C) (mE c C) (mE d C)
  | .fld a y f, C => mFld C y f (mE a C)
  | .any, _ => anyE
  | .chn5 o1 o2 o3 o4 a b c d f, C => mChn5 o1 o2 o3 o4 (mE a C) (mE b C) (mE c C) (mE d C) (mE f C)
  | .ntB a b, C => mNtB b (mE a C)
  | .dic _, _ => mDic
  | .dgt o k, C => mIdx (mE o C) (mE k C)
  | .din n k o, C => mDin n (mE k C) (mE o C)
  | .get1 o k, C => mMet1 "get" (mE o C) (mE k C)
  | .get2 o k d, C => mMet2 "get" (mE o C) (mE k C) (mE d C)
  | .dpop o k, C => mMet1 "pop" (mE o C) (mE k C)
  | .ixo o a, C => mMet1 "index" (mE o C) (mE a C)
  | .ins o i a, C => mMet2 "insert" (mE o C) (mE i C) (mE a C)
  | .pop0 o, C => mMet0 "pop" (mE o C)
  | .pop1 o i, C => mMet1 "pop" (mE o C) (mE i C)
  | .mth o y f key es, C => mMth C y f key es.length (mE o C) (mEs es C)
  | .mk y key es, C => mMk C y key es.length (mEs es C)
  | .lc own t it el, C => mLc C own (tsl t) (itT it) (mI it C) (fun C => mT C t) (mE el)
  | .lcI own t it c el, C => mLcI C own (tsl t) (itT it) (mI it C) (fun C => mT C t) (fun C f => tOk c && mE c C f) (mE el)
def mEs : List Ex → MC → List Expr → Bool
  | [], _, es => es.isEmpty
  | x :: xs, C, es => match es with
    | e :: r => notSt e && mE x C e && mEs xs C r
    | [] => false
def mI : It → MC → Expr → Bool
  | .seq a, C => mE a C
  | .rng a, C => mCl1 C "range" (mE a C)
  | .rng2 a b, C => mCl2 C "range" (mE a C) (mE b C)
  | .enm a, C => mCl1 C "enumerate" (mE a C)
  | .zip a b, C => mCl2 C "zip" (mE a C) (mE b C)
  | .rvd a, C => mCl1 C "reversed" (mE a C)
end
def notLc : Expr → Bool
  | .ListComp _ _ _ _ => false
  | _ => true
/-- the stores of a written tuple are not exchanged -/
def noSwap (ts vs : List Expr) : Bool := vs.all (foldedForSure 8) && ts.all fun
  | .Name _ _ => true
  | _ => false
def noSwapE (C : MC) (v tg : Expr) : Bool := match v, tg with
  | .Tuple vs _ _, .Tuple ts _ _ => noSwap ts vs || ts.any fun
    | .Name x _ => celB C.sc x
    | _ => false
  | _, _ => true
def swapOk (C : MC) (x y : Str) (px py : Pos) (a b : Expr) : Bool := locB C.sc x && locB C.sc y && (py.line == px.line) && !(x == y) && !([a, b].all (foldedForSure 8)) && !([a, b].all (constantsAlone 8))
def swapOk3 (C : MC) (x y z : Str) (px py pz : Pos) (a b c : Expr) : Bool := locB C.sc x && locB C.sc y && locB C.sc z && (py.line == px.line) && (pz.line == px.line) && !(x == y) && !(x == z) && !(y == z) && !([a, b, c].all (foldedForSure 8)) && !([a, b, c].all (constantsAlone 8))
def qAsg (C : MC) (t : Tg) (f : Expr → Bool) (e : Stmt) : Bool := match e with
  | .Assign [tg] v p => mT C t tg && f v && noSwapE C v tg
  | _ => false
theorem qAsg_inv (C : MC) (t : Tg) (f : Expr → Bool) {e : Stmt} (hh : qAsg C t f e = true) : ∃ tg v p, e = .Assign [tg] v p ∧ (mT C t tg && f v && noSwapE C v tg) = true := by
  unfold qAsg at hh
  split at hh
  · exact ⟨_, _, _, rfl, hh⟩
  · cases hh
def qPar (C : MC) (i j : Nat) (f g : Expr → Bool) (e : Stmt) : Bool := match e with
  | .Assign [.Tuple [.Name x px, .Name y py] kt pt] (.Tuple [l, r] k2 pt2) p => cold C && slotB C i x && slotB C j y && decide (i ≠ j) && swapOk C x y px py l r && notSt l && notSt r && f l && g r
  | _ => false
theorem qPar_inv (C : MC) (i j : Nat) (f g : Expr → Bool) {e : Stmt} (hh : qPar C i j f g e = true) : ∃ x px y py kt pt l r k2 pt2 p, e = .Assign [.Tuple [.Name x px, .Name y py] kt pt] (.Tuple [l, r] k2 pt2) p ∧ (cold C && slotB C i x && slotB C j y && decide (i ≠ j) && swapOk C x y px py l r && notSt l && notSt r && f l && g r) = true := by
  unfold qPar at hh
  split at hh
  · exact ⟨_, _, _, _, _, _, _, _, _, _, _, rfl, hh⟩
  · cases hh
def qPa3 (C : MC) (i j k : Nat) (f g h : Expr → Bool) (e : Stmt) : Bool := match e with
  | .Assign [.Tuple [.Name x px, .Name y py, .Name z pz] kt pt] (.Tuple [l, r, m] k2 pt2) p => cold C && slotB C i x && slotB C j y && slotB C k z && decide (i ≠ j) && decide (i ≠ k) && decide (j ≠ k) && swapOk3 C x y z px py pz l r m && notSt l && notSt r && notSt m && f l && g r && h m
  | _ => false
theorem qPa3_inv (C : MC) (i j k : Nat) (f g h : Expr → Bool) {e : Stmt} (hh : qPa3 C i j k f g h e = true) : ∃ x px y py z pz kt pt l r m k2 pt2 p, e = .Assign [.Tuple [.Name x px, .Name y py, .Name z pz] kt pt] (.Tuple [l, r, m] k2 pt2) p ∧ (cold C && slotB C i x && slotB C j y && slotB C k z && decide (i ≠ j) && decide (i ≠ k) && decide (j ≠ k) && swapOk3 C x y z px py pz l r m && notSt l && notSt r && notSt m && f l && g r && h m) = true := by
  unfold qPa3 at hh
  split at hh
  · exact ⟨_, _, _, _, _, _, _, _, _, _, _, _, _, _, rfl, hh⟩
  · cases hh
def qSub (f g h : Expr → Bool) (e : Stmt) : Bool := match e with
  | .Assign [.Subscript l k p2] v p => notSl k && f l && g k && h v
  | _ => false
theorem qSub_inv (f g h : Expr → Bool) {e : Stmt} (hh : qSub f g h e = true) : ∃ l k p2 v p, e = .Assign [.Subscript l k p2] v p ∧ (notSl k && f l && g k && h v) = true := by
  unfold qSub at hh
  split at hh
  · exact ⟨_, _, _, _, _, rfl, hh⟩
  · cases hh
def qExp (f : Expr → Bool) (e : Stmt) : Bool := match e with
  | .Expr v p => notLc v && f v
  | _ => false
theorem qExp_inv (f : Expr → Bool) {e : Stmt} (hh : qExp f e = true) : ∃ v p, e = .Expr v p ∧ (notLc v && f v) = true := by
  unfold qExp at hh
  split at hh
  · exact ⟨_, _, rfl, hh⟩
  · cases hh
def qIte (f : Expr → Bool) (g h : List Stmt → Bool) (e : Stmt) : Bool := match e with
  | .If t l r p => f t && g l && h r
  | _ => false
theorem qIte_inv (f : Expr → Bool) (g h : List Stmt → Bool) {e : Stmt} (hh : qIte f g h e = true) : ∃ t l r p, e = .If t l r p ∧ (f t && g l && h r) = true := by
  unfold qIte at hh
  split at hh
  · exact ⟨_, _, _, _, rfl, hh⟩
  · cases hh
def qFor (C : MC) (t : Tg) (nd : Bool) (f : Expr → Bool) (g : List Stmt → Bool) (e : Stmt) : Bool := match e with
  | .For tg i l [] p => cold C && notSet i && (!nd || isTupE tg) && mT C t tg && f i && g l
  | _ => false
theorem qFor_inv (C : MC) (t : Tg) (nd : Bool) (f : Expr → Bool) (g : List Stmt → Bool) {e : Stmt} (hh : qFor C t nd f g e = true) : ∃ tg i l p, e = .For tg i l [] p ∧ (cold C && notSet i && (!nd || isTupE tg) && mT C t tg && f i && g l) = true := by
  unfold qFor at hh
  split at hh
  · exact ⟨_, _, _, _, rfl, hh⟩
  · cases hh
def qWhl (C : MC) (f : Expr → Bool) (g : List Stmt → Bool) (e : Stmt) : Bool := match e with
  | .While t l [] p => cold C && f t && g l
  | _ => false
theorem qWhl_inv (C : MC) (f : Expr → Bool) (g : List Stmt → Bool) {e : Stmt} (hh : qWhl C f g e = true) : ∃ t l p, e = .While t l [] p ∧ (cold C && f t && g l) = true := by
  unfold qWhl at hh
  split at hh
  · exact ⟨_, _, _, rfl, hh⟩
  · cases hh
def qRet (f : Expr → Bool) (e : Stmt) : Bool := match e with
  | .Return (some v) p => f v
  | _ => false
theorem qRet_inv (f : Expr → Bool) {e : Stmt} (hh : qRet f e = true) : ∃ v p, e = .Return (some v) p ∧ (f v) = true := by
  unfold qRet at hh
  split at hh
  · exact ⟨_, _, rfl, hh⟩
  · cases hh
def qRetN  (e : Stmt) : Bool := match e with
  | .Return none p => true
  | _ => false
theorem qRetN_inv  {e : Stmt} (hh : qRetN  e = true) : ∃ p, e = .Return none p ∧ (true) = true := by
  unfold qRetN at hh
  split at hh
  · exact ⟨_, rfl, hh⟩
  · cases hh
def qBrk  (e : Stmt) : Bool := match e with
  | .Break p => true
  | _ => false
theorem qBrk_inv  {e : Stmt} (hh : qBrk  e = true) : ∃ p, e = .Break p ∧ (true) = true := by
  unfold qBrk at hh
  split at hh
  · exact ⟨_, rfl, hh⟩
  · cases hh
def qPass  (e : Stmt) : Bool := match e with
  | .Pass p => true
  | _ => false
theorem qPass_inv  {e : Stmt} (hh : qPass  e = true) : ∃ p, e = .Pass p ∧ (true) = true := by
  unfold qPass at hh
  split at hh
  · exact ⟨_, rfl, hh⟩
  · cases hh
def qStf (C : MC) (y n : Str) (f g : Expr → Bool) (e : Stmt) : Bool := match e with
  | .Assign [.Attribute l m p2] v p => decide (m = n) && C.fl y n && f l && g v
  | _ => false
theorem qStf_inv (C : MC) (y n : Str) (f g : Expr → Bool) {e : Stmt} (hh : qStf C y n f g e = true) : ∃ l m p2 v p, e = .Assign [.Attribute l m p2] v p ∧ (decide (m = n) && C.fl y n && f l && g v) = true := by
  unfold qStf at hh
  split at hh
  · exact ⟨_, _, _, _, _, rfl, hh⟩
  · cases hh
def qRai (C : MC) (y : Str) (e : Stmt) : Bool := match e with
  | .Raise (some (.Call (.Name x q) [.Constant (.str m) j p2] [] p3)) none p => decide (x = y) && gloB C.sc x && nmOk x && C.xs x
  | _ => false
theorem qRai_inv (C : MC) (y : Str) {e : Stmt} (hh : qRai C y e = true) : ∃ x q m j p2 p3 p, e = .Raise (some (.Call (.Name x q) [.Constant (.str m) j p2] [] p3)) none p ∧ (decide (x = y) && gloB C.sc x && nmOk x && C.xs x) = true := by
  unfold qRai at hh
  split at hh
  · exact ⟨_, _, _, _, _, _, _, rfl, hh⟩
  · cases hh
def qRaA (C : MC) (y : Str) (f : Expr → Bool) (e : Stmt) : Bool := match e with
  | .Raise (some (.Call (.Name x q) [a] [] p3)) none p => decide (x = y) && gloB C.sc x && nmOk x && C.xo x && notSt a && f a
  | _ => false
theorem qRaA_inv (C : MC) (y : Str) (f : Expr → Bool) {e : Stmt} (hh : qRaA C y f e = true) : ∃ x q a p3 p, e = .Raise (some (.Call (.Name x q) [a] [] p3)) none p ∧ (decide (x = y) && gloB C.sc x && nmOk x && C.xo x && notSt a && f a) = true := by
  unfold qRaA at hh
  split at hh
  · exact ⟨_, _, _, _, _, rfl, hh⟩
  · cases hh
def qTrA (C : MC) (y : Str) (i : Nat) (g h : List Stmt → Bool) (e : Stmt) : Bool := match e with
  | .Try b [.ExceptHandler (some (.Name x np)) (some n) (b0 :: su) p2] [] [] p => C.top && decide (x = y) && gloB C.sc x && nmOk x && (C.xs x || C.xo x) && slotB C i n && locB C.sc n && g b && h (b0 :: su)
  | _ => false
theorem qTrA_inv (C : MC) (y : Str) (i : Nat) (g h : List Stmt → Bool) {e : Stmt} (hh : qTrA C y i g h e = true) : ∃ b x np n b0 su p2 p, e = .Try b [.ExceptHandler (some (.Name x np)) (some n) (b0 :: su) p2] [] [] p ∧ (C.top && decide (x = y) && gloB C.sc x && nmOk x && (C.xs x || C.xo x) && slotB C i n && locB C.sc n && g b && h (b0 :: su)) = true := by
  unfold qTrA at hh
  split at hh
  · exact ⟨_, _, _, _, _, _, _, _, rfl, hh⟩
  · cases hh
def qTr2 (C : MC) (y : Str) (i : Nat) (y2 : Str) (i2 : Nat) (g h h2 : List Stmt → Bool) (e : Stmt) : Bool := match e with
  | .Try b [.ExceptHandler (some (.Name x np)) (some n) (b0 :: su) p2, .ExceptHandler (some (.Name x2 np2)) (some n2) (b02 :: su2) p3] [] [] p => C.top && decide (x = y) && gloB C.sc x && nmOk x && (C.xs x || C.xo x) && slotB C i n && locB C.sc n && decide (x2 = y2) && gloB C.sc x2 && nmOk x2 && (C.xs x2 || C.xo x2) && slotB C i2 n2 && locB C.sc n2 && g b && h (b0 :: su) && h2 (b02 :: su2)
  | _ => false
theorem qTr2_inv (C : MC) (y : Str) (i : Nat) (y2 : Str) (i2 : Nat) (g h h2 : List Stmt → Bool) {e : Stmt} (hh : qTr2 C y i y2 i2 g h h2 e = true) : ∃ b x np n b0 su p2 x2 np2 n2 b02 su2 p3 p, e = .Try b [.ExceptHandler (some (.Name x np)) (some n) (b0 :: su) p2, .ExceptHandler (some (.Name x2 np2)) (some n2) (b02 :: su2) p3] [] [] p ∧ (C.top && decide (x = y) && gloB C.sc x && nmOk x && (C.xs x || C.xo x) && slotB C i n && locB C.sc n && decide (x2 = y2) && gloB C.sc x2 && nmOk x2 && (C.xs x2 || C.xo x2) && slotB C i2 n2 && locB C.sc n2 && g b && h (b0 :: su) && h2 (b02 :: su2)) = true := by
  unfold qTr2 at hh
  split at hh
  · exact ⟨_, _, _, _, _, _, _, _, _, _, _, _, _, _, rfl, hh⟩
  · cases hh
def qTry (C : MC) (y : Str) (g : List Stmt → Bool) (f : Expr → Bool) (e : Stmt) : Bool := match e with
  | .Try b [.ExceptHandler (some (.Name x np)) none [.Return (some v) rp] p2] [] [] p => C.top && decide (x = y) && gloB C.sc x && nmOk x && C.xs x && g b && f v
  | _ => false
theorem qTry_inv (C : MC) (y : Str) (g : List Stmt → Bool) (f : Expr → Bool) {e : Stmt} (hh : qTry C y g f e = true) : ∃ b x np v rp p2 p, e = .Try b [.ExceptHandler (some (.Name x np)) none [.Return (some v) rp] p2] [] [] p ∧ (C.top && decide (x = y) && gloB C.sc x && nmOk x && C.xs x && g b && f v) = true := by
  unfold qTry at hh
  split at hh
  · exact ⟨_, _, _, _, _, _, _, rfl, hh⟩
  · cases hh
mutual
/-- a constant, or a display of such -/
def kE : Ex → Expr → Bool
  | .int i => mInt i
  | .str s => mStr s
  | .bl b => mBl b
  | .non => mNon
  | .tup es => mTup fun xs => decide (es.length ≤ lim) && kEs es xs
  | .lst es => mLst fun xs => decide (es.length ≤ lim) && kEs es xs
  | _ => fun _ => false
def kEs : List Ex → List Expr → Bool
  | [], es => es.isEmpty
  | x :: xs, es => match es with
    | e :: r => notSt e && kE x e && kEs xs r
    | [] => false
end
mutual
def mS : St → MC → Stmt → Bool
  | .asg t x, C => qAsg C t (mE x C)
  | .par i j a b, C => qPar C i j (mE a C) (mE b C)
  | .sub o i x, C => qSub (mE o C) (mE i C) (mE x C)
  | .exp x, C => qExp (mE x C)
  | .ite c a b, C => qIte (fun t => tOk c && mE c C t) (mB a C) (mB b C)
  | .forS t it b, C => qFor C t (itT it) (mI it C) (mB b C)
  | .whl c b, C => qWhl C (fun t => tOk c && mE c C t) (mB b C)
  | .ret x, C => qRet (mE x C)
  | .retN, _ => qRetN
  | .brk, _ => qBrk
  | .pass, _ => qPass
  | .stf o y f x, C => qStf C y f (mE o C) (mE x C)
  | .any, _ => fun _ => true
  | .dst o k x, C => qSub (mE o C) (mE k C) (mE x C)
  | .rai y, C => qRai C y
  | .tryC b y a, C => qTry C y (mB b C) (kE a)
  | .raiA y a, C => qRaA C y (mE a C)
  | .tryA b y i su, C => qTrA C y i (mB b C) (mB su (C.suite i))
  | .par3 i j l a b c, C => qPa3 C i j l (mE a C) (mE b C) (mE c C)
  | .try2 b y i su y2 i2 su2, C => qTr2 C y i y2 i2 (mB b C) (mB su (C.suite i)) (mB su2 (C.suite i2))
def mB : List St → MC → List Stmt → Bool
  | [], _, ss => ss.isEmpty
  | x :: xs, C, ss => match ss with
    | s :: r => mS x C s && mB xs C r
    | [] => false
end
end Lt
set_option maxRecDepth 100000
set_option maxHeartbeats 2000000
namespace Lt
open PySem PySem.Spec PyProof.Rows L2 L2H
structure FnE (P : Program) (w : World) (K : PySem.W.Frag) (mg : Str → Option Value) (base : Heap) (CX : CXT) (k : Nat) (f : Addr) (fd : FuncData) (ps : List Str) (sp : Addr × Obj → Sp) : Prop where
  len : ∀ p vs H Q E, sp p vs H Q E → vs.length = ps.length
  run : ∀ (A : Around) (outer : List PySem.Env) (s : Shared) (H : Hp) (args : Args) (us : List Value) (vs : List V) (Q : VK) (E : XK) (p : Addr × Obj), RoomH k A → A.handled = some (.ref p.1) → (∃ vs, p.2.data = .fields vs) → PinOk outer H s p → Env0 P w K mg base A outer s H → BindsTo s fd args (ps.zip us) → Vals vs us → sp p vs H Q E →
    codeAny (model P w) A (.call (.ref f) args) (CR CX outer P w H s Q E) s
theorem inv_hot {X : Cx} {pins : List (Addr × Obj)} {σ : L2.St} {H : Hp} {s : Shared} (I : Inv X pins σ H s) (a : Addr) : Inv (X.suite a X.pn) pins σ H s := ⟨I.ok.suite _ _, I.os, I.bare, I.base, I.loc, I.cell, I.free, I.freeC, I.pin, I.hok, I.len⟩
theorem mark_same {A : Around} {a : Addr} (h : A.handled = some (.ref a)) : A.mark (some (.ref a)) = A := by
  cases A
  simp only [Around.mark, Option.some_or] at *
  rw [h]
theorem fn_ofE {CX : CXT} {P : Program} {w : World} {K : PySem.W.Frag} {mg : Str → Option Value} {base : Heap} {k : Nat} {f : Addr} {name qual : Str} {params : Arguments} {body : List Stmt} {scope : Scope} {dV kV doc pm cdv ct oc : Value} {an od : Option Addr}
    {osl : Array (Option Value)} {N ps : List Str} {sp : Addr × Obj → Sp} (lk : K.lookup f = some ⟨oc, od, .func (PySem.W.fnOf name qual params body scope dV kV doc pm an cdv ct), osl⟩) (hcd : PySem.W.codeIn K cdv qual = true) (S : FnScope N ps scope)
    (len : ∀ p vs H Q E, sp p vs H Q E → vs.length = ps.length)
    (hbody : ∀ (A : Around) (outer : List PySem.Env) (s : Shared) (H : Hp) (vs : List V) (Q : VK) (E : XK) (p : Addr × Obj), (∃ vs, p.2.data = .fields vs) → RoomH k (A.deeper (envOfC qual scope s.heap.objs.size f cdv)) → sp p vs H Q E →
      ∃ t, PSs ((cxOf CX P w K mg base N qual scope f cdv A outer s H E).suite p.1 [p]) body t ∧ t { nx := fun _ H' => Q .non H', rt := Q } (L2.start N vs) H) :
    FnE P w K mg base CX (k + 1) f (PySem.W.fnOf name qual params body scope dV kV doc pm an cdv ct) ps sp := by
  refine ⟨len, fun A outer s H args us vs Q E p hr hot hf hpin e0 hb r hsp => ?_⟩
  have hl := len _ _ _ _ _ hsp
  have KX : K.In s.heap := e0.mod.kin.keeps fun b o e => (e0.bs b o e).1
  have lim : s.heap.NoLimit := e0.mod.nolimit.keeps fun b o e => (e0.bs b o e).1
  have hkind : ∀ y ∈ ps.zip us, scope.names.lookup y.1 = some .local ∨ (scope.names.lookup y.1 = some .cell ∧ ((cellsFrom (s.heap.objs.size + 1) scope.names []).lookup y.1).isSome = true) := fun ⟨n, v⟩ hy => by
    rcases S.par n (List.of_mem_zip hy).1 with q | q
    · exact .inl q
    · exact .inr ⟨q, PySem.W.cellsFrom_some _ _ _ (.inl q)⟩
  refine codeAny_call_function hr.depth (KX _ _ lk) rfl S.co S.gen rfl (PySem.W.codeRec_of KX hcd) (hb _ _ _ _ ?_)
  refine wpAny_newFunctionEnv_cells S.kind hkind fun env he s1 x => ?_
  subst he
  refine ⟨lim.keeps x.toInCall.keep, codeAny_func ?_⟩
  obtain ⟨t, ht, hq⟩ := hbody A outer s H vs Q E p hf (hr.deeper _) hsp
  have I0 : Inv (cxH CX P w K mg base N qual scope f cdv A outer s H E p) [] (L2.start N vs) H s1 := inv_startH S hpin e0 hl r x
  have I : Inv ((cxOf CX P w K mg base N qual scope f cdv A outer s H E).suite p.1 [p]) [] (L2.start N vs) H s1 := inv_hot I0 p.1
  have eA : (A.deeper (envOfC qual scope s.heap.objs.size f cdv)).mark (some (.ref p.1)) = A.deeper (envOfC qual scope s.heap.objs.size f cdv) := mark_same hot
  have run := ht.run [] s1 (L2.start N vs) H _ I hq
  dsimp only [Cx.suite] at run
  have eA2 : (cxOf CX P w K mg base N qual scope f cdv A outer s H E).A.mark (some (.ref p.1)) = A.deeper (envOfC qual scope s.heap.objs.size f cdv) := eA
  rw [eA2] at run
  refine wpAny_mono run (fun fl s' hs => ?_) fun e s' hs => hs.elim
  cases fl with
  | ret u =>
    obtain ⟨v, σ', H', J, rv, q⟩ := hs
    exact ⟨v, H', J.os, J.bare, J.base, J.hok, rv, q⟩
  | next =>
    obtain ⟨σ', H', J, q⟩ := hs
    exact ⟨V.non, H', J.os, J.bare, J.base, J.hok, rfl, q⟩
  | brk =>
    obtain ⟨_, _, _, q⟩ := hs
    exact False.elim q
  | cont =>
    obtain ⟨_, _, _, q⟩ := hs
    exact False.elim q
section
variable {X : Cx} {CX : CXT} {k : Nat} {f : Addr} {fd : FuncData} {ps : List Str} {sp : Addr × Obj → Sp} {E : L2.St → XK} {x : Str} {q pos : Pos} {e : Expr} {es : List Expr} {t : TA} {p : Addr × Obj}
theorem run_fnE {pins : List (Addr × Obj)} {σ : L2.St} {H : Hp} {s : Shared} {Q : VK} {us : List Value} {vs : List V} (F : FnE X.prog X.w X.K X.mg X.base CX k f fd ps sp) (hr : RoomH k X.A) (hh : X.A.handled = some (.ref p.1)) (hf : ∃ vs, p.2.data = .fields vs) (hp : p ∈ X.pn) (hb : Binds X.K fd ps []) (hx : PassesAt CX X σ (E σ))
    (I : Inv X pins σ H s) (r : Vals vs us) (h : sp p vs H Q (E σ)) : wpAny (model X.prog X.w) X.A (call (.ref f) us) (EP X pins σ Q) X.xe s := by
  have hl : us.length = ps.length := by rw [← r.length]; exact F.len _ _ _ _ _ h
  have b := hb s us I.kIn (by rw [List.append_nil]; exact hl)
  rw [List.append_nil] at b
  have P1 := I.pin p (List.mem_append_left _ hp)
  have hpin : PinOk X.stack H s p := ⟨P1.1, P1.2.1, fun hm => (List.mem_cons.mp (I.stkSub p.1 hm)).elim P1.2.2.1 P1.2.2.2.1, P1.2.2.2.2⟩
  refine wpAny_call (codeAny_mono (F.run X.A X.stack s H ⟨us, []⟩ us vs Q (E σ) p hr hh hf hpin I.env0 b r h) fun r s' hq => ?_)
  cases r with
  | error e => exact hx pins H s e s' I hq
  | ok fl =>
    cases fl with
    | ret u => exact I.after hq
    | next => exact False.elim hq
    | brk => exact False.elim hq
    | cont => exact False.elim hq
theorem pe_callE (F : FnE X.prog X.w X.K X.mg X.base CX k f fd ps sp) (hr : RoomH k X.A) (hh : X.A.handled = some (.ref p.1)) (hf : ∃ vs, p.2.data = .fields vs) (hp : p ∈ X.pn) (hg : Gl X x) (hm : X.mg x = some (.ref f)) (hk : PySem.W.keepIn X.K (.ref f) = true) (hb : Binds X.K fd ps []) (hx : ∀ σ, PassesAt CX X σ (E σ))
    (ha : PA X (e :: es) t) (hdb : (x == ("__debug__" : Str)) = false := by decide) (he : starEach (e :: es) X.env = (false, eval e X.env) :: starEach es X.env := by rfl) (hpl : (backTo pos (starEach es X.env)).any (·.1) = false := by rfl) :
    PE X (.Call (.Name x q) (e :: es) [] pos) (tCallS (sp p) E t) := by
  refine ⟨fun pins s σ H Q I h => ?_⟩
  refine wpAny_Call_Name_kw (ld_glob I hg hm ?_ hdb)
  refine PySem.W.callWith_K (h₀ := X.base) I.ok.mod.kin hk (thn (ha.run pos pins s σ H _ I h) fun us s1 ⟨vs, H1, I1, r, q⟩ => ⟨I1.kIn, ?_⟩) he hpl
  exact run_fnE F hr hh hf hp hb (hx σ) I1 r q
end
end Lt
set_option maxHeartbeats 1000000
namespace Lt
open PySem PySem.Spec PyProof.Rows L2
def bltN : List Str := ["abs", "len", "isinstance", "range", "int", "bool", "str", "tuple", "list", "sorted", "max", "min", "enumerate", "zip", "reversed"]
/-- a def that may be called with n written arguments -/
def CallOk (X : Cx) (CA : Str → Addr) (G : Cxt) (f : Str) (n : Nat) : Prop := ∃ (a : Addr) (fd : FuncData) (ps : List Str) (ds : List Value) (dvs : List V) (k : Nat) (sp : Sp),
  FnOk X.prog X.w X.K X.mg X.base (L2.CX X.prog X.w) k a fd ps sp ∧ Room k X.A ∧ X.mg f = some (.ref a) ∧ PySem.W.keepIn X.K (.ref a) = true ∧ Binds X.K fd ps ds ∧ Vals dvs ds ∧
  ∀ (vs : List V) (xs : List D) (S : Store) (L : List Addr) (H : Hp) (σ : Sl) (Q : VK) (E : XK), Good X.K CA S L H → RelDs X.K L H xs vs → xs.length = n →
    Aft X.K CA (fun c d _ H' => E c d H') σ L H (G.cl f xs S) (fun d _ L' H' => ∀ v, RelD X.K L' H' d v → Q v H') → sp (vs ++ dvs) H Q E
/-- a method that may be called with n written arguments -/
def MthOk (X : Cx) (CA : Str → Addr) (G : Cxt) (C m key : Str) (n : Nat) : Prop := ∃ (a : Addr) (fd : FuncData) (ps : List Str) (ds : List Value) (dvs : List V) (k : Nat) (sp : Sp),
  Cls X.K (CA C) ∧ Meth X.K (CA C) m a ∧ FnOk X.prog X.w X.K X.mg X.base (L2.CX X.prog X.w) k a fd ps sp ∧ Room k X.A ∧ Binds X.K fd ps ds ∧ Vals dvs ds ∧
  ∀ (vs : List V) (xs : List D) (S : Store) (L : List Addr) (H : Hp) (σ : Sl) (Q : VK) (E : XK), Good X.K CA S L H → RelDs X.K L H xs vs → xs.length = n + 1 →
    Aft X.K CA (fun c d _ H' => E c d H') σ L H (G.cl key xs S) (fun d _ L' H' => ∀ v, RelD X.K L' H' d v → Q v H') → sp (vs ++ dvs) H Q E
def MakOk (X : Cx) (CA : Str → Addr) (G : Cxt) (C key : Str) (n : Nat) : Prop := ∃ (a : Addr) (fd : FuncData) (ps : List Str) (k : Nat) (sp : Sp),
  Mk X.K (CA C) a ∧ X.mg C = some (.ref (CA C)) ∧ FnOk X.prog X.w X.K X.mg X.base (L2.CX X.prog X.w) k a fd ps sp ∧ Room (k + 1) X.A ∧ Binds X.K fd ps [] ∧
  ∀ (vs : List V) (xs : List D) (S : Store) (L : List Addr) (H : Hp) (σ : Sl) (Q : VK) (E : XK), Good X.K CA S L H → RelDs X.K L H xs vs → xs.length = n + 1 →
    Aft X.K CA (fun c d _ H' => E c d H') σ L H (G.cl key xs S) (fun d _ L' H' => ∀ v, RelD X.K L' H' d v → Q v H') → sp vs H Q E
/-- what raises an error with a field: an own __init__ that is walked -/
def XoOk (X : Cx) (CA : Str → Addr) (x : Str) : Prop := ∃ (fI : Addr) (k : Nat) (fd : FuncData) (ps : List Str) (sp : Sp),
  OexC X.K (CA x) ∧ PySem.W.findIn X.K (.ref (CA x)) "__init__" = some (some (.ref fI)) ∧ PySem.W.typeIn X.K (.ref fI) = some (.type "function") ∧
  FnOk X.prog X.w X.K X.mg X.base (L2.CX X.prog X.w) k fI fd ps sp ∧ Room (k + 1) X.A ∧ Binds X.K fd ps [] ∧ X.mg x = some (.ref (CA x)) ∧
  ∀ (a : Addr) (v : V) (H : Hp) (Q : VK) (E : XK), H a = some (exo a (CA x) none) → (∀ dx H', H dx = none → dx ≠ a → H' = upd (upd H dx (exd dx [("at", v)])) a (exo a (CA x) (some dx)) → Q .non H') → sp [.ref a, v] H Q E
/-- the class that isinstance asks for -/
def ClsV (X : Cx) (CA : Str → Addr) (y : Str) (cv : Value) : Prop := (X.mg y = some (.ref (CA y)) ∧ cv = .ref (CA y)) ∨ (X.mg y = none ∧ y = ("ValueError" : Str) ∧ cv = .type "ValueError")
/-- a def that looks at a held error -/
def XclOk (X : Cx) (CA : Str → Addr) (G : Cxt) (f : Str) : Prop := ∃ (af : Addr) (fd : FuncData) (ps : List Str) (k : Nat) (sp : Addr × Obj → Sp),
  FnE X.prog X.w X.K X.mg X.base (L2.CX X.prog X.w) k af fd ps sp ∧ L2H.RoomH k X.A ∧ X.mg f = some (.ref af) ∧ PySem.W.keepIn X.K (.ref af) = true ∧ Binds X.K fd ps [] ∧
  ∀ (a : Addr) (oe : Obj) (c : Exc) (o : Option (Addr × D)) (S : Store) (L : List Addr) (H : Hp) (Q : VK) (E : XK) (σ : Sl) (W : WX), Zc (.ref (CA c.cls)) (o.map (·.1)) oe → c.at_ = o.map (·.2) → Good X.K CA S L H → (∀ x d, o = some (x, d) → ∃ v, H x = some (.xd [("at", v)]) ∧ RelD X.K L H d v) →
    Aft X.K CA W σ L H (G.clx f c S) (fun d _ L' H' => ∀ v, RelD X.K L' H' d v → Q v H') → sp (a, oe) [.ref a] H Q E
structure Ok (X : Cx) (CA : Str → Addr) (G : Cxp) (W : WX) (C : MC) : Prop where
  cal : C.hs = none → X.calm = true
  nm : X.N = C.N
  nd : C.N.Nodup
  sc : X.env.scope = C.sc
  kind : C.sc.kind = .function
  tk : Takes X W
  un : X.A.units + 100 < cLine
  pas : C.hs = none → PassesOwn (model X.prog X.w) X.A X.env X.xe
  free : ∀ x ∈ bltN, X.mg x = none
  fn : C.top = true → ∀ x, X.fn x = true
  glo : ∀ x d, G.glo x = some d → ∃ v u, X.mg x = some u ∧ RelV v u ∧ ∀ L H, RelD X.K L H d v
  call : ∀ f n, C.fs f n = true → CallOk X CA G f n
  fl : ∀ y f, C.fl y f = true → Cls X.K (CA y) ∧ NoAttr X.K (CA y) f
  ms : ∀ y m key n, C.ms y m key n = true → MthOk X CA G y m key n
  mks : ∀ y key n, C.mks y key n = true → MakOk X CA G y key n
  xc : ∀ x, C.xs x = true → X.mg x = some (.ref (CA x)) ∧ PySem.W.excIn X.K (CA x) He.veBase "ValueError.__new__" = true ∧ PySem.W.keepIn X.K (.ref (CA x)) = true ∧ Raises X (.ref (CA x))
  sb : ∀ x y b, G.sub x y = some b → PySem.W.exmOne X.K (.ref (CA x)) (.ref (CA y)) = some b
  fr : C.top = true → X.env.frame = some X.env.locals
  stk : C.top = true → X.stack = X.env :: X.outer
  xo : ∀ x, C.xo x = true → XoOk X CA x
  xi : ∀ x y b, G.isc x y = some b → ExcC X.K (CA x) ∧ ∃ cv, ClsV X CA y cv ∧ PySem.W.kitOne X.K (.ref (CA x)) cv = some b
  xf : ∀ x y b, G.isc x y = some b → XfC X.K (CA x) ∧ PySem.W.findIn X.K (.ref (CA x)) "at" = some none
  tc : C.top = true → C.hs = none
  xsc : ∀ x, C.xs x = true → C.hs = none
  xoc : ∀ x, C.xo x = true → C.hs = none
  hot : C.hs = G.pin.map (·.1)
  xcq : ∀ f, C.xq f = true → XclOk X CA G f
  hotx : ∀ i a o, G.pin = some (i, a, o) → ∃ (X0 : Cx) (oe : Obj) (pn : List (Addr × Obj)) (c : Exc), X = X0.suite a ((a, oe) :: pn) ∧ Zc (.ref (CA c.cls)) (o.map (·.1)) oe ∧ (∃ vs, oe.data = .fields vs) ∧ G.exc = some c ∧ c.at_ = o.map (·.2)
theorem Ok.calm {X : Cx} {CA : Str → Addr} {G : Cxp} {W : WX} {C : MC} (ok : Ok X CA G W C) (h : cold C = true) : X.calm = true := ok.cal (by unfold cold at h; exact Option.isNone_iff_eq_none.mp h)
theorem Ok.pass {X : Cx} {CA : Str → Addr} {G : Cxp} {W : WX} {C : MC} (ok : Ok X CA G W C) (h : cold C = true) : PassesOwn (model X.prog X.w) X.A X.env X.xe := ok.pas (by unfold cold at h; exact Option.isNone_iff_eq_none.mp h)
theorem Ok.nopin {X : Cx} {CA : Str → Addr} {G : Cxp} {W : WX} {C : MC} (ok : Ok X CA G W C) (h : cold C = true) : G.pin = none := by
  have := ok.hot
  unfold cold at h
  rw [Option.isNone_iff_eq_none.mp h] at this
  exact Option.map_eq_none_iff.mp this.symm
theorem Ok.hsne {X : Cx} {CA : Str → Addr} {G : Cxp} {W : WX} {C : MC} (ok : Ok X CA G W C) {i : Nat} (h : hsNe C i = true) : ∀ j a o, G.pin = some (j, a, o) → j ≠ i := by
  intro j a o e
  have := ok.hot
  rw [e] at this
  simp only [Option.map_some] at this
  unfold hsNe at h
  rw [this] at h
  simpa using h
theorem Ok.cold_ne {X : Cx} {CA : Str → Addr} {G : Cxp} {W : WX} {C : MC} (ok : Ok X CA G W C) (h : cold C = true) (i : Nat) : ∀ j a o, G.pin = some (j, a, o) → j ≠ i := by
  intro j a o e
  rw [ok.nopin h] at e; cases e
section
variable {X : Cx} {CA : Str → Addr} {G : Cxp} {W : WX} {C : MC} {S S' : Store} {L L1 M2 L' : List Addr} {H H1 H2 H' : Hp} {σ : Sl} {e : Expr}
theorem PE.by_ {t t0 : TE} (h : PE X e t0) (m : ∀ σ H Q, t σ H Q → t0 σ H Q) : PE X e t := ⟨fun pins s σ H Q I q => h.run pins s σ H Q I (m σ H Q q)⟩
theorem PT.by_ {t t0 : TT} (h : PT X e t0) (m : ∀ σ H Q, t σ H Q → t0 σ H Q) : PT X e t := ⟨fun pins s σ H Q I q => h.run pins s σ H Q I (m σ H Q q)⟩
theorem PA.by_ {es : List Expr} {t t0 : TA} (h : PA X es t0) (m : ∀ σ H Q, t σ H Q → t0 σ H Q) : PA X es t := ⟨fun pos pins s σ H Q I q => h.run pos pins s σ H Q I (m σ H Q q)⟩
theorem PI.by_ {tg : Expr} {t t0 : TI} (h : PI X tg e t0) (m : ∀ σ H Q, t σ H Q → t0 σ H Q) : PI X tg e t := ⟨fun pins s σ H Q I q => h.run pins s σ H Q I (m σ H Q q)⟩
theorem PG.by_ {t t0 : TG} (h : PG X e t0) (m : ∀ v σ H Q, t v σ H Q → t0 v σ H Q) : PG X e t := ⟨fun pins s σ H v u Q I r q => h.run pins s σ H v u Q I r (m v σ H Q q)⟩
theorem PS.by_ {st : Stmt} {t t0 : TS} (h : PS X st t0) (m : ∀ Z σ H, t Z σ H → t0 Z σ H) : PS X st t := ⟨fun pins s σ H D I q => h.run pins s σ H D I (m D σ H q)⟩
theorem PSs.by_ {st : List Stmt} {t t0 : TS} (h : PSs X st t0) (m : ∀ Z σ H, t Z σ H → t0 Z σ H) : PSs X st t := ⟨fun pins s σ H D I q => h.run pins s σ H D I (m D σ H q)⟩
theorem ba {a b : Bool} (h : (a && b) = true) : a = true ∧ b = true := Bool.and_eq_true_iff.mp h
/-- one expression, then what its value brings -/
theorem tE.seq {a : Ex} {env : Env} (g : Good X.K CA S L H) (er : EnvR X.K G.pin L H env σ) {β : Type} {k : D → Store → R β} {P : β → Store → List Addr → Hp → Prop} {Q : VK}
    (h : Aft X.K CA W σ L H ((ev G a env S).bind k) P)
    (m : ∀ d S1 L1 H1 v, Step L H L1 H1 → Good X.K CA S1 L1 H1 → EnvR X.K G.pin L1 H1 env σ → RelD X.K L1 H1 d v → Aft X.K CA W σ L1 H1 (k d S1) P → Q v H1) : tE X.K CA G W a σ H Q :=
  ⟨S, L, env, g, er, h.bind.mono fun d S1 L1 H1 ⟨st, g1, h1⟩ v r => m d S1 L1 H1 v st g1 (er.step g st) r h1⟩
theorem tEs.seq {a : List Ex} {env : Env} (g : Good X.K CA S L H) (er : EnvR X.K G.pin L H env σ) {β : Type} {k : List D → Store → R β} {P : β → Store → List Addr → Hp → Prop} {Q : List V → Hp → Prop}
    (h : Aft X.K CA W σ L H ((evs G a env S).bind k) P)
    (m : ∀ d S1 L1 H1 v, Step L H L1 H1 → Good X.K CA S1 L1 H1 → EnvR X.K G.pin L1 H1 env σ → RelDs X.K L1 H1 d v → Aft X.K CA W σ L1 H1 (k d S1) P → Q v H1) : tEs X.K CA G W a σ H Q :=
  ⟨S, L, env, g, er, h.bind.mono fun d S1 L1 H1 ⟨st, g1, h1⟩ v r => m d S1 L1 H1 v st g1 (er.step g st) r h1⟩
theorem Aft.now (g : Good X.K CA S L H) {d : D} {Q : VK} (h : Aft X.K CA W σ L H (.ok d S) fun d _ L' H' => ∀ v, RelD X.K L' H' d v → Q v H') {v : V} (r : RelD X.K L H d v) : Q v H := h L H Step.refl g v r
/-- a new list -/
theorem Aft.laid (g : Good X.K CA S L H) {c : Cell} {o : HO} {Q : VK} (h : Aft X.K CA W σ L H (alloc c S) fun d _ L' H' => ∀ v, RelD X.K L' H' d v → Q v H') {p : Addr} (hp : H p = none)
    (hc : CellR X.K CA (L ++ [p]) (upd H p o) c p) : Q (.ref p) (upd H p o) := by
  obtain ⟨st, g1⟩ := g.alloc hp hc
  refine h _ _ st g1 (.ref p) ?_
  simp only [RelD]
  exact ⟨p, by rw [← g.len, List.getElem?_append_right (Nat.le_refl _)]; simp, rfl⟩
theorem Aft.lst (g : Good X.K CA S L H) {xs : List D} {vs : List V} {Q : VK} (h : Aft X.K CA W σ L H (alloc (.lst xs) S) fun d _ L' H' => ∀ v, RelD X.K L' H' d v → Q v H') (r : RelDs X.K L H xs vs) {p : Addr} (hp : H p = none) :
    Q (.ref p) (upd H p (.lst vs)) := by
  refine Aft.laid g h hp ⟨vs, upd_same, RelDs.mon ⟨fun n a e => ?_, fun a o e _ => ?_⟩ _ _ r⟩
  · rw [List.getElem?_append_left (List.getElem?_eq_some_iff.mp e).1]; exact e
  · rw [upd_ne (ne_of_none e hp)]; exact e
theorem Aft.set (g : Good X.K CA S L H) {n : Nat} {ys : List D} {vs ws : List V} {a : Addr} {d : D} {Q : VK} (h : Aft X.K CA W σ L H (.ok d (S.set n (.lst ys))) fun d _ L' H' => ∀ v, RelD X.K L' H' d v → Q v H')
    (hn : L[n]? = some a) (e : H a = some (.lst vs)) (r : RelDs X.K L H ys ws) {v : V} (rd : ∀ H', RelD X.K L H' d v) : Q v (upd H a (.lst ws)) := by
  have m : Mon L H L (upd H a (.lst ws)) := ⟨fun _ _ h => h, fun b o eb pb => by
    rw [upd_ne (by intro z; subst z; rw [e] at eb; cases eb; exact pb)]; exact eb⟩
  obtain ⟨st, g1⟩ := g.write (c := .lst ys) (o := .lst ws) hn ⟨ws, upd_same, RelDs.mon m _ _ r⟩
  exact h _ _ st g1 v (rd _)
theorem getL_rel (g : Good X.K CA S L H) {n : Nat} {xs : List D} (h : getL S n = some xs) {a : Addr} (hn : L[n]? = some a) : ∃ vs, H a = some (.lst vs) ∧ RelDs X.K L H xs vs := by
  unfold getL at h
  split at h
  · rename_i ys e
    cases h
    exact g.cell n _ a e hn
  · cases h
theorem lstOf_rel (g : Good X.K CA S L H) {d : D} {xs : List D} (h : lstOf S d = some xs) {v : V} (r : RelD X.K L H d v) : ∃ a vs, v = .ref a ∧ SqL X.K H a vs ∧ RelDs X.K L H xs vs := by
  unfold lstOf at h
  split at h
  · simp only [RelD] at r
    obtain ⟨a, hn, rfl⟩ := r
    obtain ⟨vs, e, q⟩ := getL_rel g h hn
    exact ⟨a, vs, rfl, SqL.of e, q⟩
  · cases h
    simp only [RelD] at r
    obtain ⟨a, vs, rfl, e, q⟩ := r
    exact ⟨a, vs, rfl, e.sq, q⟩
  · cases h
theorem seqOf_rel (g : Good X.K CA S L H) {d : D} {xs : List D} (h : seqOf S d = some xs) {v : V} (r : RelD X.K L H d v) : ∃ a vs, v = .ref a ∧ (SqL X.K H a vs ∨ SqT X.K H a vs) ∧ RelDs X.K L H xs vs := by
  unfold seqOf at h
  split at h
  · cases h
    simp only [RelD] at r
    obtain ⟨a, vs, rfl, e, q⟩ := r
    exact ⟨a, vs, rfl, .inr (SqT.of e), q⟩
  · cases h
    simp only [RelD] at r
    obtain ⟨a, vs, rfl, e, q⟩ := r
    exact ⟨a, vs, rfl, .inl e.sq, q⟩
  · cases h
    simp only [RelD] at r
    obtain ⟨a, vs, rfl, e, q⟩ := r
    exact ⟨a, vs, rfl, .inr e.sq, q⟩
  · simp only [RelD] at r
    obtain ⟨a, hn, rfl⟩ := r
    obtain ⟨vs, e, q⟩ := getL_rel g h hn
    exact ⟨a, vs, rfl, .inl (SqL.of e), q⟩
  · cases h
theorem small {n : Nat} (h : n ≤ lim) : n < sizeLine := Nat.lt_of_le_of_lt h (by rw [sizeLine_eq]; decide)
theorem op_fdivA : OpR X (binaryOp .FloorDiv) (rI (fun _ j => j ≠ 0 ∧ j.natAbs.log2 < 9000) fun i j => .int (i.fdiv j)) := opI fun _ _ _ _ _ _ _ hc q => floordiv_int hc.1 q (.inl (PyProof.noPylong_of_log2 hc.2))
theorem mul_ok {i j : Int} (h : Sm i j) : CMulW i j := h
/-- the reading of a two-place operation by the evaluator's -/
def rBin (K : PySem.W.Frag) (CA : Str → Addr) (W : WX) (σ : Sl) (f : D → D → Store → R D) : R2 := fun vx vy H Q => ∃ S L x y, Good K CA S L H ∧ RelD K L H x vx ∧ RelD K L H y vy ∧ Aft K CA W σ L H (f x y S) fun d _ L' H' => ∀ v, RelD K L' H' d v → Q v H'
theorem OpR.by_ {f : Value → Value → Sem Value} {r r0 : R2} (h : OpR X f r0) (m : ∀ x y H Q, r x y H Q → r0 x y H Q) : OpR X f r := fun pins s σ H x y v u Q I rx ry q => h pins s σ H x y v u Q I rx ry (m _ _ _ _ q)
theorem bin_ok {op : Op} {o : Operator} (h : opB op o = true) (σ : Sl) : OpR X (binaryOp o) (rBin X.K CA W σ (binop op)) := by
  cases op <;> cases o <;> try (exact absurd h Bool.false_ne_true)
  · -- add
    refine OpR.by_ (OpR.or op_add (OpR.or op_add_str (OpR.or op_cat op_catA))) ?_
    rintro vx vy H Q ⟨S, L, x, y, g, rx, ry, q⟩
    unfold binop at q
    split at q <;> try (first | exact q.elim | contradiction)
    · simp only [RelD] at rx ry; subst rx ry
      exact .inl ⟨_, _, rfl, rfl, Aft.now g q (by simp [RelD])⟩
    · simp only [RelD] at rx ry; subst rx ry
      split at q
      · rename_i hz
        exact .inr (.inl ⟨_, _, rfl, rfl, Nat.le_of_lt (small hz), Aft.now g q (by simp [RelD])⟩)
      · exact q.elim
    · simp only [RelD] at rx ry
      obtain ⟨a, ha, rfl⟩ := rx
      obtain ⟨b, hb, rfl⟩ := ry
      split at q
      · rename_i xs ys hx hy
        split at q
        · rename_i hz
          obtain ⟨vs, e1, r1⟩ := getL_rel g hx ha
          obtain ⟨ws, e2, r2⟩ := getL_rel g hy hb
          refine .inr (.inr (.inl ⟨a, b, vs, ws, rfl, rfl, e1, e2, ?_, fun p hp => Aft.lst g q (r1.append r2) hp⟩))
          rw [r1.length, r2.length]; exact Nat.le_of_lt (small hz)
        · exact q.elim
      · exact q.elim
    · rename_i xs ys _
      simp only [RelD] at rx ry
      obtain ⟨a, vs, rfl, ha, r1⟩ := rx
      obtain ⟨b, ws, rfl, hb, r2⟩ := ry
      split at q
      · rename_i hz
        refine .inr (.inr (.inr ⟨a, b, vs, ws, rfl, rfl, SqT.of ha, SqT.of hb, ?_, fun z => ?_, fun _ z => ?_, fun _ _ p hp => ?_⟩))
        · rw [r1.length, r2.length]; exact Nat.le_of_lt (small hz)
        · subst z
          refine Aft.now g q ?_
          have e : xs = [] := by have := r1.length; cases xs with | nil => rfl | cons _ _ => simp at this
          subst e
          simp only [RelD, List.nil_append]
          exact ⟨b, ws, rfl, hb, r2⟩
        · subst z
          refine Aft.now g q ?_
          have e : ys = [] := by have := r2.length; cases ys with | nil => rfl | cons _ _ => simp at this
          subst e
          simp only [RelD, List.append_nil]
          exact ⟨a, vs, rfl, ha, r1⟩
        · obtain ⟨st2, g2⟩ := g.side (o := .tup (vs ++ ws)) hp
          refine q _ _ st2 g2 (.ref p) ?_
          simp only [RelD]
          exact ⟨p, _, rfl, upd_same, (r1.append r2).step g st2⟩
      · exact q.elim
  · -- sub
    refine OpR.by_ op_sub ?_
    rintro vx vy H Q ⟨S, L, x, y, g, rx, ry, q⟩
    unfold binop at q
    split at q <;> try (first | exact q.elim | contradiction)
    simp only [RelD] at rx ry; subst rx ry
    exact ⟨_, _, rfl, rfl, Aft.now g q (by simp [RelD])⟩
  · -- mul
    refine OpR.by_ (OpR.or op_mulW op_rep) ?_
    rintro vx vy H Q ⟨S, L, x, y, g, rx, ry, q⟩
    unfold binop at q
    split at q <;> try (first | exact q.elim | contradiction)
    · simp only [RelD] at rx ry; subst rx ry
      split at q
      · rename_i hz
        exact .inl ⟨_, _, rfl, rfl, mul_ok hz, Aft.now g q (by simp [RelD])⟩
      · exact q.elim
    · simp only [RelD] at rx ry
      obtain ⟨a, ha, rfl⟩ := rx
      subst ry
      split at q
      · rename_i xs hx
        split at q
        · rename_i hz
          obtain ⟨vs, e1, r1⟩ := getL_rel g hx ha
          refine .inr ⟨a, _, vs, rfl, rfl, e1, by omega, by omega, ?_, fun p hp => Aft.lst g q (r1.rep _) hp⟩
          rw [r1.length]; exact Nat.le_of_lt (small hz.2.2)
        · exact q.elim
      · exact q.elim
  · -- fdiv
    refine OpR.by_ op_fdivA ?_
    rintro vx vy H Q ⟨S, L, x, y, g, rx, ry, q⟩
    unfold binop at q
    split at q <;> try (first | exact q.elim | contradiction)
    simp only [RelD] at rx ry; subst rx ry
    split at q
    · rename_i hz
      exact ⟨_, _, rfl, rfl, hz, Aft.now g q (by simp [RelD])⟩
    · exact q.elim
  · -- mod
    refine OpR.by_ op_modN ?_
    rintro vx vy H Q ⟨S, L, x, y, g, rx, ry, q⟩
    unfold binop at q
    split at q <;> try (first | exact q.elim | contradiction)
    simp only [RelD] at rx ry; subst rx ry
    split at q
    · rename_i hz
      exact ⟨_, _, rfl, rfl, hz, Aft.now g q (by simp [RelD])⟩
    · exact q.elim
  · -- pow
    refine OpR.by_ op_pow ?_
    rintro vx vy H Q ⟨S, L, x, y, g, rx, ry, q⟩
    unfold binop at q
    split at q <;> try (first | exact q.elim | contradiction)
    simp only [RelD] at rx ry; subst rx ry
    split at q
    · rename_i hz
      exact ⟨_, _, rfl, rfl, hz, Aft.now g q (by simp [RelD])⟩
    · exact q.elim
end
end Lt
set_option maxHeartbeats 1000000
namespace Lt
open PySem PySem.Spec PyProof.Rows L2
section
variable {X : Cx} {CA : Str → Addr} {G : Cxp} {W : WX} {C : MC} {S S' : Store} {L L1 M2 L' : List Addr} {H H1 H2 H' : Hp} {σ : Sl} {e : Expr}
mutual
theorem toP_rel (g : Good X.K CA S L H) : ∀ (n : Nat) (d : D) (p : PyData) (v : V), toP S n d = some p → RelD X.K L H d v → Dp X.K H v p ∧ p.canLay0 = true ∧ p.depth ≤ n
  | 0, d, p, v, h, r => by simp [toP] at h
  | n + 1, .non, p, v, h, r => by
    simp only [toP, Option.some.injEq] at h; subst h
    simp only [RelD] at r; subst r
    exact ⟨.non, rfl, by simp [PyData.depth]⟩
  | n + 1, .bl b, p, v, h, r => by
    simp only [toP, Option.some.injEq] at h; subst h
    simp only [RelD] at r; subst r
    exact ⟨.bl b, rfl, by simp [PyData.depth]⟩
  | n + 1, .int b, p, v, h, r => by
    simp only [toP, Option.some.injEq] at h; subst h
    simp only [RelD] at r; subst r
    exact ⟨.int b, rfl, by simp [PyData.depth]⟩
  | n + 1, .str b, p, v, h, r => by
    simp only [toP] at h
    split at h
    · rename_i hc
      cases h
      simp only [RelD] at r; subst r
      exact ⟨.str b, hc, by simp [PyData.depth]⟩
    · cases h
  | n + 1, .tup xs, p, v, h, r => by
    simp only [toP, Option.map_eq_some_iff] at h
    obtain ⟨ps, h1, rfl⟩ := h
    simp only [RelD] at r
    obtain ⟨a, vs, rfl, q, r⟩ := r
    obtain ⟨x, y, z⟩ := toPs_rel g n xs ps vs h1 r
    exact ⟨.tup (SqT.of q) x, by simpa [PyData.canLay0] using y, by simpa [PyData.depth] using z⟩
  | n + 1, .frl xs, p, v, h, r => by
    simp only [toP, Option.map_eq_some_iff] at h
    obtain ⟨ps, h1, rfl⟩ := h
    simp only [RelD] at r
    obtain ⟨a, vs, rfl, q, r⟩ := r
    obtain ⟨x, y, z⟩ := toPs_rel g n xs ps vs h1 r
    exact ⟨.lst q.sq x, by simpa [PyData.canLay0] using y, by simpa [PyData.depth] using z⟩
  | n + 1, .frt xs, p, v, h, r => by
    simp only [toP, Option.map_eq_some_iff] at h
    obtain ⟨ps, h1, rfl⟩ := h
    simp only [RelD] at r
    obtain ⟨a, vs, rfl, q, r⟩ := r
    obtain ⟨x, y, z⟩ := toPs_rel g n xs ps vs h1 r
    exact ⟨.tup q.sq x, by simpa [PyData.canLay0] using y, by simpa [PyData.depth] using z⟩
  | n + 1, .ref k, p, v, h, r => by
    simp only [toP] at h
    cases e : getL S k with
    | none => rw [e] at h; cases h
    | some xs =>
      rw [e] at h
      simp only [Option.map_eq_some_iff] at h
      obtain ⟨ps, h1, rfl⟩ := h
      simp only [RelD] at r
      obtain ⟨a, hk, rfl⟩ := r
      obtain ⟨vs, q, r⟩ := getL_rel g e hk
      obtain ⟨x, y, z⟩ := toPs_rel g n xs ps vs h1 r
      exact ⟨.lst (SqL.of q) x, by simpa [PyData.canLay0] using y, by simpa [PyData.depth] using z⟩
theorem toPs_rel (g : Good X.K CA S L H) : ∀ (n : Nat) (ds : List D) (ps : List PyData) (vs : List V), mapO (toP S n) ds = some ps → RelDs X.K L H ds vs → DpAll X.K H vs ps ∧ PyData.canLayAll0 ps = true ∧ PyData.depthAll ps ≤ n
  | n, [], ps, vs, h, r => by
    simp only [mapO, Option.some.injEq] at h; subst h
    simp only [RelDs] at r; subst r
    exact ⟨.nil, by simp [PyData.canLayAll0], by simp [PyData.depthAll]⟩
  | n, d :: ds, ps, vs, h, r => by
    simp only [mapO] at h
    split at h
    · rename_i p ps' h1 h2
      cases h
      simp only [RelDs] at r
      obtain ⟨v, vr, rfl, r1, r2⟩ := r
      obtain ⟨a1, a2, a3⟩ := toP_rel g n d p v h1 r1
      obtain ⟨b1, b2, b3⟩ := toPs_rel g n ds ps' vr h2 r2
      refine ⟨.cons a1 b1, by simp [PyData.canLayAll0, a2, b2], ?_⟩
      simp only [PyData.depthAll]
      omega
    · cases h
end
theorem toP_shaped (g : Good X.K CA S L H) {d : D} {p : PyData} {v : V} (h : toP S 12 d = some p) (r : RelD X.K L H d v) : Dp X.K H v p ∧ SeqAt.shaped p = true := by
  obtain ⟨a, b, c⟩ := toP_rel g 12 d p v h r
  refine ⟨a, ?_⟩
  unfold SeqAt.shaped
  rw [b, decide_eq_true (by omega)]; rfl
theorem Aft.bl (g : Good X.K CA S L H) {b : Bool} {Q : VK} (h : Aft X.K CA W σ L H (.ok (.bl b) S) fun d _ L' H' => ∀ v, RelD X.K L' H' d v → Q v H') : Q (.bl b) H := Aft.now g h (by simp [RelD])
theorem Aft.int (g : Good X.K CA S L H) {b : Int} {Q : VK} (h : Aft X.K CA W σ L H (.ok (.int b) S) fun d _ L' H' => ∀ v, RelD X.K L' H' d v → Q v H') : Q (.int b) H := Aft.now g h (by simp [RelD])
theorem flat_rel {d : D} {v : V} (r : RelD X.K L H d v) : flatV v = flatD d := by
  cases d with
  | non => simp only [RelD] at r; subst r; rfl
  | tup xs => simp only [RelD] at r; obtain ⟨p, vs, rfl, _⟩ := r; rfl
  | frl xs => simp only [RelD] at r; obtain ⟨p, vs, rfl, _⟩ := r; rfl
  | frt xs => simp only [RelD] at r; obtain ⟨p, vs, rfl, _⟩ := r; rfl
  | ref n => simp only [RelD] at r; obtain ⟨p, _, rfl⟩ := r; rfl
  | bl b => simp only [RelD] at r; subst r; rfl
  | int b => simp only [RelD] at r; subst r; rfl
  | str b => simp only [RelD] at r; subst r; rfl
theorem eqF_rel {d e : D} {v w : V} (r : RelD X.K L H d v) (r' : RelD X.K L H e w) (h : flatD d = true) (h' : flatD e = true) : eqV v w = eqF d e := by
  cases d <;> (try cases h) <;> cases e <;> (try cases h') <;> simp only [RelD] at r r' <;> subst r r' <;> rfl
theorem flats_rel : ∀ {ds : List D} {vs : List V}, RelDs X.K L H ds vs → vs.all flatV = ds.all flatD
  | [], vs, r => by simp only [RelDs] at r; subst r; rfl
  | d :: ds, vs, r => by
    simp only [RelDs] at r
    obtain ⟨v, vr, rfl, r1, r2⟩ := r
    simp only [List.all_cons, flat_rel r1, flats_rel r2]
theorem inF_rel {x : D} {v : V} (rx : RelD X.K L H x v) (hx : flatD x = true) : ∀ {ds : List D} {vs : List V}, RelDs X.K L H ds vs → ds.all flatD = true → inV v vs = ds.any fun z => eqF z x
  | [], vs, r, _ => by simp only [RelDs] at r; subst r; rfl
  | d :: ds, vs, r, h => by
    simp only [RelDs] at r
    obtain ⟨w, vr, rfl, r1, r2⟩ := r
    simp only [List.all_cons, Bool.and_eq_true] at h
    have ih := inF_rel rx hx r2 h.2
    unfold inV at ih ⊢
    simp only [List.any_cons, eqF_rel r1 rx h.1 hx, ih]
theorem inO_rel (g : Good X.K CA S L H) {x y : D} {vx vy : V} (rx : RelD X.K L H x vx) (ry : RelD X.K L H y vy) {b : Bool} (h : inO S x y = some b) :
    (∃ p xs, vy = .ref p ∧ (SqL X.K H p xs ∨ SqT X.K H p xs) ∧ flatV vx = true ∧ xs.all flatV = true ∧ inV vx xs = b) ∨
    (∃ d ds, Dp X.K H vx d ∧ Dp X.K H vy (.list ds) ∧ SeqAt.shaped d = true ∧ SeqAt.shaped (.list ds) = true ∧ (ds.any fun z => PyData.eqv z d) = b) := by
  unfold inO at h
  split at h
  · simp only [RelD] at ry
    obtain ⟨p, vs, rfl, e, rs⟩ := ry
    split at h
    · rename_i hf
      cases h
      exact .inl ⟨p, vs, rfl, .inr (SqT.of e), by rw [flat_rel rx]; exact hf.1, by rw [flats_rel rs]; exact hf.2, inF_rel rx hf.1 rs hf.2⟩
    · cases h
  · simp only [RelD] at ry
    obtain ⟨p, vs, rfl, e, rs⟩ := ry
    split at h
    · rename_i hf
      cases h
      exact .inl ⟨p, vs, rfl, .inr e.sq, by rw [flat_rel rx]; exact hf.1, by rw [flats_rel rs]; exact hf.2, inF_rel rx hf.1 rs hf.2⟩
    · cases h
  · split at h
    · rename_i a bs h1 h2
      cases h
      obtain ⟨a1, a2⟩ := toP_shaped g h1 rx
      obtain ⟨b1, b2⟩ := toP_shaped g h2 ry
      exact .inr ⟨a, bs, a1, b1, a2, b2, rfl⟩
    · cases h
  · cases h
theorem cmp_ok (ok : Ok X CA G W C) {op : Cm} {o : CmpOp} (h : cmI op o = true) (σ : Sl) : OpR X (compareOp o) (rBin X.K CA W σ (cmpop op)) := by
  have hu : X.A.units + 64 < cLine := by have := ok.un; omega
  have hu2 : X.A.units + 65 < cLine := by have := ok.un; omega
  cases op <;> cases o <;> try (exact absurd h Bool.false_ne_true)
  · refine OpR.by_ op_lt ?_
    rintro vx vy H Q ⟨S, L, x, y, g, rx, ry, q⟩
    simp only [cmpop] at q
    split at q <;> try (first | exact q.elim | contradiction)
    simp only [RelD] at rx ry; subst rx ry
    exact ⟨_, _, rfl, rfl, Aft.bl g q⟩
  · refine OpR.by_ op_le ?_
    rintro vx vy H Q ⟨S, L, x, y, g, rx, ry, q⟩
    simp only [cmpop] at q
    split at q <;> try (first | exact q.elim | contradiction)
    simp only [RelD] at rx ry; subst rx ry
    exact ⟨_, _, rfl, rfl, Aft.bl g q⟩
  · refine OpR.by_ op_gt ?_
    rintro vx vy H Q ⟨S, L, x, y, g, rx, ry, q⟩
    simp only [cmpop] at q
    split at q <;> try (first | exact q.elim | contradiction)
    simp only [RelD] at rx ry; subst rx ry
    exact ⟨_, _, rfl, rfl, Aft.bl g q⟩
  · refine OpR.by_ op_ge ?_
    rintro vx vy H Q ⟨S, L, x, y, g, rx, ry, q⟩
    simp only [cmpop] at q
    split at q <;> try (first | exact q.elim | contradiction)
    simp only [RelD] at rx ry; subst rx ry
    exact ⟨_, _, rfl, rfl, Aft.bl g q⟩
  · refine OpR.by_ (op_eqD hu) ?_
    rintro vx vy H Q ⟨S, L, x, y, g, rx, ry, q⟩
    simp only [cmpop, eqD] at q
    cases e1 : toP S 12 x with
    | none => simp only [e1] at q; exact q.elim
    | some p1 =>
      cases e2 : toP S 12 y with
      | none => simp only [e1, e2] at q; exact q.elim
      | some p2 =>
        simp only [e1, e2] at q
        obtain ⟨a1, a2⟩ := toP_shaped g e1 rx
        obtain ⟨b1, b2⟩ := toP_shaped g e2 ry
        exact ⟨_, _, a1, b1, a2, b2, Aft.bl g q⟩
  · refine OpR.by_ (op_neD hu) ?_
    rintro vx vy H Q ⟨S, L, x, y, g, rx, ry, q⟩
    simp only [cmpop, eqD] at q
    cases e1 : toP S 12 x with
    | none => simp only [e1] at q; exact q.elim
    | some p1 =>
      cases e2 : toP S 12 y with
      | none => simp only [e1, e2] at q; exact q.elim
      | some p2 =>
        simp only [e1, e2] at q
        obtain ⟨a1, a2⟩ := toP_shaped g e1 rx
        obtain ⟨b1, b2⟩ := toP_shaped g e2 ry
        exact ⟨_, _, a1, b1, a2, b2, Aft.bl g q⟩
  · refine OpR.by_ (OpR.or op_in_seq (op_inD hu2)) ?_
    rintro vx vy H Q ⟨S, L, x, y, g, rx, ry, q⟩
    simp only [cmpop] at q
    split at q
    · rename_i b hb
      rcases inO_rel g rx ry hb with ⟨p, xs, e1, e2, e3, e4, e5⟩ | ⟨d, ds, e1, e2, e3, e4, e5⟩
      · refine .inl ⟨p, xs, e1, e2, e3, e4, ?_⟩
        simp only [Bool.false_eq_true, if_false, e5]
        exact Aft.bl g q
      · refine .inr ⟨d, ds, e1, e2, e3, e4, ?_⟩
        rw [e5]
        exact Aft.bl g q
    · exact q.elim
  · refine OpR.by_ (OpR.or op_notIn_seq (op_notInD hu2)) ?_
    rintro vx vy H Q ⟨S, L, x, y, g, rx, ry, q⟩
    simp only [cmpop] at q
    split at q
    · rename_i b hb
      rcases inO_rel g rx ry hb with ⟨p, xs, e1, e2, e3, e4, e5⟩ | ⟨d, ds, e1, e2, e3, e4, e5⟩
      · refine .inl ⟨p, xs, e1, e2, e3, e4, ?_⟩
        simp only [if_true, e5]
        exact Aft.bl g q
      · refine .inr ⟨d, ds, e1, e2, e3, e4, ?_⟩
        rw [e5]
        exact Aft.bl g q
    · exact q.elim
theorem RelDs.atI {ds : List D} {vs : List V} {i : Int} {d : D} (r : RelDs X.K L H ds vs) (h : L2.atI ds i = some d) : ∃ v, L2.atI vs i = some v ∧ RelD X.K L H d v := by
  unfold L2.atI at h ⊢
  rw [r.length]
  cases e : ixN ds.length i with
  | none => rw [e] at h; cases h
  | some j =>
    rw [e] at h
    exact r.get h
theorem ix_ok (σ : Sl) : IxR X (rBin X.K CA W σ item) := by
  have base : IxR X (fun x y H Q => rIxL X.K x y H Q ∨ rIxT X.K x y H Q) := ix_list.or ix_tup
  intro value slice pins s σ' H x y v u Q I rx ry h hs
  refine base value slice pins s σ' H x y v u Q I rx ry ?_ hs
  obtain ⟨S, L, dx, dy, g, r1, r2, q⟩ := h
  unfold item at q
  split at q
  · simp only [RelD] at r2; subst r2
    split at q
    · rename_i xs hx
      split at q
      · rename_i d hd
        obtain ⟨a, vs, rfl, sq, r⟩ := seqOf_rel g hx r1
        obtain ⟨w, hw, rw⟩ := r.atI hd
        rcases sq with sq | sq
        · exact .inl ⟨a, vs, _, w, rfl, rfl, sq, hw, Aft.now g q rw⟩
        · exact .inr ⟨a, vs, _, w, rfl, rfl, sq, hw, Aft.now g q rw⟩
      · exact q.elim
    · exact q.elim
  · exact q.elim
theorem cutD_rel {ds : List D} {vs : List V} (r : RelDs X.K L H ds vs) (lo hi : Option Int) : RelDs X.K L H (cutD ds lo hi) (cutV vs lo hi) := by
  unfold cutD cutV
  rw [r.length]
  exact (r.drop _).take _
theorem cutD_full {ds : List D} {lo hi : Option Int} (h1 : HT.sIx ds.length 0 lo = 0) (h2 : HT.sIx ds.length ds.length hi = ds.length) : cutD ds lo hi = ds := by
  unfold cutD
  rw [h1, h2]; simp
theorem sl_ok {lo hi : Option D} (σ : Sl) : SlR X (fun vx l h H Q => ∃ S L x, Good X.K CA S L H ∧ RelD X.K L H x vx ∧ intO lo = some l ∧ intO hi = some h ∧ Aft X.K CA W σ L H (slice x lo hi S) fun d _ L' H' => ∀ v, RelD X.K L' H' d v → Q v H') := by
  intro pins s σ' H x v vl vu l h sl Q I rx hs pl pu q
  refine ((sl_list.or sl_tupA).or C8.sl_txt) pins s σ' H x v vl vu l h sl Q I rx hs pl pu ?_
  obtain ⟨S, L, dx, g, r, e1, e2, q⟩ := q
  unfold slice at q
  split at q
  · rename_i xs
    rw [e1, e2] at q
    simp only at q
    simp only [RelD] at r
    obtain ⟨p, vs, rfl, e, r⟩ := r
    refine .inl (.inr ⟨p, vs, rfl, SqT.of e, fun ⟨z1, z2⟩ => ?_, fun _ p' hp => ?_⟩)
    · rw [r.length] at z1 z2
      rw [cutD_full z1 z2] at q
      refine q _ _ Step.refl g (.ref p) ?_
      simp only [RelD]
      exact ⟨p, vs, rfl, e, r⟩
    · obtain ⟨st2, g2⟩ := g.side (o := .tup (cutV vs l h)) hp
      refine q _ _ st2 g2 (.ref p') ?_
      simp only [RelD]
      exact ⟨p', _, rfl, upd_same, (cutD_rel r l h).step g st2⟩
  · rename_i z
    rw [e1, e2] at q
    simp only at q
    simp only [RelD] at r
    subst r
    split at q
    · rename_i hz
      exact .inr ⟨z, rfl, Nat.le_trans hz (by rw [sizeLine_eq]; decide), q _ _ Step.refl g _ (by simp [RelD])⟩
    · exact q.elim
  · rw [e1, e2] at q
    split at q
    · rename_i xs l' h' hx e1' e2'
      cases e1'; cases e2'
      obtain ⟨a, vs, rfl, sq, r⟩ := lstOf_rel g hx r
      exact .inl (.inl ⟨a, vs, rfl, sq, fun p hp => Aft.lst g q (cutD_rel r l h) hp⟩)
    · exact q.elim
def rBi (K : PySem.W.Frag) (CA : Str → Addr) (W : WX) (σ : Sl) (b : Bi) : List V → Hp → VK → Prop := fun vs H Q => ∃ S L xs, Good K CA S L H ∧ RelDs K L H xs vs ∧ Aft K CA W σ L H (biop b xs S) fun d _ L' H' => ∀ v, RelD K L' H' d v → Q v H'
theorem CallR.by_ {f : Value} {r r0 : List V → Hp → VK → Prop} (h : CallR X f r0) (m : ∀ x H Q, r x H Q → r0 x H Q) : CallR X f r := fun pins s σ H x u Q I rx q => h pins s σ H x u Q I rx (m _ _ _ q)
theorem one_rel {d : D} {vs : List V} (r : RelDs X.K L H [d] vs) : ∃ v, vs = [v] ∧ RelD X.K L H d v := by
  simp only [RelDs] at r
  obtain ⟨v, _, rfl, h, rfl⟩ := r
  exact ⟨v, rfl, h⟩
theorem two_rel {d d' : D} {vs : List V} (r : RelDs X.K L H [d, d'] vs) : ∃ v v', vs = [v, v'] ∧ RelD X.K L H d v ∧ RelD X.K L H d' v' := by
  simp only [RelDs] at r
  obtain ⟨v, _, rfl, h, v', _, rfl, h', rfl⟩ := r
  exact ⟨v, v', rfl, h, h'⟩
theorem intsOf_rel : ∀ {xs : List D} {is : List Int} {vs : List V}, intsOf xs = some is → RelDs X.K L H xs vs → vs = is.map V.int
  | [], is, vs, h, r => by
    simp only [intsOf, Option.some.injEq] at h; subst h
    simp only [RelDs] at r; subst r; rfl
  | x :: xs, is, vs, h, r => by
    cases x <;> simp only [intsOf] at h <;> try (cases h; done)
    split at h
    · rename_i is' h'
      cases h
      simp only [RelDs, RelD] at r
      obtain ⟨v, vr, rfl, rfl, r⟩ := r
      rw [intsOf_rel h' r]; rfl
    · cases h
def biV : Bi → Value
  | .len => .builtin "len"
  | .abs => .builtin "abs"
  | .int => .type "int"
  | .str => .type "str"
  | .list => .type "list"
  | .tuple => .type "tuple"
  | .sorted => .builtin "sorted"
  | .max => .builtin "max"
  | .min => .builtin "min"
theorem lenO_rel (g : Good X.K CA S L H) {d : D} {v : V} {n : Nat} (h : lenO S d = some n) (r : RelD X.K L H d v) : (∃ ys, seqOf S d = some ys ∧ ys.length = n) ∨ ∃ a kvs, v = .ref a ∧ H a = some (.dK kvs) ∧ kvs.length = n := by
  unfold lenO at h
  split at h
  · rename_i k
    split at h
    · rename_i kvs e
      cases h
      simp only [RelD] at r
      obtain ⟨a, hn, rfl⟩ := r
      obtain ⟨vs, e1, e2, e3⟩ := g.cell k _ a e hn
      exact .inr ⟨a, vs, rfl, e1, by simpa using congrArg List.length e2⟩
    · rename_i xs e
      cases h
      exact .inl ⟨xs, by simp [seqOf, getL, e], rfl⟩
    · cases h
  · simp only [Option.map_eq_some_iff] at h
    exact .inl h
theorem minL_ok : ∀ (l : List Int) (a m : Int), m ∈ a :: l → (∀ y ∈ a :: l, m ≤ y) → minL a l = m
  | [], a, m, h, _ => by simp at h; rw [h]; rfl
  | b :: r, a, m, h, hm => by
    unfold minL
    apply minL_ok r
    · simp only [List.mem_cons] at h ⊢
      have h1 := hm a (by simp)
      have h2 := hm b (by simp)
      rcases h with h | h | h
      · left; split <;> omega
      · left; split <;> omega
      · exact .inr h
    · intro y hy
      rcases List.mem_cons.mp hy with e | e
      · subst e
        have h1 := hm a (by simp)
        have h2 := hm b (by simp)
        split <;> assumption
      · exact hm y (by simp [e])
theorem maxL_ok : ∀ (l : List Int) (a m : Int), m ∈ a :: l → (∀ y ∈ a :: l, y ≤ m) → maxL a l = m
  | [], a, m, h, _ => by simp at h; rw [h]; rfl
  | b :: r, a, m, h, hm => by
    unfold maxL
    apply maxL_ok r
    · simp only [List.mem_cons] at h ⊢
      have h1 := hm a (by simp)
      have h2 := hm b (by simp)
      rcases h with h | h | h
      · left; split <;> omega
      · left; split <;> omega
      · exact .inr h
    · intro y hy
      rcases List.mem_cons.mp hy with e | e
      · subst e
        have h1 := hm a (by simp)
        have h2 := hm b (by simp)
        split <;> assumption
      · exact hm y (by simp [e])
theorem srt_uniq {is ns' : List Int} (hp : ns'.Perm is) (hs : ns'.Pairwise (· ≤ ·)) : ns' = is.mergeSort (fun a b => decide (a ≤ b)) := by
  refine List.Perm.eq_of_pairwise (le := fun a b : Int => a ≤ b) (fun a b _ _ h1 h2 => Int.le_antisymm h1 h2) hs ?_ (hp.trans (List.mergeSort_perm is _).symm)
  have := List.pairwise_mergeSort (le := fun a b : Int => decide (a ≤ b)) (fun a b c h1 h2 => by simp at h1 h2 ⊢; omega) (fun a b => by simp; omega) is
  exact this.imp fun h => by simpa using h
theorem intsK_keys : ∀ {kvs : List (Key × D)} {is : List Int}, intsK kvs = some is → kvs.map (·.1) = is.map Sum.inl
  | [], is, h => by simp only [intsK, Option.some.injEq] at h; subst h; rfl
  | (.inl i, d) :: r, is, h => by
    simp only [intsK, Option.map_eq_some_iff] at h
    obtain ⟨js, h, rfl⟩ := h
    simp [intsK_keys h]
  | (.inr s, d) :: r, is, h => by cases h
theorem ltCps_anti : ∀ a b : List Nat, PySem.Spec.ltCps a b = false → PySem.Spec.ltCps b a = false → a = b
  | [], [], _, _ => rfl
  | [], b :: bs, h, _ => by simp [PySem.Spec.ltCps] at h
  | a :: as, [], _, h => by simp [PySem.Spec.ltCps] at h
  | a :: as, b :: bs, h1, h2 => by
    simp [PySem.Spec.ltCps] at h1 h2
    have e : a = b := by omega
    subst e
    rw [ltCps_anti as bs (h1.2 rfl) (h2.2 rfl)]
theorem sort2_uniq {a b : Str} {ys : List Str} (hp : ys.Perm [a, b]) (hs : PyProof.Rows.sortedS ys = true) : sort2 a b = ys.map .str := by
  have hc : ys = [a, b] ∨ ys = [b, a] := ksk_perm2 hp
  have key : ∀ x y : Str, PyProof.Rows.sortedS [x, y] = true → PySem.Spec.ltCps y.cps.toList x.cps.toList = false := fun x y h => by
    have : (!(PySem.Spec.ltCps y.cps.toList x.cps.toList) && true) = true := h
    simpa using this
  unfold sort2
  rcases hc with rfl | rfl
  · have := key _ _ hs
    rw [this]; rfl
  · have h2 := key _ _ hs
    cases h1 : PySem.Spec.ltCps b.cps.toList a.cps.toList with
    | true => rfl
    | false =>
      have e := ltCps_anti _ _ h1 h2
      have : a = b := by
        cases a; cases b
        congr
        exact Array.toList_inj.mp e.symm
      subst this
      rfl
theorem RelDs.strs : ∀ {ss : List Str}, RelDs X.K L H (ss.map .str) (ss.map V.str)
  | [] => RelDs.nil
  | s :: ss => by
    rw [List.map_cons, List.map_cons]
    exact RelDs.cons (by simp [RelD]) RelDs.strs
theorem srt_ok (g : Good X.K CA S L H) {x : D} {v : V} {Q : VK} (r1 : RelD X.K L H x v) (q : Aft X.K CA W σ L H (srtR x S) fun d _ L' H' => ∀ v, RelD X.K L' H' d v → Q v H') : rSortedS X.K [v] H Q ∨ (∃ (a : Addr) (kvs : List (Key × V)) (ks : List Int), [v] = [.ref a] ∧ Rd H a (.dK kvs) ∧ kvs.map (·.1) = ks.map Sum.inl ∧ ks.length < 64 ∧ ∀ (ys : List Int) (p : Addr), ys.Perm ks → ys.Pairwise (· ≤ ·) → H p = none → Q (.ref p) (upd H p (.lst (ys.map V.int)))) := by
  unfold srtR at q
  split at q
  · rename_i n
    simp only [RelD] at r1
    obtain ⟨a, hn, rfl⟩ := r1
    split at q
    · rename_i kvs e
      split at q
      · rename_i is hi
        split at q
        · rename_i h64
          obtain ⟨vs, e1, e2, e3⟩ := g.cell n _ a e hn
          refine .inr ⟨a, vs, is, rfl, .inl e1, by rw [e2]; exact intsK_keys hi, h64, fun ys p hp hs hn => ?_⟩
          rw [srt_uniq hp hs]
          exact Aft.lst g q RelDs.ints hn
        · exact q.elim
      · exact q.elim
    · rename_i s1 s2 e
      have hg : getL S n = some ([s1, s2].map .str) := by unfold getL; rw [e]; rfl
      obtain ⟨vs, e1, rs⟩ := getL_rel g hg hn
      have ev : vs = [s1, s2].map V.str := by
        simp only [List.map_cons, List.map_nil, RelDs, RelD] at rs
        obtain ⟨v1, _, rfl, rfl, v2, _, rfl, rfl, rfl⟩ := rs
        rfl
      subst ev
      refine .inl ⟨a, [s1, s2], rfl, SqL.of e1, by simp, fun ys p hp hs hn => ?_⟩
      rw [sort2_uniq hp hs] at q
      exact Aft.lst g q RelDs.strs hn
    · exact q.elim
  · exact q.elim
theorem bi_ok (ok : Ok X CA G W C) (b : Bi) (hc : biOk C b = true) (σ : Sl) : CallR X (biV b) (rBi X.K CA W σ b) := by
  cases b
  · -- len
    refine CallR.by_ (CallR.or call_len call_lenD) ?_
    rintro vs H Q ⟨S, L, xs, g, r, q⟩
    unfold biop at q
    split at q <;> rename_i hb <;> try (first | exact q.elim | (cases hb; done))
    · obtain ⟨v, rfl, r1⟩ := one_rel r
      split at q
      · split at q
        · rename_i hz
          simp only [RelD] at r1; subst r1
          exact .inl ⟨_, _, rfl, ⟨Nat.le_of_lt (small hz), rfl⟩, Aft.int g q⟩
        · exact q.elim
      · split at q
        · rename_i hl
          rcases lenO_rel g hl r1 with ⟨ys, hy, e⟩ | ⟨a, kvs, e1, e2, e3⟩
          · obtain ⟨a, ws, rfl, sq, r⟩ := seqOf_rel g hy r1
            refine .inl ⟨_, ys.length, rfl, ?_, by rw [e]; exact Aft.int g q⟩
            rcases sq with sq | sq
            · exact .inl ⟨ws, sq, r.length.symm⟩
            · exact .inr ⟨ws, sq, r.length.symm⟩
          · subst e1
            refine .inr ⟨a, kvs, rfl, e2, ?_⟩
            rw [e3]
            exact Aft.int g q
        · exact q.elim
  · -- abs
    refine CallR.by_ call_abs ?_
    rintro vs H Q ⟨S, L, xs, g, r, q⟩
    unfold biop at q
    split at q <;> rename_i hb <;> try (first | exact q.elim | (cases hb; done))
    obtain ⟨v, rfl, r1⟩ := one_rel r
    simp only [RelD] at r1; subst r1
    exact ⟨_, rfl, Aft.int g q⟩
  · -- int
    refine CallR.by_ call_int1 ?_
    rintro vs H Q ⟨S, L, xs, g, r, q⟩
    unfold biop at q
    split at q <;> rename_i hb <;> try (first | exact q.elim | (cases hb; done))
    · obtain ⟨v, rfl, r1⟩ := one_rel r
      simp only [RelD] at r1; subst r1
      exact .inl ⟨_, rfl, Aft.int g q⟩
    · obtain ⟨v, rfl, r1⟩ := one_rel r
      simp only [RelD] at r1; subst r1
      exact .inr ⟨_, rfl, Aft.int g q⟩
  · -- str
    refine CallR.by_ call_str_int ?_
    rintro vs H Q ⟨S, L, xs, g, r, q⟩
    unfold biop at q
    split at q <;> rename_i hb <;> (first | exact q.elim | (cases hb; done))
  · -- list
    refine CallR.by_ call_list_of ?_
    rintro vs H Q ⟨S, L, xs, g, r, q⟩
    unfold biop at q
    split at q <;> rename_i hb <;> try (first | exact q.elim | (cases hb; done))
    obtain ⟨v, rfl, r1⟩ := one_rel r
    split at q
    · rename_i ys hy
      obtain ⟨a, ws, rfl, sq, r⟩ := seqOf_rel g hy r1
      exact ⟨a, ws, rfl, sq, fun p hp => Aft.lst g q r hp⟩
    · exact q.elim
  · -- tuple
    refine CallR.by_ call_tuple_of ?_
    rintro vs H Q ⟨S, L, xs, g, r, q⟩
    unfold biop at q
    split at q <;> rename_i hb <;> try (first | exact q.elim | (cases hb; done))
    obtain ⟨v, rfl, r1⟩ := one_rel r
    split at q
    · simp only [RelD] at r1
      obtain ⟨a, ws, rfl, sq, r⟩ := r1
      refine ⟨a, ws, rfl, .inr ⟨SqT.of sq, Aft.now g q ?_⟩⟩
      simp only [RelD]
      exact ⟨a, ws, rfl, sq, r⟩
    · split at q
      · rename_i ys hy
        obtain ⟨a, ws, rfl, sq, r⟩ := lstOf_rel g hy r1
        refine ⟨a, ws, rfl, .inl ⟨sq, fun p hp => ?_⟩⟩
        obtain ⟨st, g1⟩ := g.side (o := .tup ws) hp
        refine q _ _ st g1 (.ref p) ?_
        simp only [RelD]
        exact ⟨p, ws, rfl, upd_same, RelDs.step g st r⟩
      · exact q.elim
  · -- sorted
    refine CallR.by_ (CallR.or cr_sorted (CallR.or cr_sortedS (call_sortedDI (ok.calm hc)))) ?_
    rintro vs H Q ⟨S, L, xs, g, r, q⟩
    unfold biop at q
    split at q <;> rename_i hb <;> try (first | exact q.elim | (cases hb; done))
    obtain ⟨v, rfl, r1⟩ := one_rel r
    split at q
    · rename_i ys hy
      split at q
      · rename_i is hi
        split at q
        · rename_i h64
          obtain ⟨a, ws, rfl, sq, r⟩ := lstOf_rel g hy r1
          have ew := intsOf_rel hi r
          subst ew
          refine .inl ⟨a, is, rfl, sq, h64, fun ns' p hp hs hn => ?_⟩
          rw [srt_uniq hp hs]
          exact Aft.lst g q RelDs.ints hn
        · exact q.elim
      · exact .inr (srt_ok g r1 q)
    · exact .inr (srt_ok g r1 q)
  · -- max
    refine CallR.by_ (CallR.or (call_max2 (ok.calm hc)) (cr_max (ok.calm hc))) ?_
    rintro vs H Q ⟨S, L, xs, g, r, q⟩
    unfold biop at q
    split at q <;> rename_i hb <;> try (first | exact q.elim | (cases hb; done))
    · obtain ⟨v, v', rfl, r1, r2⟩ := two_rel r
      simp only [RelD] at r1 r2; subst r1 r2
      exact .inl ⟨_, _, rfl, Aft.int g q⟩
    · obtain ⟨v, rfl, r1⟩ := one_rel r
      split at q
      · rename_i ys hy
        split at q
        · rename_i a is hi
          obtain ⟨b, ws, rfl, sq, r⟩ := lstOf_rel g hy r1
          have ew := intsOf_rel hi r
          subst ew
          refine .inr ⟨b, a :: is, rfl, sq, by simp, fun m hm hmin => ?_⟩
          rw [← maxL_ok is a m hm hmin]
          exact Aft.int g q
        · exact q.elim
      · exact q.elim
  · -- min
    refine CallR.by_ (CallR.or (call_min2 (ok.calm hc)) (cr_min (ok.calm hc))) ?_
    rintro vs H Q ⟨S, L, xs, g, r, q⟩
    unfold biop at q
    split at q <;> rename_i hb <;> try (first | exact q.elim | (cases hb; done))
    · obtain ⟨v, v', rfl, r1, r2⟩ := two_rel r
      simp only [RelD] at r1 r2; subst r1 r2
      exact .inl ⟨_, _, rfl, Aft.int g q⟩
    · obtain ⟨v, rfl, r1⟩ := one_rel r
      split at q
      · rename_i ys hy
        split at q
        · rename_i a is hi
          obtain ⟨b, ws, rfl, sq, r⟩ := lstOf_rel g hy r1
          have ew := intsOf_rel hi r
          subst ew
          refine .inr ⟨b, a :: is, rfl, sq, by simp, fun m hm hmin => ?_⟩
          rw [← minL_ok is a m hm hmin]
          exact Aft.int g q
        · exact q.elim
      · exact q.elim
end
end Lt
set_option maxHeartbeats 1000000
namespace Lt
open PySem PySem.Spec PyProof.Rows L2
section
variable {X : Cx} {CA : Str → Addr} {G : Cxp} {W : WX} {C : MC} {S S' : Store} {L L1 M2 L' : List Addr} {H H1 H2 H' : Hp} {σ : Sl} {e : Expr}
theorem vis_of {sc : Scope} {x : Str} (h : visB sc x = true) : Vis sc x := by
  unfold visB at h
  split at h
  · exact .inl (by assumption)
  · exact .inr (.inl (by assumption))
  · exact .inr (.inr (by assumption))
  · cases h
theorem loc_of {sc : Scope} {x : Str} (h : locB sc x = true) : sc.names.lookup x = some .local := by
  unfold locB at h
  split at h
  · assumption
  · cases h
theorem cel_of {sc : Scope} {x : Str} (h : celB sc x = true) : sc.names.lookup x = some .cell := by
  unfold celB at h
  split at h
  · assumption
  · cases h
theorem gl_of (ok : Ok X CA G W C) {x : Str} (h : gloB C.sc x = true) : Gl X x := by
  unfold gloB at h
  show X.env.scope.names.lookup x = _
  rw [ok.sc]
  split at h
  · assumption
  · cases h
theorem slot_of {i : Nat} {x : Str} (h : slotB C i x = true) : C.N[i]? = some x := by
  unfold slotB at h
  split at h
  · rename_i y e
    rw [e, of_decide_eq_true h]
  · cases h
theorem nm_of {x : Str} (h : nmOk x = true) : (x == ("__debug__" : Str)) = false ∧ (x == ("__classdict__" : Str)) = false := by
  unfold nmOk at h
  obtain ⟨a, b⟩ := ba h
  simpa using And.intro a b
theorem star_of (h : notSt e = true) (es : List Expr) (env : PySem.Env) : starEach (e :: es) env = (false, eval e env) :: starEach es env := by
  cases e <;> first | rfl | (exact absurd h Bool.false_ne_true)
theorem mEs_cons {x : Ex} {xs : List Ex} {es : List Expr} (h : mEs (x :: xs) C es = true) : ∃ e r, es = e :: r ∧ notSt e = true ∧ mE x C e = true ∧ mEs xs C r = true := by
  cases es with
  | nil => simp only [mEs] at h; cases h
  | cons e r =>
    simp only [mEs, Bool.and_eq_true] at h
    exact ⟨e, r, rfl, h.1.1, h.1.2, h.2⟩
theorem mEs_nil {es : List Expr} (h : mEs [] C es = true) : es = [] := by
  cases es with
  | nil => rfl
  | cons e r => simp only [mEs] at h; cases h
theorem stars_ok : ∀ {xs : List Ex} {es : List Expr}, mEs xs C es = true → ∀ (pos : Pos) (env : PySem.Env), (backTo pos (starEach es env)).any (·.1) = false
  | [], es, h, _, _ => by rw [mEs_nil h]; rfl
  | x :: xs, es, h, pos, env => by
    obtain ⟨e, r, rfl, h1, _, h2⟩ := mEs_cons h
    rw [star_of h1]
    have ih := stars_ok h2 pos env
    simpa [backTo] using ih
theorem s_var (ok : Ok X CA G W C) {i : Nat} {x : Str} {p : Pos} (h1 : slotB C i x = true) (h2 : visB C.sc x = true) (h3 : nmOk x = true) : PE X (.Name x p) (tE X.K CA G W (.var i)) := by
  obtain ⟨d1, d2⟩ := nm_of h3
  refine PE.by_ (pe_var (i := i) (by rw [ok.nm]; exact slot_of h1) (by rw [ok.sc]; exact vis_of h2) d1 d2) ?_
  rintro σ H Q ⟨S, L, env, g, er, q⟩
  simp only [ev] at q
  split at q
  · rename_i d hd
    obtain ⟨v, e1, r⟩ := er.has i d hd
    exact ⟨v, e1, Aft.now g q r⟩
  · exact q.elim
theorem s_glo (ok : Ok X CA G W C) {x : Str} {p : Pos} (h1 : gloB C.sc x = true) (h3 : nmOk x = true) : PE X (.Name x p) (tE X.K CA G W (.glo x)) := by
  obtain ⟨d1, d2⟩ := nm_of h3
  cases e : G.glo x with
  | none =>
    refine ⟨fun pins s σ H Q I q => ?_⟩
    obtain ⟨S, L, env, g, er, q⟩ := q
    simp only [ev, e] at q
    exact q.elim
  | some d =>
    obtain ⟨v, u, hm, rv, r⟩ := ok.glo x d e
    refine PE.by_ (pe_glob (gl_of ok h1) hm rv d1) ?_
    rintro σ H Q ⟨S, L, env, g, er, q⟩
    simp only [ev, e] at q
    exact Aft.now g q (r L H)
theorem s_bin {op : Op} {o : Operator} {a b : Ex} {l r : Expr} {p : Pos} (h : opB op o = true) (ha : PE X l (tE X.K CA G W a)) (hb : PE X r (tE X.K CA G W b)) : PE X (.BinOp l o r p) (tE X.K CA G W (.bin op a b)) := by
  refine ⟨fun pins s σ H Q I q => (pe_op (bin_ok (CA := CA) (W := W) h σ) ha hb).run pins s σ H Q I ?_⟩
  obtain ⟨S, L, env, g, er, q⟩ := q
  simp only [ev] at q
  exact tE.seq g er q fun d1 S1 L1 H1 v1 st1 g1 er1 r1 q1 => tE.seq g1 er1 q1 fun d2 S2 L2 H2 v2 st2 g2 er2 r2 q2 => ⟨S2, L2, d1, d2, g2, r1.step g1 st2, r2, q2⟩
theorem cmI_of {op : Cm} {o : CmpOp} (h : cmB op o = true) : cmI op o = true := by
  cases op <;> cases o <;> first | rfl | (cases h; done)
theorem nomark2 {op : CmpOp} (b : Expr) (h : notSet b = true) : behindInMarks op b = false := by
  cases b <;> first | rfl | (cases h; done)
theorem s_cmp (ok : Ok X CA G W C) {op : Cm} {o : CmpOp} {a b : Ex} {l r : Expr} {p : Pos} (h : cmI op o = true) (hs : notSet r = true) (ha : PE X l (tE X.K CA G W a)) (hb : PE X r (tE X.K CA G W b)) :
    PE X (.Compare l [o] [r] p) (tE X.K CA G W (.cmp op a b)) ∧ PT X (.Compare l [o] [r] p) (tT X.K CA G W (.cmp op a b)) := by
  have hm : behindInMarks o r = false := nomark2 r hs
  refine ⟨⟨fun pins s σ H Q I q => (pe_cmpR (cmp_ok (W := W) ok h σ) ha hb hm).run pins s σ H Q I ?_⟩, ⟨fun pins s σ H Q I q => (pt_cmpR (cmp_ok (W := W) ok h σ) ha hb hm).run pins s σ H Q I ?_⟩⟩
  · obtain ⟨S, L, env, g, er, q⟩ := q
    simp only [ev] at q
    exact tE.seq g er q fun d1 S1 L1 H1 v1 st1 g1 er1 r1 q1 => tE.seq g1 er1 q1 fun d2 S2 L2 H2 v2 st2 g2 er2 r2 q2 => ⟨S2, L2, d1, d2, g2, r1.step g1 st2, r2, q2⟩
  · obtain ⟨S, L, env, g, er, q⟩ := q
    simp only [ev] at q
    refine tE.seq g er q fun d1 S1 L1 H1 v1 st1 g1 er1 r1 q1 => tE.seq g1 er1 q1 fun d2 S2 L2 H2 v2 st2 g2 er2 r2 q2 => ⟨S2, L2, d1, d2, g2, r1.step g1 st2, r2, q2.mono fun d S3 L3 H3 z v r => ?_⟩
    obtain ⟨b, rfl, z⟩ := z
    simp only [RelD] at r
    exact ⟨b, r, z⟩
/-- an expression whose value is a bool, as a test -/
theorem s_val {x : Ex} (h : PE X e (tE X.K CA G W x)) (he : ∀ whole, isTrue e X.env whole = (do let v ← whole; standAt e.pos; PySem.holding [v] (truthy v))) : PT X e (tT X.K CA G W x) := by
  refine PT.by_ (pt_val h he) ?_
  rintro σ H Q ⟨S, L, env, g, er, q⟩
  refine ⟨S, L, env, g, er, q.mono fun d S3 L3 H3 z v r => ?_⟩
  obtain ⟨b, rfl, z⟩ := z
  simp only [RelD] at r
  exact ⟨b, r, z⟩
theorem s_neg {a : Ex} {l : Expr} {p : Pos} (ha : PE X l (tE X.K CA G W a)) : PE X (.UnaryOp .USub l p) (tE X.K CA G W (.neg a)) := by
  refine PE.by_ (pe_un un_neg ha) ?_
  rintro σ H Q ⟨S, L, env, g, er, q⟩
  simp only [ev] at q
  refine tE.seq g er q fun d S1 L1 H1 v st g1 er1 r q1 => ?_
  split at q1
  · simp only [RelD] at r; subst r
    exact ⟨_, rfl, Aft.int g1 q1⟩
  · exact q1.elim
theorem s_not {a : Ex} {l : Expr} {p : Pos} (ha : PE X l (tE X.K CA G W a)) : PE X (.UnaryOp .Not l p) (tE X.K CA G W (.not a)) := by
  refine PE.by_ (pe_not ha) ?_
  rintro σ H Q ⟨S, L, env, g, er, q⟩
  simp only [ev] at q
  refine tE.seq g er q fun d S1 L1 H1 v st g1 er1 r q1 => ?_
  split at q1
  · simp only [RelD] at r; subst r
    exact ⟨_, rfl, Aft.bl g1 q1⟩
  · exact q1.elim
theorem t_not {a : Ex} {l : Expr} {p : Pos} (ha : PT X l (tT X.K CA G W a)) : PT X (.UnaryOp .Not l p) (tT X.K CA G W (.not a)) := by
  refine PT.by_ (pt_not ha) ?_
  rintro σ H Q ⟨S, L, env, g, er, q⟩
  simp only [ev] at q
  refine ⟨S, L, env, g, er, q.bind.mono fun d S1 L1 H1 ⟨st, g1, q1⟩ => ?_⟩
  split at q1
  · obtain ⟨b, e, z⟩ := q1 L1 H1 Step.refl g1
    cases e
    exact ⟨_, rfl, z⟩
  · exact q1.elim
theorem s_and {a b : Ex} {l r : Expr} {rest : List Expr} {p : Pos} (ha : PE X l (tE X.K CA G W a)) (hb : PE X (.BoolOp .And (r :: rest) p) (tE X.K CA G W b)) : PE X (.BoolOp .And (l :: r :: rest) p) (tE X.K CA G W (.and a b)) := by
  refine PE.by_ (pe_and ha hb) ?_
  rintro σ H Q ⟨S, L, env, g, er, q⟩
  simp only [ev] at q
  refine tE.seq g er q fun d S1 L1 H1 v st g1 er1 r q1 => ?_
  split at q1
  · simp only [RelD] at r; subst r
    exact ⟨true, rfl, iteT (⟨S1, L1, env, g1, er1, q1⟩)⟩
  · simp only [RelD] at r; subst r
    exact ⟨false, rfl, iteF (Aft.bl g1 q1)⟩
  · exact q1.elim
theorem s_or {a b : Ex} {l r : Expr} {rest : List Expr} {p : Pos} (ha : PE X l (tE X.K CA G W a)) (hb : PE X (.BoolOp .Or (r :: rest) p) (tE X.K CA G W b)) : PE X (.BoolOp .Or (l :: r :: rest) p) (tE X.K CA G W (.or a b)) := by
  refine PE.by_ (pe_or ha hb) ?_
  rintro σ H Q ⟨S, L, env, g, er, q⟩
  simp only [ev] at q
  refine tE.seq g er q fun d S1 L1 H1 v st g1 er1 r q1 => ?_
  split at q1
  · simp only [RelD] at r; subst r
    exact ⟨true, rfl, iteT (Aft.bl g1 q1)⟩
  · simp only [RelD] at r; subst r
    exact ⟨false, rfl, iteF (⟨S1, L1, env, g1, er1, q1⟩)⟩
  · exact q1.elim
theorem t_and {a b : Ex} {l r : Expr} {rest : List Expr} {p : Pos} (ha : PT X l (tT X.K CA G W a)) (hb : PW X (.BoolOp .And (r :: rest) p) (tT X.K CA G W b)) : PW X (.BoolOp .And (l :: r :: rest) p) (tT X.K CA G W (.and a b)) := by
  refine ⟨fun wh pins s σ H Q I q => (pw_and ha hb).run wh pins s σ H Q I ?_⟩
  obtain ⟨S, L, env, g, er, q⟩ := q
  simp only [ev] at q
  refine ⟨S, L, env, g, er, q.bind.mono fun d S1 L1 H1 ⟨st, g1, q1⟩ => ?_⟩
  split at q1
  · exact ⟨true, rfl, iteT (⟨S1, L1, env, g1, er.step g st, q1⟩)⟩
  · obtain ⟨b, e, z⟩ := q1 L1 H1 Step.refl g1
    cases e
    exact ⟨false, rfl, iteF (z)⟩
  · exact q1.elim
theorem t_or {a b : Ex} {l r : Expr} {rest : List Expr} {p : Pos} (ha : PT X l (tT X.K CA G W a)) (hb : PW X (.BoolOp .Or (r :: rest) p) (tT X.K CA G W b)) : PW X (.BoolOp .Or (l :: r :: rest) p) (tT X.K CA G W (.or a b)) := by
  refine ⟨fun wh pins s σ H Q I q => (pw_or ha hb).run wh pins s σ H Q I ?_⟩
  obtain ⟨S, L, env, g, er, q⟩ := q
  simp only [ev] at q
  refine ⟨S, L, env, g, er, q.bind.mono fun d S1 L1 H1 ⟨st, g1, q1⟩ => ?_⟩
  split at q1
  · obtain ⟨b, e, z⟩ := q1 L1 H1 Step.refl g1
    cases e
    exact ⟨true, rfl, iteT (z)⟩
  · exact ⟨false, rfl, iteF (⟨S1, L1, env, g1, er.step g st, q1⟩)⟩
  · exact q1.elim
theorem isN_rel {d : D} {v : V} (r : RelD X.K L H d v) : decide (v = V.non) = isN d := by
  cases d with
  | non => simp only [RelD] at r; subst r; rfl
  | tup xs => simp only [RelD] at r; obtain ⟨p, vs, rfl, _⟩ := r; rfl
  | frl xs => simp only [RelD] at r; obtain ⟨p, vs, rfl, _⟩ := r; rfl
  | frt xs => simp only [RelD] at r; obtain ⟨p, vs, rfl, _⟩ := r; rfl
  | ref n => simp only [RelD] at r; obtain ⟨p, _, rfl⟩ := r; rfl
  | bl b => simp only [RelD] at r; subst r; rfl
  | int b => simp only [RelD] at r; subst r; rfl
  | str b => simp only [RelD] at r; subst r; rfl
theorem s_isN {a : Ex} {l : Expr} {k : Nat} {p p2 : Pos} (ha : PE X l (tE X.K CA G W a)) :
    PE X (.Compare l [.Is] [.Constant .none k p2] p) (tE X.K CA G W (.isN a)) ∧ PT X (.Compare l [.Is] [.Constant .none k p2] p) (tT X.K CA G W (.isN a)) := by
  refine ⟨PE.by_ (pe_cmpR op_isN ha pe_non rfl) ?_, PT.by_ (pt_cmpR op_isN ha pe_non rfl) ?_⟩
  · rintro σ H Q ⟨S, L, env, g, er, q⟩
    simp only [ev] at q
    refine tE.seq g er q fun d S1 L1 H1 v st g1 er1 r q1 => ⟨rfl, ?_⟩
    rw [isN_rel r]; exact Aft.bl g1 q1
  · rintro σ H Q ⟨S, L, env, g, er, q⟩
    simp only [ev] at q
    refine tE.seq g er q fun d S1 L1 H1 v st g1 er1 r q1 => ⟨rfl, ?_⟩
    rw [isN_rel r]
    obtain ⟨b, e, z⟩ := q1 L1 H1 Step.refl g1
    cases e
    exact ⟨_, rfl, z⟩
theorem s_ntN {a : Ex} {l : Expr} {k : Nat} {p p2 : Pos} (ha : PE X l (tE X.K CA G W a)) :
    PE X (.Compare l [.IsNot] [.Constant .none k p2] p) (tE X.K CA G W (.ntN a)) ∧ PT X (.Compare l [.IsNot] [.Constant .none k p2] p) (tT X.K CA G W (.ntN a)) := by
  refine ⟨PE.by_ (pe_cmpR op_notN ha pe_non rfl) ?_, PT.by_ (pt_cmpR op_notN ha pe_non rfl) ?_⟩
  · rintro σ H Q ⟨S, L, env, g, er, q⟩
    simp only [ev] at q
    refine tE.seq g er q fun d S1 L1 H1 v st g1 er1 r q1 => ⟨rfl, ?_⟩
    rw [isN_rel r]; exact Aft.bl g1 q1
  · rintro σ H Q ⟨S, L, env, g, er, q⟩
    simp only [ev] at q
    refine tE.seq g er q fun d S1 L1 H1 v st g1 er1 r q1 => ⟨rfl, ?_⟩
    rw [isN_rel r]
    obtain ⟨b, e, z⟩ := q1 L1 H1 Step.refl g1
    cases e
    exact ⟨_, rfl, z⟩
theorem s_ife {c a b : Ex} {t l r : Expr} {p : Pos} (hc : PT X t (tT X.K CA G W c)) (ha : PE X l (tE X.K CA G W a)) (hb : PE X r (tE X.K CA G W b)) : PE X (.IfExp t l r p) (tE X.K CA G W (.ife c a b)) := by
  refine PE.by_ (pe_ifExp hc ha hb) ?_
  rintro σ H Q ⟨S, L, env, g, er, q⟩
  simp only [ev] at q
  refine ⟨S, L, env, g, er, q.bind.mono fun d S1 L1 H1 ⟨st, g1, q1⟩ => ?_⟩
  split at q1
  · exact ⟨true, rfl, iteT (⟨S1, L1, env, g1, er.step g st, q1⟩)⟩
  · exact ⟨false, rfl, iteF (⟨S1, L1, env, g1, er.step g st, q1⟩)⟩
  · exact q1.elim
theorem s_chn (ok : Ok X CA G W C) {o1 o2 : Cm} {p1 p2 : CmpOp} {a b c : Ex} {l m r : Expr} {p : Pos} (h1 : cmB o1 p1 = true) (h2 : cmB o2 p2 = true) (ha : PE X l (tE X.K CA G W a)) (hb : PE X m (tE X.K CA G W b)) (hc : PE X r (tE X.K CA G W c)) :
    PE X (.Compare l [p1, p2] [m, r] p) (tE X.K CA G W (.chn o1 o2 a b c)) ∧ PT X (.Compare l [p1, p2] [m, r] p) (tT X.K CA G W (.chn o1 o2 a b c)) := by
  have hm : lastMarks [p1, p2] [m, r] = false := nomark r (by intro z; subst z; cases o2 <;> cases h2) (by intro z; subst z; cases o2 <;> cases h2)
  have core : ∀ (σ : Sl) (H : Hp) (P : D → Store → List Addr → Hp → Prop) (Q : VK), (∃ S L env, Good X.K CA S L H ∧ EnvR X.K G.pin L H env σ ∧ Aft X.K CA W σ L H (ev G (.chn o1 o2 a b c) env S) P) → (∀ d S' L' H' v, P d S' L' H' → RelD X.K L' H' d v → Q v H') →
      tChain (rBin X.K CA W σ (cmpop o1)) (rBin X.K CA W σ (cmpop o2)) (tE X.K CA G W a) (tE X.K CA G W b) (tE X.K CA G W c) σ H Q := by
    rintro σ H P Q ⟨S, L, env, g, er, q⟩ hP
    simp only [ev] at q
    refine tE.seq g er q fun d1 S1 L1 H1 v1 st1 g1 er1 r1 q1 => tE.seq g1 er1 q1 fun d2 S2 L2 H2 v2 st2 g2 er2 r2 q2 => ⟨S2, L2, d1, d2, g2, r1.step g1 st2, r2, q2.bind.mono fun k S3 L3 H3 ⟨st3, g3, q3⟩ v r => ?_⟩
    split at q3
    · simp only [RelD] at r; subst r
      refine ⟨true, rfl, ?_⟩
      rw [if_pos rfl]
      exact tE.seq g3 (er2.step g2 st3) q3 fun d4 S4 L4 H4 v4 st4 g4 er4 r4 q4 => ⟨S4, L4, d2, d4, g4, (r2.step g2 st3).step g3 st4, r4, q4.mono fun d S5 L5 H5 z v r => hP _ _ _ _ _ z r⟩
    · simp only [RelD] at r; subst r
      refine ⟨false, rfl, ?_⟩
      rw [if_neg Bool.false_ne_true]
      exact hP _ _ _ _ _ (q3 L3 H3 Step.refl g3) (by simp [RelD])
    · exact q3.elim
  refine ⟨⟨fun pins s σ H Q I q => (pe_chain (cmp_ok (W := W) ok (cmI_of h1) σ) (cmp_ok (W := W) ok (cmI_of h2) σ) ha hb hc hm).run pins s σ H Q I ?_⟩, ⟨fun pins s σ H Q I q => (pt_chain (cmp_ok (W := W) ok (cmI_of h1) σ) (cmp_ok (W := W) ok (cmI_of h2) σ) ha hb hc hm).run pins s σ H Q I ?_⟩⟩
  · exact core σ H _ Q q fun d S' L' H' v z r => z v r
  · refine core σ H _ _ q fun d S' L' H' v z r => ?_
    obtain ⟨b, rfl, z⟩ := z
    simp only [RelD] at r
    exact ⟨b, r, z⟩
theorem s_nil : PA X [] (tEs X.K CA G W []) := by
  refine PA.by_ pa_nil ?_
  rintro σ H Q ⟨S, L, env, g, er, q⟩
  simp only [evs] at q
  exact q L H Step.refl g [] RelDs.nil
theorem s_cons {a : Ex} {xs : List Ex} {es : List Expr} (ha : PE X e (tE X.K CA G W a)) (hs : PA X es (tEs X.K CA G W xs)) (st : starEach (e :: es) X.env = (false, eval e X.env) :: starEach es X.env) : PA X (e :: es) (tEs X.K CA G W (a :: xs)) := by
  refine PA.by_ (pa_cons ha hs st) ?_
  rintro σ H Q ⟨S, L, env, g, er, q⟩
  simp only [evs] at q
  exact tE.seq g er q fun d S1 L1 H1 v st g1 er1 r q1 => tEs.seq g1 er1 q1 fun ds S2 L2 H2 vs st2 g2 er2 rs q2 => q2 L2 H2 Step.refl g2 _ (RelDs.cons (r.step g1 st2) rs)
theorem evs_length : ∀ (xs : List Ex) {env : Env} {S S' : Store} {ds : List D}, evs G xs env S = .ok ds S' → ds.length = xs.length
  | [], env, S, S', ds, h => by simp only [evs, R.ok.injEq] at h; rw [← h.1]; rfl
  | x :: xs, env, S, S', ds, h => by
    simp only [evs] at h
    cases h1 : ev G x env S with
    | bad => rw [h1] at h; cases h
    | exc c S1 => rw [h1] at h; cases h
    | ok d S1 =>
      rw [h1] at h
      simp only [R.bind] at h
      cases h2 : evs G xs env S1 with
      | bad => rw [h2] at h; cases h
      | exc c S2 => rw [h2] at h; cases h
      | ok ds2 S2 =>
        rw [h2] at h
        simp only [R.ok.injEq] at h
        rw [← h.1, List.length_cons, evs_length xs h2, List.length_cons]
theorem Aft.len {xs : List Ex} {env : Env} {P : List D → Store → List Addr → Hp → Prop} (h : Aft X.K CA W σ L H (evs G xs env S) P) : Aft X.K CA W σ L H (evs G xs env S) fun ds S' L' H' => ds.length = xs.length ∧ P ds S' L' H' := by
  cases e : evs G xs env S with
  | bad => rw [e] at h; exact h
  | exc c S1 => rw [e] at h; exact h
  | ok ds S1 =>
    rw [e] at h
    exact fun L' H' st g => ⟨evs_length xs e, h L' H' st g⟩
theorem s_tup {xs : List Ex} {es : List Expr} {k : Nat} {p : Pos} (h : PA X es (tEs X.K CA G W xs)) (hl : xs.length ≤ lim) : PE X (.Tuple es k p) (tE X.K CA G W (.tup xs)) := by
  refine PE.by_ (pe_tup h) ?_
  rintro σ H Q ⟨S, L, env, g, er, q⟩
  simp only [ev] at q
  refine ⟨S, L, env, g, er, q.bind.len.mono fun ds S1 L1 H1 ⟨hlen, st, g1, q1⟩ vs r => ⟨by rw [r.length, hlen]; exact Nat.le_of_lt (small hl), fun p hp => ?_⟩⟩
  obtain ⟨st2, g2⟩ := g1.side (o := .tup vs) hp
  refine q1 _ _ st2 g2 (.ref p) ?_
  simp only [RelD]
  exact ⟨p, vs, rfl, upd_same, r.step g1 st2⟩
theorem s_lst {xs : List Ex} {es : List Expr} {p : Pos} (h : PA X es (tEs X.K CA G W xs)) (hl : xs.length ≤ lim) : PE X (.List es p) (tE X.K CA G W (.lst xs)) := by
  refine PE.by_ (pe_lst h) ?_
  rintro σ H Q ⟨S, L, env, g, er, q⟩
  simp only [ev] at q
  exact ⟨S, L, env, g, er, q.bind.len.mono fun ds S1 L1 H1 ⟨hlen, st, g1, q1⟩ vs r => ⟨by rw [r.length, hlen]; exact Nat.le_of_lt (small hl), fun p hp => Aft.lst g1 q1 r hp⟩⟩
theorem s_idx {a i : Ex} {l s : Expr} {p : Pos} (hs : notSl s = true) (ha : PE X l (tE X.K CA G W a)) (hb : PE X s (tE X.K CA G W i)) : PE X (.Subscript l s p) (tE X.K CA G W (.idx a i)) := by
  have hp : PlainIx s := by
    intro o i
    cases s <;> first | rfl | (exact absurd hs Bool.false_ne_true)
  refine ⟨fun pins s σ H Q I q => (pe_ix (ix_ok (CA := CA) (W := W) σ) ha hb hp).run pins s σ H Q I ?_⟩
  obtain ⟨S, L, env, g, er, q⟩ := q
  simp only [ev] at q
  exact tE.seq g er q fun d1 S1 L1 H1 v1 st1 g1 er1 r1 q1 => tE.seq g1 er1 q1 fun d2 S2 L2 H2 v2 st2 g2 er2 r2 q2 => ⟨S2, L2, d1, d2, g2, r1.step g1 st2, r2, q2⟩
theorem intO_some {d : D} {l : Option Int} (h : intO (some d) = some l) : ∃ i, d = .int i ∧ l = some i := by
  cases d <;> simp [intO] at h
  exact ⟨_, rfl, h.symm⟩
theorem slice_ints {x : D} {lo hi : Option D} {P : D → Store → List Addr → Hp → Prop} (q : Aft X.K CA W σ L H (slice x lo hi S) P) : ∃ l h, intO lo = some l ∧ intO hi = some h := by
  unfold slice at q
  split at q
  · split at q
    · rename_i l h e1 e2; exact ⟨l, h, e1, e2⟩
    · exact q.elim
  · split at q
    · rename_i l h e1 e2; exact ⟨l, h, e1, e2⟩
    · exact q.elim
  · split at q
    · rename_i xs l h _ e1 e2; exact ⟨l, h, e1, e2⟩
    · exact q.elim
theorem s_slT {a b : Ex} {l r : Expr} {p p2 : Pos} (ha : PE X l (tE X.K CA G W a)) (hb : PE X r (tE X.K CA G W b)) : PE X (.Subscript l (.Slice none (some r) none p2) p) (tE X.K CA G W (.slT a b)) := by
  refine ⟨fun pins s σ H Q I q => ?_⟩
  obtain ⟨S, L, env, g, er, q⟩ := q
  simp only [ev] at q
  have key : tE X.K CA G W a σ H fun x H1 => tNoPart σ H1 fun lo H2 => tPart (tE X.K CA G W b) σ H2 fun hi H3 => ∃ S L dx d2, Good X.K CA S L H3 ∧ RelD X.K L H3 dx x ∧ intO none = some lo ∧ intO (some d2) = some hi ∧ Aft X.K CA W σ L H3 (slice dx none (some d2) S) fun d _ L' H' => ∀ v, RelD X.K L' H' d v → Q v H' := by
    refine tE.seq g er q fun d1 S1 L1 H1 v1 st1 g1 er1 r1 q1 => tE.seq g1 er1 q1 fun d2 S2 L2 H2 v2 st2 g2 er2 r2 q2 => ?_
    obtain ⟨lo, hi, e1, e2⟩ := slice_ints q2
    obtain ⟨i, rfl, rfl⟩ := intO_some e2
    simp only [RelD] at r2
    cases e1
    exact ⟨i, r2, S2, L2, d1, .int i, g2, r1.step g1 st2, rfl, rfl, q2⟩
  have big : SlR X (fun vx lo hi H Q => ∃ S L dx d2, Good X.K CA S L H ∧ RelD X.K L H dx vx ∧ intO none = some lo ∧ intO (some d2) = some hi ∧ Aft X.K CA W σ L H (slice dx none (some d2) S) fun d _ L' H' => ∀ v, RelD X.K L' H' d v → Q v H') := by
    intro pins s σ' H x v vl vu lo hi sl Q I rx hs pl pu q
    obtain ⟨S, L, dx, d2, q⟩ := q
    exact sl_ok (CA := CA) (W := W) (lo := none) (hi := some d2) σ pins s σ' H x v vl vu lo hi sl Q I rx hs pl pu ⟨S, L, dx, q⟩
  exact (pe_slice big ha po_none (po_some hb)).run pins s σ H Q I key
theorem s_slF {a b : Ex} {l r : Expr} {p p2 : Pos} (ha : PE X l (tE X.K CA G W a)) (hb : PE X r (tE X.K CA G W b)) : PE X (.Subscript l (.Slice (some r) none none p2) p) (tE X.K CA G W (.slF a b)) := by
  refine ⟨fun pins s σ H Q I q => ?_⟩
  obtain ⟨S, L, env, g, er, q⟩ := q
  simp only [ev] at q
  have key : tE X.K CA G W a σ H fun x H1 => tPart (tE X.K CA G W b) σ H1 fun lo H2 => tNoPart σ H2 fun hi H3 => ∃ S L dx d2, Good X.K CA S L H3 ∧ RelD X.K L H3 dx x ∧ intO (some d2) = some lo ∧ intO none = some hi ∧ Aft X.K CA W σ L H3 (slice dx (some d2) none S) fun d _ L' H' => ∀ v, RelD X.K L' H' d v → Q v H' := by
    refine tE.seq g er q fun d1 S1 L1 H1 v1 st1 g1 er1 r1 q1 => tE.seq g1 er1 q1 fun d2 S2 L2 H2 v2 st2 g2 er2 r2 q2 => ?_
    obtain ⟨lo, hi, e1, e2⟩ := slice_ints q2
    obtain ⟨i, rfl, rfl⟩ := intO_some e1
    simp only [RelD] at r2
    cases e2
    exact ⟨i, r2, S2, L2, d1, .int i, g2, r1.step g1 st2, rfl, rfl, q2⟩
  have big : SlR X (fun vx lo hi H Q => ∃ S L dx d2, Good X.K CA S L H ∧ RelD X.K L H dx vx ∧ intO (some d2) = some lo ∧ intO none = some hi ∧ Aft X.K CA W σ L H (slice dx (some d2) none S) fun d _ L' H' => ∀ v, RelD X.K L' H' d v → Q v H') := by
    intro pins s σ' H x v vl vu lo hi sl Q I rx hs pl pu q
    obtain ⟨S, L, dx, d2, q⟩ := q
    exact sl_ok (CA := CA) (W := W) (lo := some d2) (hi := none) σ pins s σ' H x v vl vu lo hi sl Q I rx hs pl pu ⟨S, L, dx, q⟩
  exact (pe_slice big ha (po_some hb) po_none).run pins s σ H Q I key
theorem s_slB {a b c : Ex} {l r t : Expr} {p p2 : Pos} (ha : PE X l (tE X.K CA G W a)) (hb : PE X r (tE X.K CA G W b)) (hc : PE X t (tE X.K CA G W c)) : PE X (.Subscript l (.Slice (some r) (some t) none p2) p) (tE X.K CA G W (.slB a b c)) := by
  refine ⟨fun pins s σ H Q I q => ?_⟩
  obtain ⟨S, L, env, g, er, q⟩ := q
  simp only [ev] at q
  have key : tE X.K CA G W a σ H fun x H1 => tPart (tE X.K CA G W b) σ H1 fun lo H2 => tPart (tE X.K CA G W c) σ H2 fun hi H3 => ∃ S L dx d2 d3, Good X.K CA S L H3 ∧ RelD X.K L H3 dx x ∧ intO (some d2) = some lo ∧ intO (some d3) = some hi ∧ Aft X.K CA W σ L H3 (slice dx (some d2) (some d3) S) fun d _ L' H' => ∀ v, RelD X.K L' H' d v → Q v H' := by
    refine tE.seq g er q fun d1 S1 L1 H1 v1 st1 g1 er1 r1 q1 => tE.seq g1 er1 q1 fun d2 S2 L2 H2 v2 st2 g2 er2 r2 q2 => ?_
    split at q2
    · rename_i hi2
      cases d2 <;> try (exact absurd hi2 Bool.false_ne_true)
      rename_i i
      simp only [RelD] at r2
      refine ⟨i, r2, tE.seq g2 er2 q2 fun d3 S3 L3 H3 v3 st3 g3 er3 r3 q3 => ?_⟩
      obtain ⟨lo, hi, e1, e2⟩ := slice_ints q3
      obtain ⟨j, rfl, rfl⟩ := intO_some e2
      simp only [RelD] at r3
      exact ⟨j, r3, S3, L3, d1, .int i, .int j, g3, (r1.step g1 st2).step g2 st3, rfl, rfl, q3⟩
    · exact q2.elim
  have big : SlR X (fun vx lo hi H Q => ∃ S L dx d2 d3, Good X.K CA S L H ∧ RelD X.K L H dx vx ∧ intO (some d2) = some lo ∧ intO (some d3) = some hi ∧ Aft X.K CA W σ L H (slice dx (some d2) (some d3) S) fun d _ L' H' => ∀ v, RelD X.K L' H' d v → Q v H') := by
    intro pins s σ' H x v vl vu lo hi sl Q I rx hs pl pu q
    obtain ⟨S, L, dx, d2, d3, q⟩ := q
    exact sl_ok (CA := CA) (W := W) (lo := some d2) (hi := some d3) σ pins s σ' H x v vl vu lo hi sl Q I rx hs pl pu ⟨S, L, dx, q⟩
  exact (pe_slice big ha (po_some hb) (po_some hc)).run pins s σ H Q I key
theorem s_rev {a : Ex} {l : Expr} {k : Nat} {p p1 p2 p3 : Pos} (ha : PE X l (tE X.K CA G W a)) : PE X (.Subscript l (.Slice none none (some (.UnaryOp .USub (.Constant (.int 1) k p1) p2)) p3) p) (tE X.K CA G W (.rev a)) := by
  refine PE.by_ (pe_revL ha) ?_
  rintro σ H Q ⟨S, L, env, g, er, q⟩
  simp only [ev] at q
  refine tE.seq g er q fun d S1 L1 H1 v st g1 er1 r q1 => ?_
  split at q1
  · rename_i xs hx
    obtain ⟨b, vs, rfl, sq, r⟩ := lstOf_rel g1 hx r
    exact ⟨b, vs, rfl, sq, fun p hp => Aft.lst g1 q1 r.reverse hp⟩
  · exact q1.elim
end
end Lt
set_option maxHeartbeats 1000000
namespace Lt
open PySem PySem.Spec PyProof.Rows L2
section
variable {X : Cx} {CA : Str → Addr} {G : Cxp} {W : WX} {C : MC} {S S' : Store} {L L1 M2 L' : List Addr} {H H1 H2 H' : Hp} {σ : Sl} {e : Expr}
theorem s_call (ok : Ok X CA G W C) {f : Str} {xs : List Ex} {es : List Expr} {q p : Pos} (h1 : gloB C.sc f = true) (h2 : nmOk f = true) (h3 : C.fs f xs.length = true) (h : PA X es (tEs X.K CA G W xs)) (hm : mEs xs C es = true) :
    PE X (.Call (.Name f q) es [] p) (tE X.K CA G W (.call f xs)) := by
  obtain ⟨a, fd, ps, ds, dvs, k, sp, F, hr, hmg, hk, hb, hd, hsp⟩ := ok.call f xs.length h3
  have gl := gl_of ok h1
  have dbg := (nm_of h2).1
  have key : ∀ (σ : Sl) (H : Hp) (Q : VK), tE X.K CA G W (.call f xs) σ H Q → tEs X.K CA G W xs σ H fun vs H1 => sp (vs ++ dvs) H1 Q (WE W σ) := by
    rintro σ H Q ⟨S, L, env, g, er, q⟩
    simp only [ev] at q
    exact ⟨S, L, env, g, er, q.bind.len.mono fun d S1 L1 H1 ⟨hl, st, g1, q1⟩ vs r => hsp vs d S1 L1 H1 σ Q _ g1 r hl q1⟩
  cases es with
  | nil =>
    have e0 : xs = [] := by
      cases xs with
      | nil => rfl
      | cons x xs => obtain ⟨e, r, z, _⟩ := mEs_cons hm; cases z
    subst e0
    refine ⟨fun pins s σ H Q I q => ?_⟩
    have k2 := key σ H Q q
    have k3 : sp ([] ++ dvs) H Q (WE W σ) := by
      obtain ⟨S, L, env, g, er, q⟩ := k2
      simp only [evs] at q
      exact q L H Step.refl g [] RelDs.nil
    refine wpAny_Call_Name_kw (ld_glob I gl hmg ?_ dbg)
    exact PySem.W.callWith_K0 I.kIn hk (run_fnSD (us := []) (E := WE W) F hr hb hd (passAt ok.tk σ) I .nil k3)
  | cons e es =>
    cases xs with
    | nil => have z := mEs_nil hm; cases z
    | cons x xs =>
      obtain ⟨e', r', z, s1, _, s2⟩ := mEs_cons hm
      cases z
      refine ⟨fun pins s σ H Q I q => (pe_callSD (E := WE W) F hr gl hmg hk hb hd (passAt ok.tk) h dbg (star_of s1 es X.env) (stars_ok s2 p X.env)).run pins s σ H Q I (key σ H Q q)⟩
theorem bi_none (ok : Ok X CA G W C) (b : Bi) : X.mg (biN b) = none := by
  cases b <;> exact ok.free _ (by decide +kernel)
theorem s_bi (ok : Ok X CA G W C) {b : Bi} {xs : List Ex} {es : List Expr} {q p : Pos} (hbi : biOk C b = true) (h1 : gloB C.sc (biN b) = true) (h : PA X es (tEs X.K CA G W xs)) (hm : mEs xs C es = true) (hn : xs ≠ []) :
    PE X (.Call (.Name (biN b) q) es [] p) (tE X.K CA G W (.bi b xs)) := by
  have gl := gl_of ok h1
  have mg := bi_none ok b
  have key : ∀ (σ : Sl) (H : Hp) (Q : VK), tE X.K CA G W (.bi b xs) σ H Q → tCB (rBi X.K CA W σ b) (tEs X.K CA G W xs) σ H Q := by
    rintro σ H Q ⟨S, L, env, g, er, q⟩
    simp only [ev] at q
    exact tEs.seq g er q fun d S1 L1 H1 v st g1 er1 r q1 => ⟨S1, L1, d, g1, r, q1⟩
  cases xs with
  | nil => exact absurd rfl hn
  | cons x xs =>
    obtain ⟨e, es', z, s1, _, s2⟩ := mEs_cons hm
    subst z
    refine ⟨fun pins s σ H Q I q => ?_⟩
    have c := bi_ok (W := W) ok b hbi σ
    have r := key σ H Q q
    cases b
    · exact (pe_callB c gl mg (by decide +kernel) h (by decide +kernel) (by decide +kernel) (star_of s1 es' X.env) (stars_ok s2 p X.env)).run pins s σ H Q I r
    · exact (pe_callB c gl mg (by decide +kernel) h (by decide +kernel) (by decide +kernel) (star_of s1 es' X.env) (stars_ok s2 p X.env)).run pins s σ H Q I r
    · exact (pe_callTy c gl mg (by decide +kernel) h (by decide +kernel) (by decide +kernel) (star_of s1 es' X.env) (stars_ok s2 p X.env)).run pins s σ H Q I r
    · exact (pe_callTy c gl mg (by decide +kernel) h (by decide +kernel) (by decide +kernel) (star_of s1 es' X.env) (stars_ok s2 p X.env)).run pins s σ H Q I r
    · exact (pe_callTy c gl mg (by decide +kernel) h (by decide +kernel) (by decide +kernel) (star_of s1 es' X.env) (stars_ok s2 p X.env)).run pins s σ H Q I r
    · exact (pe_callTy c gl mg (by decide +kernel) h (by decide +kernel) (by decide +kernel) (star_of s1 es' X.env) (stars_ok s2 p X.env)).run pins s σ H Q I r
    · exact (pe_callB c gl mg (by decide +kernel) h (by decide +kernel) (by decide +kernel) (star_of s1 es' X.env) (stars_ok s2 p X.env)).run pins s σ H Q I r
    · exact (pe_callB c gl mg (by decide +kernel) h (by decide +kernel) (by decide +kernel) (star_of s1 es' X.env) (stars_ok s2 p X.env)).run pins s σ H Q I r
    · exact (pe_callB c gl mg (by decide +kernel) h (by decide +kernel) (by decide +kernel) (star_of s1 es' X.env) (stars_ok s2 p X.env)).run pins s σ H Q I r
def tyS : Ty → String
  | .int => "int"
  | .bool => "bool"
  | .str => "str"
  | .tuple => "tuple"
  | .list => "list"
theorem ty_none (ok : Ok X CA G W C) (t : Ty) : X.mg (tyN t) = none := by
  cases t <;> exact ok.free _ (by decide +kernel)
theorem ty_boot (t : Ty) : bootBuiltins (tyN t) = some (.type (tyS t)) := by
  cases t <;> decide +kernel
theorem pe_ty (ok : Ok X CA G W C) (t : Ty) {p : Pos} (h : gloB C.sc (tyN t) = true) : PE X (.Name (tyN t) p) (tC (.ty (tyS t))) :=
  pe_bltn (gl_of ok h) (ty_none ok t) (ty_boot t) rfl (by cases t <;> decide +kernel) (by cases t <;> decide +kernel)
/-- the type that a value has, by name -/
def tyOf (S : Store) : D → Option String
  | .non => some "NoneType"
  | .bl _ => some "bool"
  | .int _ => some "int"
  | .str _ => some "str"
  | .tup _ => some "tuple"
  | .frl _ => some "list"
  | .frt _ => some "tuple"
  | .ref r => match getL S r with
    | some _ => some "list"
    | none => none
theorem tyOf_rel (g : Good X.K CA S L H) {d : D} {v : V} {n : String} (h : tyOf S d = some n) (r : RelD X.K L H d v) : TyX X.K H v (.type n) := by
  cases d with
  | non => simp only [RelD] at r; subst r; simp only [tyOf, Option.some.injEq] at h; subst h; exact .base .non
  | bl b => simp only [RelD] at r; subst r; simp only [tyOf, Option.some.injEq] at h; subst h; exact .base (.bl b)
  | int b => simp only [RelD] at r; subst r; simp only [tyOf, Option.some.injEq] at h; subst h; exact .base (.int b)
  | str b => simp only [RelD] at r; subst r; simp only [tyOf, Option.some.injEq] at h; subst h; exact .base (.str b)
  | tup xs =>
    simp only [RelD] at r; simp only [tyOf, Option.some.injEq] at h; subst h
    obtain ⟨p, vs, rfl, sq, _⟩ := r
    exact .base (.tup sq)
  | frl xs =>
    simp only [RelD] at r; simp only [tyOf, Option.some.injEq] at h; subst h
    obtain ⟨p, vs, rfl, sq, _⟩ := r
    rcases sq with ⟨o, sq⟩ | ⟨o, its, n, k1, k2, _⟩
    · exact .base (.frz sq)
    · exact .kList k1 k2
  | frt xs =>
    simp only [RelD] at r; simp only [tyOf, Option.some.injEq] at h; subst h
    obtain ⟨p, vs, rfl, ⟨o, its, n, k1, k2, _⟩, _⟩ := r
    exact .kTuple k1 k2
  | ref n =>
    simp only [RelD] at r; simp only [tyOf] at h
    obtain ⟨a, hn, rfl⟩ := r
    cases e : getL S n with
    | none => rw [e] at h; cases h
    | some xs =>
      rw [e] at h
      simp only [Option.some.injEq] at h; subst h
      obtain ⟨vs, q, _⟩ := getL_rel g e hn
      exact .base (.lst q)
theorem isTy_kit (S : Store) (t : Ty) (d : D) {b : Bool} (h : isTy S t d = some b) : ∃ n, tyOf S d = some n ∧ kitB n (tyS t) = some b := by
  cases d with
  | ref r =>
    simp only [isTy] at h
    cases e : getL S r with
    | none => rw [e] at h; cases h
    | some xs =>
      rw [e] at h
      simp only [Option.some.injEq] at h
      subst h
      refine ⟨"list", by simp [tyOf, e], ?_⟩
      cases t <;> decide +kernel
  | non => simp only [isTy, Option.some.injEq] at h; subst h; exact ⟨_, rfl, by cases t <;> decide +kernel⟩
  | bl x => simp only [isTy, Option.some.injEq] at h; subst h; exact ⟨_, rfl, by cases t <;> decide +kernel⟩
  | int x => simp only [isTy, Option.some.injEq] at h; subst h; exact ⟨_, rfl, by cases t <;> decide +kernel⟩
  | str x => simp only [isTy, Option.some.injEq] at h; subst h; exact ⟨_, rfl, by cases t <;> decide +kernel⟩
  | tup x => simp only [isTy, Option.some.injEq] at h; subst h; exact ⟨_, rfl, by cases t <;> decide +kernel⟩
  | frl x => simp only [isTy, Option.some.injEq] at h; subst h; exact ⟨_, rfl, by cases t <;> decide +kernel⟩
  | frt x => simp only [isTy, Option.some.injEq] at h; subst h; exact ⟨_, rfl, by cases t <;> decide +kernel⟩
theorem s_isI (ok : Ok X CA G W C) {t : Ty} {a : Ex} {l : Expr} {q q2 p : Pos} (h1 : gloB C.sc "isinstance" = true) (h2 : gloB C.sc (tyN t) = true) (hs : notSt l = true) (ha : PE X l (tE X.K CA G W a)) :
    PE X (.Call (.Name "isinstance" q) [l, .Name (tyN t) q2] [] p) (tE X.K CA G W (.isI a t)) := by
  refine PE.by_ (pe_callB call_isi (gl_of ok h1) (ok.free _ (by decide +kernel)) (by decide +kernel) (pa_cons ha (pa_cons (pe_ty ok t h2) pa_nil (star_of rfl [] X.env)) (star_of hs _ X.env)) (by decide +kernel) (by decide +kernel) (star_of hs _ X.env) (by rw [star_of rfl [] X.env]; rfl)) ?_
  rintro σ H Q ⟨S, L, env, g, er, q⟩
  simp only [ev] at q
  refine tE.seq g er q fun d S1 L1 H1 v st g1 er1 r q1 => ?_
  split at q1
  · rename_i b hb
    obtain ⟨n, e1, e2⟩ := isTy_kit _ _ _ hb
    exact ⟨v, .ty (tyS t), _, _, b, rfl, .ty _, tyOf_rel g1 e1 r, kit_ty e2, Aft.bl g1 q1⟩
  · exact q1.elim
theorem base_of {o : Expr} (h : notCall o = true) (n : Str) (env : PySem.Env) : attributeBase o n env (eval o env) = eval o env := by
  cases o <;> first | rfl | (exact absurd h Bool.false_ne_true)
theorem few_of (h : notSt e = true) (cp : Pos) (env : PySem.Env) : ((backTo cp (starEach [e] env)).all (fun x => !x.1) && (backToKw cp (keywordEach [] env)).all (fun x => x.1.isSome)
      && decide (([e] : List Expr).length + ([] : List Keyword).length + (if ([] : List Keyword).isEmpty then 0 else 1) < 30)) = true := by
  rw [star_of h [] env]; rfl
theorem isLst_rel (g : Good X.K CA S L H) {d : D} {v : V} (h : isLst d S = true) (r : RelD X.K L H d v) : tyV X.K "list" v H ∧ ∃ n xs a vs, d = .ref n ∧ getL S n = some xs ∧ L[n]? = some a ∧ v = .ref a ∧ H a = some (.lst vs) ∧ RelDs X.K L H xs vs := by
  unfold isLst at h
  split at h
  · rename_i n
    obtain ⟨xs, hx⟩ := Option.isSome_iff_exists.mp h
    simp only [RelD] at r
    obtain ⟨a, hn, rfl⟩ := r
    obtain ⟨vs, q, r⟩ := getL_rel g hx hn
    exact ⟨.inl ⟨rfl, vs, SqL.of q⟩, n, xs, a, vs, rfl, hx, hn, rfl, q, r⟩
  · cases h
theorem s_app {o a : Ex} {l r : Expr} {ap cp : Pos} (hc : notCall l = true) (hl : (ap.endLine == cp.line) = true) (hs : notSt r = true) (ho : PE X l (tE X.K CA G W o)) (ha : PE X r (tE X.K CA G W a)) :
    PE X (.Call (.Attribute l "append" ap) [r] [] cp) (tE X.K CA G W (.app o a)) := by
  refine PE.by_ (pe_bm PySem.F.plainAttrs_list PySem.F.slot_list_append PySem.F.type_list_append mt_append ho (pa_cons ha pa_nil (star_of hs [] X.env)) (base_of hc _ _) (few_of hs cp X.env) hl (star_of hs [] X.env) rfl) ?_
  rintro σ H Q ⟨S, L, env, g, er, q⟩
  simp only [ev] at q
  refine tE.seq g er q fun d S1 L1 H1 v st g1 er1 r1 q1 => ?_
  split at q1
  · rename_i hi
    refine ⟨(isLst_rel g1 hi r1).1, tE.seq g1 er1 q1 fun d2 S2 L2 H2 v2 st2 g2 er2 r2 q2 => ?_⟩
    unfold append at q2
    split at q2
    · split at q2
      · rename_i n xs hx
        split at q2
        · rename_i hz
          simp only [RelD] at r1
          obtain ⟨b, hn, rfl⟩ := r1
          obtain ⟨vs, e1, rs⟩ := getL_rel g2 hx (st2.get hn)
          refine ⟨b, vs, v2, rfl, rfl, e1, by rw [rs.length]; exact small (Nat.le_of_lt hz), Aft.set g2 q2 (st2.get hn) e1 (rs.append (RelDs.cons r2 RelDs.nil)) fun H' => by simp [RelD]⟩
        · exact q2.elim
      · exact q2.elim
    · exact q2.elim
  · exact q1.elim
theorem s_ext {o a : Ex} {l r : Expr} {ap cp : Pos} (hc : notCall l = true) (hl : (ap.endLine == cp.line) = true) (hs : notSt r = true) (ho : PE X l (tE X.K CA G W o)) (ha : PE X r (tE X.K CA G W a)) :
    PE X (.Call (.Attribute l "extend" ap) [r] [] cp) (tE X.K CA G W (.ext o a)) := by
  refine PE.by_ (pe_bm PySem.F.plainAttrs_list PySem.F.slot_list_extend PySem.F.type_list_extend mt_extend ho (pa_cons ha pa_nil (star_of hs [] X.env)) (base_of hc _ _) (few_of hs cp X.env) hl (star_of hs [] X.env) rfl) ?_
  rintro σ H Q ⟨S, L, env, g, er, q⟩
  simp only [ev] at q
  refine tE.seq g er q fun d S1 L1 H1 v st g1 er1 r1 q1 => ?_
  split at q1
  · rename_i hi
    refine ⟨(isLst_rel g1 hi r1).1, tE.seq g1 er1 q1 fun d2 S2 L2 H2 v2 st2 g2 er2 r2 q2 => ?_⟩
    unfold extend at q2
    split at q2
    · split at q2
      · rename_i n m xs ys hx hy
        split at q2
        · rename_i hz
          simp only [RelD] at r1 r2
          obtain ⟨b, hn, rfl⟩ := r1
          obtain ⟨c, hm, rfl⟩ := r2
          obtain ⟨vs, e1, rs⟩ := getL_rel g2 hx (st2.get hn)
          obtain ⟨ws, e2, rt⟩ := getL_rel g2 hy hm
          refine ⟨b, c, vs, ws, rfl, rfl, e1, e2, by rw [rs.length, rt.length]; exact Nat.le_of_lt (small hz), Aft.set g2 q2 (st2.get hn) e1 (rs.append rt) fun H' => by simp [RelD]⟩
        · exact q2.elim
      · exact q2.elim
    · exact q2.elim
  · exact q1.elim
theorem s_clr {o : Ex} {l : Expr} {ap cp : Pos} (hc : notCall l = true) (hl : (ap.endLine == cp.line) = true) (ho : PE X l (tE X.K CA G W o)) :
    PE X (.Call (.Attribute l "clear" ap) [] [] cp) (tE X.K CA G W (.clr o)) := by
  refine PE.by_ (pe_bm0 PySem.F.plainAttrs_list PySem.F.slot_list_clear PySem.F.type_list_clear mt_clear ho (base_of hc _ _) hl) ?_
  rintro σ H Q ⟨S, L, env, g, er, q⟩
  simp only [ev] at q
  refine tE.seq g er q fun d S1 L1 H1 v st g1 er1 r1 q1 => ?_
  unfold clear at q1
  split at q1
  · split at q1
    · rename_i n xs hx
      obtain ⟨ty, _⟩ := isLst_rel g1 (by simp [isLst, hx]) r1
      simp only [RelD] at r1
      obtain ⟨b, hn, rfl⟩ := r1
      obtain ⟨vs, e1, rs⟩ := getL_rel g1 hx hn
      exact ⟨ty, b, vs, rfl, rfl, e1, Aft.set g1 q1 hn e1 RelDs.nil fun H' => by simp [RelD]⟩
    · exact q1.elim
  · exact q1.elim
/-- all slots but these are as they were -/
def SameOut (is : List Nat) (σ σ' : Sl) : Prop := σ'.length = σ.length ∧ ∀ j, j ∉ is → σ'[j]? = σ[j]?
theorem SameOut.one (σ : Sl) (i : Nat) (v : Option V) : SameOut [i] σ (σ.set i v) := ⟨by simp, fun j h => by
  rw [List.mem_singleton] at h
  exact List.getElem?_set_ne (Ne.symm h)⟩
def tG (K : PySem.W.Frag) (CA : Str → Addr) (pn : PinT) (t : Tg) : TG := fun v σ H Q => ∃ S L e d e1, Good K CA S L H ∧ EnvR K pn L H e σ ∧ RelD K L H d v ∧ bindT t d e S = some e1 ∧ ∀ σ', EnvR K pn L H e1 σ' → SameOut (tsl t) σ σ' → Q σ' H
theorem st_of (ok : Ok X CA G W C) {x : Str} (h : stB C x = true) : Loc X.env.scope x ∧ (X.fn x = true ∨ X.env.scope.names.lookup x = some .local) := by
  unfold stB at h
  rw [Bool.or_eq_true] at h
  rw [ok.sc]
  rcases h with h | h
  · exact ⟨.inl (loc_of h), .inr (loc_of h)⟩
  · obtain ⟨h1, h2⟩ := ba h
    exact ⟨.inr (cel_of h1), .inl (ok.fn h2 x)⟩
theorem g_name (ok : Ok X CA G W C) {i : Nat} {x : Str} {p : Pos} (h0 : hsNe C i = true) (h1 : slotB C i x = true) (h2 : stB C x = true) : PG X (.Name x p) (tG X.K CA G.pin (.name i)) := by
  obtain ⟨l, f⟩ := st_of ok h2
  refine PG.by_ (pg_name (i := i) (by rw [ok.nm]; exact ok.nd) (by rw [ok.nm]; exact slot_of h1) l f) ?_
  rintro v σ H Q ⟨S, L, e, d, e1, g, er, r, hb, q⟩
  simp only [bindT] at hb
  split at hb
  · cases hb
    exact q _ (er.set r (ok.hsne h0)) (SameOut.one _ _ _)
  · cases hb
def tGs (K : PySem.W.Frag) (CA : Str → Addr) (pn : PinT) (is : List Nat) : TGs := fun vs σ H Q => ∃ S L e ds e1, Good K CA S L H ∧ EnvR K pn L H e σ ∧ RelDs K L H ds vs ∧ setAll is ds e = some e1 ∧ ∀ σ', EnvR K pn L H e1 σ' → SameOut is σ σ' → Q σ' H
theorem hsNe_of (h : cold C = true) (i : Nat) : hsNe C i = true := by
  unfold cold at h
  unfold hsNe
  rw [Option.isNone_iff_eq_none.mp h]
theorem g_names (ok : Ok X CA G W C) (hc : cold C = true) : ∀ {is : List Nat} {es : List Expr}, mTs C is es = true → PGs X es (tGs X.K CA G.pin is) ∧ (assignEach es X.env).length = is.length ∧ (assignEach es X.env).findIdx? (·.1) = none
  | [], [], _ => by
    refine ⟨⟨fun pins s σ H vs us Q I r q => pgs_nil.run pins s σ H vs us Q I r ?_⟩, rfl, rfl⟩
    obtain ⟨S, L, e, ds, e1, g, er, rs, hb, q⟩ := q
    cases ds with
    | nil =>
      simp only [setAll, Option.some.injEq] at hb; subst hb
      simp only [RelDs] at rs
      exact ⟨rs, q _ er ⟨rfl, fun _ _ => rfl⟩⟩
    | cons d ds => simp only [setAll] at hb; cases hb
  | [], _ :: _, h => by simp [mTs] at h
  | i :: is, [], h => by simp [mTs] at h
  | i :: is, e :: es, h => by
    cases e <;> try (simp [mTs] at h; done)
    rename_i x p
    simp only [mTs, Bool.and_eq_true] at h
    obtain ⟨⟨h1, h2⟩, h3⟩ := h
    obtain ⟨ih, l1, l2⟩ := g_names ok hc h3
    refine ⟨⟨fun pins s σ H vs us Q I r q => (pgs_cons (g_name ok (hsNe_of hc i) h1 h2) ih).run pins s σ H vs us Q I r ?_⟩, ?_, ?_⟩
    · obtain ⟨S, L, e, ds, e1, g, er, rs, hb, q⟩ := q
      cases ds with
      | nil => simp only [setAll] at hb; cases hb
      | cons d ds =>
        simp only [RelDs] at rs
        obtain ⟨v, vr, rfl, r1, rs⟩ := rs
        simp only [setAll] at hb
        split at hb
        · rename_i hi
          refine ⟨v, vr, rfl, S, L, e, d, _, g, er, r1, by simp only [bindT]; rw [if_pos hi], fun σ' er' so => ⟨S, L, _, ds, e1, g, er', rs, hb, fun σ2 er2 so2 => q σ2 er2 ⟨so2.1.trans so.1, fun j hj => (so2.2 j fun h => hj (List.mem_cons_of_mem _ h)).trans (so.2 j fun h => hj (by rw [show j = i from List.mem_singleton.mp h]; exact List.mem_cons_self))⟩⟩⟩
        · cases hb
    · show ((false, assign (.Name x p) X.env) :: assignEach es X.env).length = _
      simp [l1]
    · show ((false, assign (.Name x p) X.env) :: assignEach es X.env).findIdx? (·.1) = none
      simp [List.findIdx?_cons, l2]
theorem g_ok (ok : Ok X CA G W C) {t : Tg} (h : mT C t e = true) : PG X e (tG X.K CA G.pin t) := by
  cases t with
  | name i =>
    cases e <;> try (simp [mT] at h; done)
    simp only [mT, Bool.and_eq_true] at h
    exact g_name ok h.1 h.2.1 h.2.2
  | tup is =>
    cases e <;> try (simp [mT] at h; done)
    rename_i es k p
    simp only [mT, Bool.and_eq_true] at h
    obtain ⟨hc, h⟩ := h
    obtain ⟨hg, l1, l2⟩ := g_names ok hc h
    refine ⟨fun pins s σ H v u Q I r q => ?_⟩
    obtain ⟨S, L, e, d, e1, g, er, rd, hb, q⟩ := q
    simp only [bindT] at hb
    split at hb
    · rename_i xs hx
      split at hb
      · rename_i hl
        obtain ⟨a, vs, rfl, sq, rs⟩ := seqOf_rel g hx rd
        have fin : tGs X.K CA G.pin is vs σ H Q := ⟨S, L, e, xs, e1, g, er, rs, hb, q⟩
        rcases sq with sq | sq
        · exact (pg_lst (n := is.length) (ok.calm hc) hg l1 l2).run pins s σ H _ u Q I r ⟨a, vs, rfl, sq, by rw [rs.length]; exact hl, fin⟩
        · exact (pg_tup (n := is.length) (ok.calm hc) hg l1 l2).run pins s σ H _ u Q I r ⟨a, vs, rfl, sq, by rw [rs.length]; exact hl, fin⟩
      · cases hb
    · cases hb
end
end Lt
set_option maxHeartbeats 1000000
namespace Lt
open PySem PySem.Spec PyProof.Rows L2
section
variable {X : Cx} {CA : Str → Addr} {G : Cxp} {W : WX} {C : MC} {S S' : Store} {L L1 M2 L' : List Addr} {H H1 H2 H' : Hp} {σ : Sl} {e : Expr}
theorem getI_rel (g : Good X.K CA S L H) {n : Nat} {y : Str} {fs : List (Str × D)} (h : getI S n = some (y, fs)) {a : Addr} (hn : L[n]? = some a) : ∃ dx gs, H a = some (.ins (CA y) dx gs) ∧ H dx = some (.own a) ∧ gs.map (·.1) = fs.map (·.1) ∧ RelDs X.K L H (fs.map (·.2)) (gs.map (·.2)) := by
  unfold getI at h
  split at h
  · rename_i y' fs' e
    cases h
    exact g.cell n _ a e hn
  · cases h
theorem flds_look : ∀ {fs : List (Str × D)} {gs : List (Str × V)} {f : Str} {d : D}, gs.map (·.1) = fs.map (·.1) → RelDs X.K L H (fs.map (·.2)) (gs.map (·.2)) → fs.lookup f = some d → ∃ v, gs.lookup f = some v ∧ RelD X.K L H d v
  | [], gs, f, d, _, _, e => by simp at e
  | (k, x) :: fs, gs, f, d, hk, r, e => by
    cases gs with
    | nil => simp at hk
    | cons q gs =>
      obtain ⟨k2, v⟩ := q
      simp only [List.map_cons, List.cons.injEq] at hk
      obtain ⟨rfl, hk⟩ := hk
      simp only [List.map_cons, RelDs] at r
      obtain ⟨v', r', z, r1, r2⟩ := r
      cases z
      rw [List.lookup_cons] at e ⊢
      cases hb : f == k2 with
      | true =>
        rw [hb] at e
        cases e
        exact ⟨v, rfl, r1⟩
      | false =>
        rw [hb] at e
        exact flds_look hk r2 e
theorem flds_none : ∀ {fs : List (Str × D)} {gs : List (Str × V)} {f : Str}, gs.map (·.1) = fs.map (·.1) → fs.lookup f = none → gs.lookup f = none
  | [], gs, f, hk, _ => by
    cases gs with
    | nil => rfl
    | cons _ _ => simp at hk
  | (k, x) :: fs, gs, f, hk, e => by
    cases gs with
    | nil => simp at hk
    | cons q gs =>
      obtain ⟨k2, v⟩ := q
      simp only [List.map_cons, List.cons.injEq] at hk
      obtain ⟨rfl, hk⟩ := hk
      rw [List.lookup_cons] at e ⊢
      cases hb : f == k2 with
      | true => rw [hb] at e; cases e
      | false =>
        rw [hb] at e
        exact flds_none hk e
theorem flds_put : ∀ {fs : List (Str × D)} {gs : List (Str × V)} (f : Str) {d : D} {v : V}, gs.map (·.1) = fs.map (·.1) → RelDs X.K L H (fs.map (·.2)) (gs.map (·.2)) → RelD X.K L H d v → (putF f v gs).map (·.1) = (putD f d fs).map (·.1) ∧ RelDs X.K L H ((putD f d fs).map (·.2)) ((putF f v gs).map (·.2))
  | [], gs, f, d, v, hk, _, rd => by
    cases gs with
    | nil => exact ⟨rfl, RelDs.cons rd RelDs.nil⟩
    | cons _ _ => simp at hk
  | (k, x) :: fs, gs, f, d, v, hk, r, rd => by
    cases gs with
    | nil => simp at hk
    | cons q gs =>
      obtain ⟨k2, w⟩ := q
      simp only [List.map_cons, List.cons.injEq] at hk
      obtain ⟨rfl, hk⟩ := hk
      simp only [List.map_cons, RelDs] at r
      obtain ⟨v', r', z, r1, r2⟩ := r
      cases z
      show (if k2 = f then (k2, v) :: gs else (k2, w) :: putF f v gs).map (·.1) = (if k2 = f then (k2, d) :: fs else (k2, x) :: putD f d fs).map (·.1) ∧ RelDs X.K L H ((if k2 = f then (k2, d) :: fs else (k2, x) :: putD f d fs).map (·.2)) ((if k2 = f then (k2, v) :: gs else (k2, w) :: putF f v gs).map (·.2))
      by_cases hf : k2 = f
      · rw [if_pos hf, if_pos hf]
        exact ⟨by simp [hk], RelDs.cons rd r2⟩
      · rw [if_neg hf, if_neg hf]
        obtain ⟨i1, i2⟩ := flds_put f hk r2 rd
        exact ⟨by simp [i1], RelDs.cons r1 i2⟩
theorem s_isB {a : Ex} {b : Bool} {l : Expr} {k : Nat} {p p2 : Pos} (ha : PE X l (tE X.K CA G W a)) :
    PE X (.Compare l [.Is] [.Constant (.bool b) k p2] p) (tE X.K CA G W (.isB a b)) ∧ PT X (.Compare l [.Is] [.Constant (.bool b) k p2] p) (tT X.K CA G W (.isB a b)) := by
  refine ⟨PE.by_ (pe_cmpR op_isBl ha pe_bl rfl) ?_, PT.by_ (pt_cmpR op_isBl ha pe_bl rfl) ?_⟩
  · rintro σ H Q ⟨S, L, env, g, er, q⟩
    simp only [ev] at q
    refine tE.seq g er q fun d S1 L1 H1 v st g1 er1 r1 q1 => ?_
    unfold isBR at q1
    split at q1
    · simp only [RelD] at r1
      subst r1
      exact ⟨_, _, rfl, rfl, Aft.now g1 q1 (by simp [RelD])⟩
    · exact q1.elim
  · rintro σ H Q ⟨S, L, env, g, er, q⟩
    simp only [ev] at q
    refine tE.seq g er q fun d S1 L1 H1 v st g1 er1 r1 q1 => ?_
    unfold isBR at q1
    split at q1
    · simp only [RelD] at r1
      subst r1
      obtain ⟨c, e, z⟩ := q1 L1 H1 Step.refl g1
      cases e
      exact ⟨_, _, rfl, rfl, _, rfl, z⟩
    · exact q1.elim
theorem s_fld (ok : Ok X CA G W C) {a : Ex} {y f : Str} {l : Expr} {p : Pos} (h1 : C.fl y f = true) (hc : notCall l = true) (ha : PE X l (tE X.K CA G W a)) : PE X (.Attribute l f p) (tE X.K CA G W (.fld a y f)) := by
  obtain ⟨cl, na⟩ := ok.fl y f h1
  refine PE.by_ (pe_fld ha (base_of hc _ _)) ?_
  rintro σ H Q ⟨S, L, env, g, er, q⟩
  simp only [ev] at q
  refine tE.seq g er q fun d S1 L1 H1 v st g1 er1 r1 q1 => ?_
  unfold fldR at q1
  split at q1
  · split at q1
    · rename_i n _ y' fs hi
      split at q1
      · rename_i hy
        subst hy
        split at q1
        · rename_i d2 hl
          simp only [RelD] at r1
          obtain ⟨b, hn, rfl⟩ := r1
          obtain ⟨dx, gs, e1, e2, e3, r2⟩ := getI_rel g1 hi hn
          obtain ⟨v2, l2, r3⟩ := flds_look e3 r2 hl
          exact ⟨b, _, dx, gs, v2, rfl, e1, cl, na, l2, Aft.now g1 q1 r3⟩
        · exact q1.elim
      · exact q1.elim
    · exact q1.elim
  · exact q1.elim
theorem meth_eq {o : Expr} {name : Str} {apos pos : Pos} {es : List Expr} {env : PySem.Env} (hb : attributeBase o name env (eval o env) = eval o env) (few : methodCallForm (es.length + ([] : List Keyword).length) (backTo pos (starEach es env)) (backToKw pos (keywordEach [] env)) = true) (hl : (apos.endLine == pos.line) = true) :
    eval (.Call (.Attribute o name apos) es [] pos) env = (do
      let ov ← eval o env
      standAt apos.atName
      let (f, first) ← holding [ov] (getMethod ov name (do return (← importBound o env).getD true))
      callWith pos f first (backTo pos (starEach es env)) (backToKw pos (keywordEach [] env))) := by
  have e1 : eval (.Call (.Attribute o name apos) es [] pos) env = (do
      let ov ← attributeBase o name env (eval o env)
      standAt apos.atName
      methodCall o name apos pos env ov (es.length + ([] : List Keyword).length) (backTo pos (starEach es env)) (backToKw pos (keywordEach [] env))) := by
    rw [eval]
  rw [e1, hb]
  unfold methodCall calleeOf methodCallPos
  rw [few]
  simp [hl]
theorem few_ok {xs : List Ex} {es : List Expr} (hm : mEs xs C es = true) (hl : es.length < 30) (pos : Pos) (env : PySem.Env) : methodCallForm (es.length + ([] : List Keyword).length) (backTo pos (starEach es env)) (backToKw pos (keywordEach [] env)) = true := by
  have h1 := stars_ok hm pos env
  have h2 : (backTo pos (starEach es env)).all (fun x => !x.1) = true := by
    rw [List.all_eq_not_any_not]
    simp only [Bool.not_not]
    rw [h1]; rfl
  have h3 : backToKw pos (keywordEach [] env) = [] := rfl
  unfold methodCallForm
  rw [h2, h3]
  simpa using hl
/-- the callee's way behind a method's own arguments -/
theorem s_mth (ok : Ok X CA G W C) {o : Ex} {y m key x : Str} {xs : List Ex} {es : List Expr} {q0 ap cp : Pos} (hline : (ap.endLine == cp.line) = true) (hlen : es.length < 30) (h1 : C.ms y m key xs.length = true) (ho : PE X (.Name x q0) (tE X.K CA G W o)) (h : PA X es (tEs X.K CA G W xs)) (hm : mEs xs C es = true) :
    PE X (.Call (.Attribute (.Name x q0) m ap) es [] cp) (tE X.K CA G W (.mth o y m key xs)) := by
  obtain ⟨f, fd, ps, ds, dvs, k, sp, cl, me, F, hr, hb, hd, hsp⟩ := ok.ms y m key xs.length h1
  have hpass := fun σ => passAt (W := W) ok.tk σ
  refine ⟨fun pins s σ H Q I q => ?_⟩
  obtain ⟨S, L, env, g, er, q⟩ := q
  simp only [ev] at q
  -- the receiver, then what stands behind it
  have key1 : tE X.K CA G W o σ H fun v H1 => ∃ a dx gs S1 L1, v = .ref a ∧ H1 a = some (.ins (CA y) dx gs) ∧ gs.lookup m = none ∧ Good X.K CA S1 L1 H1 ∧
      tEs X.K CA G W xs σ H1 fun vs H2 => sp ((v :: vs) ++ dvs) H2 Q (WE W σ) := by
    refine tE.seq g er q fun d S1 L1 H1 v st g1 er1 r1 q1 => ?_
    split at q1
    · rename_i hi
      unfold insOk at hi
      split at hi
      · split at hi
        · rename_i n _ y' fs hg
          obtain ⟨h2, h3⟩ := ba hi
          have h2 := of_decide_eq_true h2
          subst h2
          have r0 := r1
          simp only [RelD] at r1
          obtain ⟨b, hn, rfl⟩ := r1
          obtain ⟨dx, gs, e1, e2, e3, r2⟩ := getI_rel g1 hg hn
          refine ⟨b, dx, gs, S1, L1, rfl, e1, flds_none e3 (by simpa using h3), g1, ?_⟩
          exact ⟨S1, L1, env, g1, er1, q1.bind.len.mono fun ds S2 L2 H2 ⟨hl, st2, g2, q2⟩ vs r2 => hsp (.ref b :: vs) _ S2 L2 H2 σ Q _ g2 (RelDs.cons (r0.step g1 st2) r2) (by simp [hl]) q2⟩
        · cases hi
      · cases hi
    · exact q1.elim
  refine PySem.W.methodCall_KW (thn (ho.run pins s σ H _ I key1) fun u s1 ⟨x1, H1, I1, rx, a, dx, gs, S1, L1, ex, ea, l, g1, q1⟩ => ?_) (meth_eq (base_of (o := .Name x q0) rfl _ _) (few_ok hm hlen cp X.env) hline)
  subst ex
  obtain rfl : u = Value.ref a := rx
  refine getmeth_ok I1 ea cl me l ?_
  cases es with
  | nil =>
    have e0 : xs = [] := by
      cases xs with
      | nil => rfl
      | cons x xs => obtain ⟨e, r, z, _⟩ := mEs_cons hm; cases z
    subst e0
    have q2 : sp ([.ref a] ++ dvs) H1 Q (WE W σ) := by
      obtain ⟨S2, L2, env2, g2, er2, q2⟩ := q1
      simp only [evs] at q2
      exact q2 L2 H1 Step.refl g2 [] RelDs.nil
    exact PySem.W.callWith_K0 (first := [.ref a]) I1.kIn me.kp (run_fnSD (us := [.ref a]) (vs := [.ref a]) (E := WE W) F hr hb hd (hpass σ) I1 (.cons rfl .nil) q2)
  | cons e es =>
    cases xs with
    | nil => have z := mEs_nil hm; cases z
    | cons x xs =>
      obtain ⟨e', r', z, s1', _, s2'⟩ := mEs_cons hm
      cases z
      refine PySem.W.callWith_K (first := [.ref a]) (h₀ := X.base) I1.ok.mod.kin me.kp (thn (h.run cp pins s1 σ H1 _ I1 q1) fun us s2 ⟨vs, H2, I2, r, q2⟩ => ⟨I2.kIn, ?_⟩) (star_of s1' es X.env) (stars_ok s2' cp X.env)
      exact run_fnSD (us := .ref a :: us) (vs := .ref a :: vs) (E := WE W) F hr hb hd (hpass σ) I2 (.cons rfl r) q2
theorem run_mk {pins : List (Addr × Obj)} {s : Shared} {Q : VK} {us : List Value} {vs : List V} {Cl f : Addr} {fd : FuncData} {ps : List Str} {sp : Sp} {k : Nat} {E : L2.St → XK} (M : Mk X.K Cl f) (F : FnOk X.prog X.w X.K X.mg X.base (L2.CX X.prog X.w) k f fd ps sp) (hr : Room (k + 1) X.A) (hb : Binds X.K fd ps [])
    (hx : PassesAt (L2.CX X.prog X.w) X σ (E σ)) (I : Inv X pins σ H s) (r : Vals vs us)
    (h : ∀ x dx, H x = none → H dx = none → dx ≠ x → sp (.ref x :: vs) (upd (upd H dx (.own x)) x (.ins Cl dx [])) (fun v H2 => v = .non ∧ Q (.ref x) H2) (E σ)) :
    wpAny (model X.prog X.w) X.A (call (.ref Cl) us) (EP X pins σ Q) X.xe s := by
  have hq := h (s.heap.objs.size + 1) s.heap.objs.size (I.hok.fresh (Nat.le_succ _)) (I.hok.fresh (Nat.le_refl _)) (Nat.ne_of_lt (Nat.lt_succ_self _))
  have I2 := Inv.made (C := Cl) I
  have r2 : Vals (V.ref (s.heap.objs.size + 1) :: vs) (Value.ref (s.heap.objs.size + 1) :: us) := .cons rfl r
  have hl : ((Value.ref (s.heap.objs.size + 1) :: us) ++ ([] : List Value)).length = ps.length := by
    have e := r2.length
    rw [F.len _ _ _ _ hq] at e
    rw [List.append_nil]
    exact e.symm
  have hbind := hb _ (Value.ref (s.heap.objs.size + 1) :: us) I2.kIn hl
  rw [List.append_nil] at hbind
  refine wpAny_call (make_map (f := f) I.kIn M.makes M.init (beq_iff_eq.mp M.fn) (codeAny_mono (F.run _ X.stack _ _ ⟨Value.ref (s.heap.objs.size + 1) :: us, []⟩ (Value.ref (s.heap.objs.size + 1) :: us) _ _ (E σ) (hr.make Cl us [])
    (I2.env0.make Cl us []) hbind r2 hq) fun r s' hq' => ?_))
  cases r with
  | error e => exact hx pins _ _ e s' I2 hq'
  | ok fl =>
    cases fl with
    | ret u =>
      obtain ⟨v, H', I3, rv, ev, q3⟩ := I2.after hq'
      subst ev
      exact ⟨rv, ⟨V.ref (s.heap.objs.size + 1), H', I3, rfl, q3⟩⟩
    | next => exact False.elim hq'
    | brk => exact False.elim hq'
    | cont => exact False.elim hq'
theorem s_mk (ok : Ok X CA G W C) {y key : Str} {xs : List Ex} {es : List Expr} {q0 p : Pos} (h0 : gloB C.sc y = true) (h2 : nmOk y = true) (h1 : C.mks y key xs.length = true) (h : PA X es (tEs X.K CA G W xs)) (hm : mEs xs C es = true) :
    PE X (.Call (.Name y q0) es [] p) (tE X.K CA G W (.mk y key xs)) := by
  obtain ⟨f, fd, ps, k, sp, M, hmg, F, hr, hb, hsp⟩ := ok.mks y key xs.length h1
  have hpass := fun σ => passAt (W := W) ok.tk σ
  have gl := gl_of ok h0
  have dbg := (nm_of h2).1
  have key1 : ∀ (σ : Sl) (H : Hp) (Q : VK), tE X.K CA G W (.mk y key xs) σ H Q → tEs X.K CA G W xs σ H fun vs H1 => ∀ x dx, H1 x = none → H1 dx = none → dx ≠ x → sp (.ref x :: vs) (upd (upd H1 dx (.own x)) x (.ins (CA y) dx [])) (fun v H2 => v = .non ∧ Q (.ref x) H2) (WE W σ) := by
    rintro σ H Q ⟨S, L, env, g, er, q⟩
    simp only [ev] at q
    refine ⟨S, L, env, g, er, q.bind.len.mono fun ds S1 L1 H1 ⟨hl, st, g1, q1⟩ vs r x dx hx hdx hne => ?_⟩
    obtain ⟨sta, ga⟩ := g1.side (o := .own x) hdx
    have hx2 : upd H1 dx (.own x) x = none := by rw [upd_ne (Ne.symm hne)]; exact hx
    obtain ⟨stb, gb⟩ := ga.alloc (o := .ins (CA y) dx []) (c := .ins y []) hx2 ⟨dx, [], upd_same, by rw [upd_ne hne]; exact upd_same, rfl, RelDs.nil⟩
    have stc := sta.trans stb
    refine hsp (.ref x :: vs) (.ref S1.length :: ds) _ _ _ σ _ _ gb (RelDs.cons ?_ (r.step g1 stc)) (by simp [hl]) ?_
    · simp only [RelD]
      exact ⟨x, by rw [← g1.len, List.getElem?_append_right (Nat.le_refl _)]; simp, rfl⟩
    · refine (Aft.bind (Aft.from stc q1)).mono fun d S2 L2 H2 ⟨st2, g2, q2⟩ v rv => ?_
      unfold madeR at q2
      split at q2
      · simp only [RelD] at rv
        refine ⟨rv, Aft.now g2 q2 ?_⟩
        simp only [RelD]
        exact ⟨x, st2.get (by rw [← g1.len, List.getElem?_append_right (Nat.le_refl _)]; simp), rfl⟩
      · exact q2.elim
  cases es with
  | nil =>
    have e0 : xs = [] := by
      cases xs with
      | nil => rfl
      | cons x xs => obtain ⟨e, r, z, _⟩ := mEs_cons hm; cases z
    subst e0
    refine ⟨fun pins s σ H Q I q => ?_⟩
    have k2 := key1 σ H Q q
    obtain ⟨S2, L2, env2, g2, er2, q2⟩ := k2
    simp only [evs] at q2
    have k3 := q2 L2 H Step.refl g2 [] RelDs.nil
    refine wpAny_Call_Name_kw (ld_glob I gl hmg ?_ dbg)
    exact PySem.W.callWith_K0 I.kIn M.kp (run_mk (us := []) (E := WE W) M F hr hb (hpass σ) I .nil k3)
  | cons e es =>
    cases xs with
    | nil => have z := mEs_nil hm; cases z
    | cons x xs =>
      obtain ⟨e', r', z, s1', _, s2'⟩ := mEs_cons hm
      cases z
      refine ⟨fun pins s σ H Q I q => ?_⟩
      have k2 := key1 σ H Q q
      refine wpAny_Call_Name_kw (ld_glob I gl hmg ?_ dbg)
      refine PySem.W.callWith_K (h₀ := X.base) I.ok.mod.kin M.kp (thn (h.run p pins s σ H _ I k2) fun us s1 ⟨vs, H1, I1, r, q⟩ => ⟨I1.kIn, ?_⟩) (star_of s1' es X.env) (stars_ok s2' p X.env)
      exact run_mk (E := WE W) M F hr hb (hpass σ) I1 r q
end
end Lt
set_option maxHeartbeats 1000000
namespace Lt
open PySem PySem.Spec PyProof.Rows L2
section
variable {X : Cx} {CA : Str → Addr} {G : Cxp} {W : WX} {C : MC} {S S' : Store} {L L1 M2 L' : List Addr} {H H1 H2 H' : Hp} {σ : Sl} {e : Expr}
structure ItOk (K : PySem.W.Frag) (CA : Str → Addr) (J : L2.It) (j : Itr) (P : List Addr → Hp → Prop) : Prop where
  mon : ∀ L H L' H', P L H → Mon L H L' H' → P L' H'
  go : ∀ (i : Nat) S L H x, Good K CA S L H → P L H → j.at_ i S = some x → i < j.n → J.go i H ∧ ∀ v H', J.yld i H v H' → Step L H L H' ∧ Good K CA S L H' ∧ RelD K L H' x v
  stop : ∀ S L H, Good K CA S L H → P L H → j.fin S = true → J.stop j.n H
def tI (K : PySem.W.Frag) (CA : Str → Addr) (G : Cxp) (W : WX) (x : Lt.It) : TI := fun σ H R => ∃ S L e, Good K CA S L H ∧ EnvR K G.pin L H e σ ∧ Aft K CA W σ L H (evI G x e S) fun j _ L' H' => ∀ J P, ItOk K CA J j P → P L' H' → R J H'
/-- a list or a tuple -/
def iSeq (K : PySem.W.Frag) (te : TE) : TI := fun σ H R => te σ H fun x H1 => ∃ a, x = .ref a ∧ (((∃ xs, SqL K H1 a xs) ∧ R (Itl K a) H1) ∨ ((∃ xs, SqT K H1 a xs) ∧ R (Itt K a) H1))
theorem pi_seq {tg : Expr} {te : TE} (he : PE X e te) : PI X tg e (iSeq X.K te) := by
  refine ⟨fun pins s σ H R I q => thn (he.run pins s σ H _ I q) fun u s1 h1 => ?_⟩
  obtain ⟨x, H1, I1, r1, a, rfl, q⟩ := h1
  cases (show u = Value.ref a from r1)
  rcases q with ⟨⟨xs, hq⟩, q⟩ | ⟨⟨xs, hq⟩, q⟩
  · obtain ⟨its, rv, pl, hz⟩ := I1.list hq
    exact wpAny_pyIter_list pl.isList (pi_one (tk := s1.toks) I1 _ (turn_list a _) ⟨_, Heap.get?_push_size _ rfl, rfl, rfl⟩ q)
  · obtain ⟨its, rv, pl, hz⟩ := I1.tuple hq
    exact wpAny_pyIter_tuple (show s1.heap.IsTuple a its.toArray from pl) (pi_one (tk := s1.toks) I1 _ (turn_tuple a _) ⟨_, Heap.get?_push_size _ rfl, rfl, rfl⟩ q)
theorem it_list {a : Addr} {n : Nat} {at_ : Nat → Store → Option D} {fin : Store → Bool} {P : List Addr → Hp → Prop} (mon : ∀ L H L' H', P L H → Mon L H L' H' → P L' H')
    (rd : ∀ S L H i d, Good X.K CA S L H → P L H → at_ i S = some d → ∃ xs vs, SqL X.K H a vs ∧ RelDs X.K L H xs vs ∧ xs[i]? = some d)
    (re : ∀ S L H, Good X.K CA S L H → P L H → fin S = true → ∃ xs vs, SqL X.K H a vs ∧ RelDs X.K L H xs vs ∧ xs.length = n) : ItOk X.K CA (Itl X.K a) ⟨n, at_, fin⟩ P := by
  refine ⟨mon, fun i S L H x g p h _ => ?_, fun S L H g p h => ?_⟩
  · obtain ⟨xs, vs, sq, r, h1⟩ := rd S L H i x g p h
    obtain ⟨v, e1, rv⟩ := r.get h1
    refine ⟨⟨vs, v, sq, e1⟩, fun v' H' y => ?_⟩
    obtain ⟨rfl, y⟩ := y
    have e2 := y vs sq
    rw [e1] at e2; cases e2
    exact ⟨Step.refl, g, rv⟩
  · obtain ⟨xs, vs, sq, r, h2⟩ := re S L H g p h
    exact ⟨vs, sq, by rw [r.length, h2]; exact Nat.le_refl _⟩
theorem it_tup {a : Addr} {n : Nat} {at_ : Nat → Store → Option D} {fin : Store → Bool} {P : List Addr → Hp → Prop} (mon : ∀ L H L' H', P L H → Mon L H L' H' → P L' H')
    (rd : ∀ S L H i d, Good X.K CA S L H → P L H → at_ i S = some d → ∃ xs vs, SqT X.K H a vs ∧ RelDs X.K L H xs vs ∧ xs[i]? = some d)
    (re : ∀ S L H, Good X.K CA S L H → P L H → fin S = true → ∃ xs vs, SqT X.K H a vs ∧ RelDs X.K L H xs vs ∧ xs.length = n) : ItOk X.K CA (Itt X.K a) ⟨n, at_, fin⟩ P := by
  refine ⟨mon, fun i S L H x g p h _ => ?_, fun S L H g p h => ?_⟩
  · obtain ⟨xs, vs, sq, r, h1⟩ := rd S L H i x g p h
    obtain ⟨v, e1, rv⟩ := r.get h1
    refine ⟨⟨vs, v, sq, e1⟩, fun v' H' y => ?_⟩
    obtain ⟨rfl, y⟩ := y
    have e2 := y vs sq
    rw [e1] at e2; cases e2
    exact ⟨Step.refl, g, rv⟩
  · obtain ⟨xs, vs, sq, r, h2⟩ := re S L H g p h
    exact ⟨vs, sq, by rw [r.length, h2]; exact Nat.le_refl _⟩
/-- how a value's list is found again at each turn -/
def Keeps (K : PySem.W.Frag) (d : D) (a : Addr) (L : List Addr) (H : Hp) : Prop := match d with
  | .tup xs => ∃ vs, SqT K H a vs ∧ RelDs K L H xs vs
  | .frt xs => ∃ vs, SqT K H a vs ∧ RelDs K L H xs vs
  | .frl xs => ∃ vs, SqF K H a vs ∧ RelDs K L H xs vs
  | .ref n => L[n]? = some a
  | _ => False
theorem Keeps.mon {d : D} {a : Addr} (h : Keeps X.K d a L H) (m : Mon L H L1 H1) : Keeps X.K d a L1 H1 := by
  cases d with
  | tup xs => obtain ⟨vs, h1, h2⟩ := h; exact ⟨vs, SqT.mon m h1, RelDs.mon m _ _ h2⟩
  | frt xs => obtain ⟨vs, h1, h2⟩ := h; exact ⟨vs, SqT.mon m h1, RelDs.mon m _ _ h2⟩
  | frl xs => obtain ⟨vs, h1, h2⟩ := h; exact ⟨vs, h1.mon m, RelDs.mon m _ _ h2⟩
  | ref n => exact m.get _ _ h
  | _ => exact h
theorem lst_keeps {d : D} {xs : List D} (h : lstOf S d = some xs) {v : V} (r : RelD X.K L H d v) : ∃ a, v = .ref a ∧ Keeps X.K d a L H := by
  cases d <;> simp [lstOf] at h
  · simp only [RelD] at r
    obtain ⟨a, vs, rfl, e, q⟩ := r
    exact ⟨a, rfl, vs, e, q⟩
  · simp only [RelD] at r
    obtain ⟨a, hn, rfl⟩ := r
    exact ⟨a, rfl, hn⟩
theorem keeps_lst (g : Good X.K CA S L H) {d : D} {a : Addr} (k : Keeps X.K d a L H) {xs : List D} (h : lstOf S d = some xs) : ∃ vs, SqL X.K H a vs ∧ RelDs X.K L H xs vs := by
  cases d <;> simp [lstOf] at h
  · subst h
    obtain ⟨vs, h1, h2⟩ := k
    exact ⟨vs, h1.sq, h2⟩
  · obtain ⟨vs, e, r⟩ := getL_rel g h k
    exact ⟨vs, SqL.of e, r⟩
theorem i_seq {tg : Expr} {a : Ex} (ha : PE X e (tE X.K CA G W a)) : PI X tg e (tI X.K CA G W (.seq a)) := by
  refine PI.by_ (pi_seq ha) ?_
  rintro σ H R ⟨S, L, env, g, er, q⟩
  simp only [evI] at q
  refine tE.seq g er q fun d S1 L1 H1 v st g1 er1 r q1 => ?_
  cases hj : seqItr d S1 with
  | none => rw [hj] at q1; exact q1.elim
  | some j =>
    rw [hj] at q1
    have fin := q1 L1 H1 Step.refl g1
    unfold seqItr at hj
    cases hs : seqOf S1 d with
    | none => rw [hs] at hj; cases hj
    | some xs =>
      rw [hs] at hj
      simp only [Option.some.injEq] at hj
      subst hj
      cases d with
      | tup ys =>
        simp only [seqOf, Option.some.injEq] at hs; subst hs
        simp only [RelD] at r
        obtain ⟨b, vs, rfl, sq, rs⟩ := r
        refine ⟨b, rfl, .inr ⟨⟨vs, SqT.of sq⟩, fin _ (fun L H => ∃ vs, SqT X.K H b vs ∧ RelDs X.K L H ys vs) (it_tup (fun L H L' H' ⟨vs, h1, h2⟩ m => ⟨vs, SqT.mon m h1, RelDs.mon m _ _ h2⟩) (fun S L H i d g ⟨vs, h1, h2⟩ h => ⟨ys, vs, h1, h2, ?_⟩) fun S L H g ⟨vs, h1, h2⟩ h => ⟨ys, vs, h1, h2, rfl⟩) ⟨vs, SqT.of sq, rs⟩⟩⟩
        simpa [seqOf] using h
      | frt ys =>
        simp only [seqOf, Option.some.injEq] at hs; subst hs
        simp only [RelD] at r
        obtain ⟨b, vs, rfl, sq, rs⟩ := r
        refine ⟨b, rfl, .inr ⟨⟨vs, sq.sq⟩, fin _ (fun L H => ∃ vs, SqT X.K H b vs ∧ RelDs X.K L H ys vs) (it_tup (fun L H L' H' ⟨vs, h1, h2⟩ m => ⟨vs, SqT.mon m h1, RelDs.mon m _ _ h2⟩) (fun S L H i d g ⟨vs, h1, h2⟩ h => ⟨ys, vs, h1, h2, ?_⟩) fun S L H g ⟨vs, h1, h2⟩ h => ⟨ys, vs, h1, h2, rfl⟩) ⟨vs, sq.sq, rs⟩⟩⟩
        simpa [seqOf] using h
      | frl ys =>
        simp only [seqOf, Option.some.injEq] at hs; subst hs
        simp only [RelD] at r
        obtain ⟨b, vs, rfl, sq, rs⟩ := r
        refine ⟨b, rfl, .inl ⟨⟨vs, sq.sq⟩, fin _ (fun L H => ∃ vs, SqF X.K H b vs ∧ RelDs X.K L H ys vs) (it_list (fun L H L' H' ⟨vs, h1, h2⟩ m => ⟨vs, h1.mon m, RelDs.mon m _ _ h2⟩) (fun S L H i d g ⟨vs, h1, h2⟩ h => ⟨ys, vs, h1.sq, h2, ?_⟩) fun S L H g ⟨vs, h1, h2⟩ h => ⟨ys, vs, h1.sq, h2, rfl⟩) ⟨vs, sq, rs⟩⟩⟩
        simpa [seqOf] using h
      | ref n =>
        simp only [RelD] at r
        obtain ⟨b, hn, rfl⟩ := r
        have hx : getL S1 n = some xs := hs
        obtain ⟨vs, e1, rs⟩ := getL_rel g1 hx hn
        refine ⟨b, rfl, .inl ⟨⟨vs, SqL.of e1⟩, fin _ (fun L H => L[n]? = some b) (it_list (fun L H L' H' h m => m.get _ _ h) (fun S L H i d g hn h => ?_) fun S L H g hn h => ?_) hn⟩⟩
        · simp only [seqOf] at h
          cases hy : getL S n with
          | none => rw [hy] at h; cases h
          | some ys =>
            rw [hy] at h
            obtain ⟨ws, e2, rt⟩ := getL_rel g hy hn
            dsimp only at h
            split at h
            · exact ⟨ys, ws, SqL.of e2, rt, h⟩
            · cases h
        · simp only [seqOf] at h
          cases hy : getL S n with
          | none => rw [hy] at h; cases h
          | some ys =>
            rw [hy] at h
            obtain ⟨ws, e2, rt⟩ := getL_rel g hy hn
            exact ⟨ys, ws, SqL.of e2, rt, of_decide_eq_true h⟩
      | _ => simp [seqOf] at hs
/-- a list by its value, however it is walked -/
theorem lst_at {d : D} {f : Nat → Nat → Nat} {w : Nat → D → D} {j : Itr} (h : lstItr d S f w = some j) : ∃ xs, lstOf S d = some xs ∧ j.n = xs.length ∧ (∀ i S' x, j.at_ i S' = some x → ∃ ys y, lstOf S' d = some ys ∧ ys.length = xs.length ∧ ys[f xs.length i]? = some y ∧ x = w i y) ∧ ∀ S', j.fin S' = true → ∃ ys, lstOf S' d = some ys ∧ ys.length = xs.length := by
  unfold lstItr at h
  split at h
  · rename_i xs hx
    cases h
    refine ⟨xs, hx, rfl, fun i S' x hi => ?_, fun S' hf => ?_⟩
    · dsimp only at hi
      split at hi
      · rename_i ys hy
        split at hi
        · rename_i hl
          rw [Option.map_eq_some_iff] at hi
          obtain ⟨y, e, rfl⟩ := hi
          exact ⟨ys, y, hy, hl, e, rfl⟩
        · cases hi
      · cases hi
    · dsimp only at hf
      split at hf
      · rename_i ys hy
        exact ⟨ys, hy, of_decide_eq_true hf⟩
      · cases hf
  · cases h
theorem i_rvd (ok : Ok X CA G W C) {tg l : Expr} {a : Ex} {q p : Pos} (h1 : gloB C.sc "reversed" = true) (hs : notSt l = true) (ha : PE X l (tE X.K CA G W a)) : PI X tg (.Call (.Name "reversed" q) [l] [] p) (tI X.K CA G W (.rvd a)) := by
  refine PI.by_ (pi_reversed (gl_of ok h1) (ok.free _ (by decide +kernel)) (pa_cons ha pa_nil (star_of hs [] X.env)) (star_of hs [] X.env)) ?_
  rintro σ H R ⟨S, L, env, g, er, q⟩
  simp only [evI] at q
  refine tE.seq g er q fun d S1 L1 H1 v st g1 er1 r q1 => ?_
  cases hj : lstItr d S1 (fun n i => n - 1 - i) (fun _ d => d) with
  | none => rw [hj] at q1; exact q1.elim
  | some j =>
    rw [hj] at q1
    have fin := q1 L1 H1 Step.refl g1
    obtain ⟨xs, hx, en, hat, hfin⟩ := lst_at hj
    obtain ⟨b, rfl, k⟩ := lst_keeps hx r
    obtain ⟨vs, sq, rs⟩ := keeps_lst g1 k hx
    refine ⟨b, vs, rfl, sq, fin _ (Keeps X.K d b) ⟨fun L H L' H' h m => h.mon m, fun i S L H x g k h hi => ?_, fun S L H g k h => by show vs.length ≤ j.n; rw [en, rs.length]; exact Nat.le_refl _⟩ k⟩
    obtain ⟨ys, y, hy, hl, e, rfl⟩ := hat i S x h
    obtain ⟨ws, sw, rw_⟩ := keeps_lst g k hy
    obtain ⟨v, e1, rv⟩ := rw_.get e
    rw [rs.length]
    refine ⟨⟨by rw [← en]; exact hi, ws, v, sw, e1⟩, fun v' H' z => ?_⟩
    obtain ⟨rfl, z⟩ := z
    have e2 := z ws sw
    rw [e1] at e2; cases e2
    exact ⟨Step.refl, g, rv⟩
theorem i_enm (ok : Ok X CA G W C) {tg l : Expr} {a : Ex} {q p : Pos} (ht : isTupE tg = true) (h1 : gloB C.sc "enumerate" = true) (hs : notSt l = true) (ha : PE X l (tE X.K CA G W a)) : PI X tg (.Call (.Name "enumerate" q) [l] [] p) (tI X.K CA G W (.enm a)) := by
  cases tg <;> try (exact absurd ht Bool.false_ne_true)
  refine PI.by_ (pi_enum (gl_of ok h1) (ok.free _ (by decide +kernel)) (pa_cons ha pa_nil (star_of hs [] X.env)) (star_of hs [] X.env)) ?_
  rintro σ H R ⟨S, L, env, g, er, q⟩
  simp only [evI] at q
  refine tE.seq g er q fun d S1 L1 H1 v st g1 er1 r q1 => ?_
  cases hj : lstItr d S1 (fun _ i => i) (fun i d => .tup [.int i, d]) with
  | none => rw [hj] at q1; exact q1.elim
  | some j =>
    rw [hj] at q1
    have fin := q1 L1 H1 Step.refl g1
    obtain ⟨xs, hx, en, hat, hfin⟩ := lst_at hj
    obtain ⟨b, rfl, k⟩ := lst_keeps hx r
    obtain ⟨vs, sq, rs⟩ := keeps_lst g1 k hx
    refine ⟨b, vs, rfl, sq, fin _ (Keeps X.K d b) ⟨fun L H L' H' h m => h.mon m, fun i S L H x g k h hi => ?_, fun S L H g k h => ?_⟩ k⟩
    · obtain ⟨ys, y, hy, hl, e, rfl⟩ := hat i S x h
      obtain ⟨ws, sw, rw_⟩ := keeps_lst g k hy
      obtain ⟨v, e1, rv⟩ := rw_.get e
      refine ⟨⟨ws, v, sw, e1⟩, fun v' H' z => ?_⟩
      obtain ⟨T, x, rfl, hT, rfl, z⟩ := z
      have e2 := z ws sw
      rw [e1] at e2; cases e2
      obtain ⟨st2, g2⟩ := g.side (o := .tup [.int (i : Nat), v]) hT
      refine ⟨st2, g2, ?_⟩
      simp only [RelD]
      exact ⟨T, _, rfl, upd_same, RelDs.cons (by simp [RelD]) (RelDs.cons (rv.step g st2) RelDs.nil)⟩
    · obtain ⟨ys, hy, hl⟩ := hfin S h
      obtain ⟨ws, sw, rw_⟩ := keeps_lst g k hy
      exact ⟨ws, sw, by rw [rw_.length, hl, en]; exact Nat.le_refl _⟩
theorem rng_it {lo hi : Int} {j : Itr} (h : rngItr lo hi = some j) : (-(2 ^ 62) ≤ lo ∧ lo < 2 ^ 62 ∧ -(2 ^ 62) ≤ hi ∧ hi < 2 ^ 62) ∧ ItOk X.K CA (L2.Itr lo (hi - lo).toNat) j fun _ _ => True := by
  unfold rngItr at h
  split at h
  · rename_i hb
    cases h
    refine ⟨hb, fun _ _ _ _ _ _ => True.intro, fun i S L H x g _ h hi => ⟨hi, fun v H' y => ?_⟩, fun S L H g _ _ => Nat.le_refl _⟩
    obtain ⟨rfl, rfl⟩ := y
    dsimp only at h
    cases h
    exact ⟨Step.refl, g, by simp [RelD]⟩
  · cases h
theorem i_rng (ok : Ok X CA G W C) {tg l : Expr} {a : Ex} {q p : Pos} (h1 : gloB C.sc "range" = true) (hs : notSt l = true) (ha : PE X l (tE X.K CA G W a)) : PI X tg (.Call (.Name "range" q) [l] [] p) (tI X.K CA G W (.rng a)) := by
  refine PI.by_ (pi_range1 (gl_of ok h1) (ok.free _ (by decide +kernel)) (pa_cons ha pa_nil (star_of hs [] X.env)) (star_of hs [] X.env)) ?_
  rintro σ H R ⟨S, L, env, g, er, q⟩
  simp only [evI] at q
  refine tE.seq g er q fun d S1 L1 H1 v st g1 er1 r q1 => ?_
  split at q1
  · rename_i k
    split at q1
    · rename_i j hj
      obtain ⟨⟨_, _, b1, b2⟩, io⟩ := rng_it (X := X) (CA := CA) hj
      simp only [RelD] at r; subst r
      refine ⟨k, rfl, b1, b2, ?_⟩
      have := q1 L1 H1 Step.refl g1 _ _ io True.intro
      simpa using this
    · exact q1.elim
  · exact q1.elim
theorem i_rng2 (ok : Ok X CA G W C) {tg l m : Expr} {a b : Ex} {q p : Pos} (h1 : gloB C.sc "range" = true) (hs : notSt l = true) (hs2 : notSt m = true) (ha : PE X l (tE X.K CA G W a)) (hb : PE X m (tE X.K CA G W b)) :
    PI X tg (.Call (.Name "range" q) [l, m] [] p) (tI X.K CA G W (.rng2 a b)) := by
  refine PI.by_ (pi_range2 (gl_of ok h1) (ok.free _ (by decide +kernel)) (pa_cons ha (pa_cons hb pa_nil (star_of hs2 [] X.env)) (star_of hs _ X.env)) (by rw [star_of hs, star_of hs2]; rfl) (star_of hs2 [] X.env)) ?_
  rintro σ H R ⟨S, L, env, g, er, q⟩
  simp only [evI] at q
  refine tE.seq g er q fun d S1 L1 H1 v st g1 er1 r q1 => tE.seq g1 er1 q1 fun d2 S2 L2 H2 v2 st2 g2 er2 r2 q2 => ?_
  split at q2
  · rename_i k1 k2
    split at q2
    · rename_i j hj
      obtain ⟨⟨b1, b2, b3, b4⟩, io⟩ := rng_it (X := X) (CA := CA) hj
      simp only [RelD] at r r2; subst r r2
      exact ⟨k1, k2, rfl, ⟨b1, b2, b3, b4⟩, q2 L2 H2 Step.refl g2 _ _ io True.intro⟩
    · exact q2.elim
  · exact q2.elim
theorem zip_at {x y : D} {j : Itr} (h : zipItr x y S = some j) : ∃ xs ys, lstOf S x = some xs ∧ lstOf S y = some ys ∧ j.n = min xs.length ys.length ∧ (∀ i S' d, j.at_ i S' = some d → ∃ xs' ys' u v, lstOf S' x = some xs' ∧ lstOf S' y = some ys' ∧ xs'[i]? = some u ∧ ys'[i]? = some v ∧ d = .tup [u, v]) ∧ ∀ S', j.fin S' = true → ∃ xs' ys', lstOf S' x = some xs' ∧ lstOf S' y = some ys' ∧ xs'.length = xs.length ∧ ys'.length = ys.length := by
  unfold zipItr at h
  split at h
  · rename_i xs ys hx hy
    cases h
    refine ⟨xs, ys, hx, hy, rfl, fun i S' d hi => ?_, fun S' hf => ?_⟩
    · dsimp only at hi
      split at hi
      · rename_i xs' ys' hx' hy'
        split at hi
        · split at hi
          · rename_i u v hu hv
            cases hi
            exact ⟨xs', ys', u, v, hx', hy', hu, hv, rfl⟩
          · cases hi
        · cases hi
      · cases hi
    · dsimp only at hf
      split at hf
      · rename_i xs' ys' hx' hy'
        have := of_decide_eq_true hf
        exact ⟨xs', ys', hx', hy', this.1, this.2⟩
      · cases hf
  · cases h
theorem i_zip (ok : Ok X CA G W C) {tg l m : Expr} {a b : Ex} {q p : Pos} (ht : isTupE tg = true) (h1 : gloB C.sc "zip" = true) (hs : notSt l = true) (hs2 : notSt m = true) (ha : PE X l (tE X.K CA G W a)) (hb : PE X m (tE X.K CA G W b)) :
    PI X tg (.Call (.Name "zip" q) [l, m] [] p) (tI X.K CA G W (.zip a b)) := by
  cases tg <;> try (exact absurd ht Bool.false_ne_true)
  refine PI.by_ (pi_zip (gl_of ok h1) (ok.free _ (by decide +kernel)) (pa_cons ha (pa_cons hb pa_nil (star_of hs2 [] X.env)) (star_of hs _ X.env)) (star_of hs _ X.env) (by rw [star_of hs2]; rfl)) ?_
  rintro σ H R ⟨S, L, env, g, er, q⟩
  simp only [evI] at q
  refine tE.seq g er q fun d S1 L1 H1 v st g1 er1 r q1 => tE.seq g1 er1 q1 fun d2 S2 L2 H2 v2 st2 g2 er2 r2 q2 => ?_
  cases hj : zipItr d d2 S2 with
  | none => rw [hj] at q2; exact q2.elim
  | some j =>
    rw [hj] at q2
    have fin := q2 L2 H2 Step.refl g2
    obtain ⟨xs, ys, hx, hy, en, hat, hfin⟩ := zip_at hj
    obtain ⟨a1, rfl, k1⟩ := lst_keeps hx (r.step g1 st2)
    obtain ⟨a2, rfl, k2⟩ := lst_keeps hy r2
    obtain ⟨vs, sq, rs⟩ := keeps_lst g2 k1 hx
    obtain ⟨ws, sw, rw_⟩ := keeps_lst g2 k2 hy
    refine ⟨a1, a2, vs, ws, rfl, sq, sw, fin _ (fun L H => Keeps X.K d a1 L H ∧ Keeps X.K d2 a2 L H) ⟨fun L H L' H' h m => ⟨h.1.mon m, h.2.mon m⟩, fun i S L H x g k h hi => ?_, fun S L H g k h => ?_⟩ ⟨k1, k2⟩⟩
    · obtain ⟨xs', ys', u, v, hx', hy', hu, hv, rfl⟩ := hat i S x h
      obtain ⟨vs', sq', rs'⟩ := keeps_lst g k.1 hx'
      obtain ⟨ws', sw', rw'⟩ := keeps_lst g k.2 hy'
      obtain ⟨v1, e1, r1⟩ := rs'.get hu
      obtain ⟨v2, e2, r2⟩ := rw'.get hv
      refine ⟨⟨vs', ws', v1, v2, sq', sw', e1, e2⟩, fun v' H' z => ?_⟩
      obtain ⟨T, x1, x2, rfl, hT, rfl, z1, z2⟩ := z
      have f1 := z1 vs' sq'
      have f2 := z2 ws' sw'
      rw [e1] at f1; cases f1
      rw [e2] at f2; cases f2
      obtain ⟨st3, g3⟩ := g.side (o := .tup [v1, v2]) hT
      refine ⟨st3, g3, ?_⟩
      simp only [RelD]
      exact ⟨T, _, rfl, upd_same, RelDs.cons (r1.step g st3) (RelDs.cons (r2.step g st3) RelDs.nil)⟩
    · obtain ⟨xs', ys', hx', hy', l1, l2⟩ := hfin S h
      obtain ⟨vs', sq', rs'⟩ := keeps_lst g k.1 hx'
      obtain ⟨ws', sw', rw'⟩ := keeps_lst g k.2 hy'
      refine ⟨vs', ws', sq', sw', ?_⟩
      rw [en, rs'.length, rw'.length, l1, l2]
      omega
end
end Lt
set_option maxHeartbeats 1000000
namespace Lt
open PySem PySem.Spec PyProof.Rows L2
section
variable {X : Cx} {CA : Str → Addr} {G : Cxp} {W : WX} {C : MC} {S S' : Store} {L L1 M2 L' : List Addr} {H H1 H2 H' : Hp} {σ σ' : Sl} {e : Expr}
abbrev W0 : WX := fun _ _ _ _ => False
theorem Ok.blk (ok : Ok X CA G W C) (hcd : cold C = true) (sc : Scope) (hk : sc.kind = .function) (s : Shared) (H : Hp) (cd : Addr) (cl : List (Str × Addr)) (fp : List Addr) :
    Ok (X.blk s H sc (compEnvC sc cl cd X.env) fp) CA G W0 (C.blk sc) where
  cal := fun _ => ok.calm hcd
  nm := ok.nm
  nd := ok.nd
  sc := by
    show relabel sc X.env = relS sc C.sc
    rw [← ok.sc]
    rfl
  kind := hk
  tk := takes0
  un := ok.un
  pas := fun _ => PassesOwn.never
  free := ok.free
  fn := fun h => by cases h
  glo := ok.glo
  call := ok.call
  fl := ok.fl
  ms := ok.ms
  mks := ok.mks
  xc := ok.xc
  sb := ok.sb
  fr := fun h => by cases h
  stk := fun h => by cases h
  xo := fun x h => by cases h
  xi := ok.xi
  xf := ok.xf
  tc := fun h => by cases h
  xsc := ok.xsc
  xoc := fun x h => by cases h
  hot := ok.hot
  xcq := fun f h => by cases h
  hotx := fun i a o h => by rw [ok.nopin hcd] at h; cases h
theorem Aft.bindX {α β : Type} {r : R α} {k : α → Store → R β} {P : β → Store → List Addr → Hp → Prop} (h : Aft X.K CA W σ L H (r.bindX k) P) : Aft X.K CA W0 σ' L1 H1 r fun a S1 _ _ => Aft X.K CA W σ L H (k a S1) P := by
  cases r with
  | ok a S1 => exact fun _ _ _ _ => h
  | exc c S1 => exact h.elim
  | bad => exact h
theorem bindX_bind {α β γ : Type} (r : R α) (k : α → Store → R β) (k2 : β → Store → R γ) : (r.bindX k).bind k2 = r.bindX fun a S => (k a S).bind k2 := by
  cases r <;> rfl
theorem Step.side (st : Step L H L1 H1) {D : Addr} {o : HO} (h : H D = some o) (hn : D ∉ L) : H1 D = some o ∧ D ∉ L1 :=
  ⟨st.keep D o h hn, fun hm => by
    rcases st.fresh D hm with z | z
    · exact hn z
    · rw [h] at z; cases z⟩
/-- a list that stood aside becomes a cell -/
theorem Good.adopt (g : Good X.K CA S L H) {D : Addr} {vs : List V} {ds : List Lt.D} (e : H D = some (.lst vs)) (hn : D ∉ L) (r : RelDs X.K L H ds vs) : Good X.K CA (S ++ [.lst ds]) (L ++ [D]) H := by
  have m : Mon L H (L ++ [D]) H := ⟨fun n a h => by rw [List.getElem?_append_left (List.getElem?_eq_some_iff.mp h).1]; exact h, fun _ _ h _ => h⟩
  refine ⟨by simp [g.len], ?_, fun n c' a h1 h2 => ?_⟩
  · rw [List.nodup_append]
    refine ⟨g.nd, by simp, fun x hx y hy => ?_⟩
    rw [List.mem_singleton] at hy
    subst hy
    exact fun e => hn (e ▸ hx)
  · by_cases hlt : n < S.length
    · rw [List.getElem?_append_left hlt] at h1
      rw [List.getElem?_append_left (by rw [g.len]; exact hlt)] at h2
      exact (g.cell n c' a h1 h2).mon m rfl fun _ h => h
    · have en : n = S.length := by
        have := (List.getElem?_eq_some_iff.mp h1).1
        simp at this; omega
      subst en
      rw [List.getElem?_append_right (Nat.le_refl _)] at h1
      rw [List.getElem?_append_right (by rw [g.len]; exact Nat.le_refl _)] at h2
      simp at h1
      simp [g.len] at h2
      subst h1 h2
      exact ⟨vs, e, RelDs.mon m _ _ r⟩
theorem wipe_get (σ : Sl) (j : Nat) : ∀ vs : List Nat, (L2.wipe σ vs)[j]? = if j ∈ vs then (if j < σ.length then some none else none) else σ[j]?
  | [] => by simp [L2.wipe]
  | v :: vs => by
    unfold L2.wipe
    by_cases h : j = v
    · subst h
      by_cases hl : j < σ.length
      · rw [List.getElem?_set_self (by rw [L2.wipe_length]; exact hl)]; simp [hl]
      · rw [List.getElem?_eq_none (by simp [L2.wipe_length]; omega)]; simp [hl]
    · rw [List.getElem?_set_ne (Ne.symm h), wipe_get σ j vs]
      simp [h]
theorem wipe_same {is own : List Nat} (so : SameOut is (L2.wipe σ own) σ') (hs : ∀ i ∈ is, i ∈ own) : L2.wipe σ' own = L2.wipe σ own := by
  have hl : σ'.length = σ.length := so.1.trans (L2.wipe_length σ own)
  refine List.ext_getElem? fun j => ?_
  rw [wipe_get, wipe_get, hl]
  by_cases h : j ∈ own
  · simp [h]
  · rw [if_neg h, if_neg h, so.2 j fun z => h (hs j z), wipe_get, if_neg h]
/-- what a comprehension's test reads -/
def tCond (K : PySem.W.Frag) (CA : Str → Addr) (G : Cxp) : Option Ex → TT
  | none => fun _ H k => k true H
  | some c => tT K CA G W0 c
def cEv (G : Cxt) : Option Ex → Option (Env → Store → R D)
  | none => none
  | some c => some (ev G c)
theorem lc_read (hp0 : G.pin = none) {own : List Nat} {t : Tg} {it : Lt.It} {c : Option Ex} {el : Ex} (hs : ∀ i ∈ tsl t, i ∈ own) {env : Env} (g : Good X.K CA S L H) (er : EnvR X.K G.pin L H env σ) {Q : VK}
    (q : Aft X.K CA W σ L H ((evI G it env S).bind fun j S => (lcGo t j (cEv G c) (ev G el) (wipeE env own) j.n 0 [] S).bind fun ds S => alloc (.lst ds) S) fun d _ L' H' => ∀ v, RelD X.K L' H' d v → Q v H') :
    tLc (tI X.K CA G W it) (tG X.K CA G.pin t) (tCond X.K CA G c) (tE X.K CA G W0 el) own σ H Q := by
  refine ⟨S, L, env, g, er, q.bind.mono fun j S0 L0 H0 ⟨st0, g0, q0⟩ J P io p0 => fun D hD => ?_⟩
  have er0 := er.step g st0
  let Wf : Nat → Nat → Hp → Prop := fun i m Hc => ∃ S L acc vs, Step L0 H0 L Hc ∧ Good X.K CA S L Hc ∧ P L Hc ∧ Hc D = some (.lst vs) ∧ D ∉ L ∧ RelDs X.K L Hc acc vs ∧ i + m = j.n ∧ EnvR X.K G.pin L Hc (wipeE env own) (L2.wipe σ own) ∧
    Aft X.K CA W σ L0 H0 ((lcGo t j (cEv G c) (ev G el) (wipeE env own) m i acc S).bind fun ds S => alloc (.lst ds) S) fun d _ L' H' => ∀ v, RelD X.K L' H' d v → Q v H'
  refine ⟨Wf, ⟨j.n, ?_⟩, ?_⟩
  · obtain ⟨st1, g1⟩ := g0.side (o := .lst []) hD
    exact ⟨S0, L0, [], [], st1, g1, io.mon _ _ _ _ p0 (st1.mon g0), upd_same, g0.fresh hD, RelDs.nil, by omega, (er0.step g0 st1).wipe hp0 own, q0⟩
  · rintro i m Hc ⟨S, L, acc, vs, st, g, p, hd, hn, rs, em, ec, q⟩
    cases m with
    | zero =>
      left
      simp only [lcGo] at q
      split at q
      · rename_i hf
        have ei : i = j.n := by omega
        subst ei
        refine ⟨io.stop S L Hc g p hf, ?_⟩
        have hD0 : H0 D = none := by
          cases z : H0 D with
          | none => rfl
          | some o => rw [hD] at z; cases z
        have g2 := g.adopt hd hn rs
        have st2 : Step L0 H0 (L ++ [D]) Hc := by
          obtain ⟨M, rfl⟩ := st.ext
          refine ⟨⟨M ++ [D], by simp⟩, fun a ha => ?_, st.keep⟩
          rcases List.mem_append.mp ha with h | h
          · exact st.fresh a h
          · rw [List.mem_singleton] at h; subst h; exact .inr hD0
        refine q _ _ st2 g2 (.ref D) ?_
        simp only [RelD]
        exact ⟨D, by rw [← g.len, List.getElem?_append_right (Nat.le_refl _)]; simp, rfl⟩
      · exact q.elim
    | succ k =>
      right
      simp only [lcGo] at q
      split at q
      · exact q.elim
      · rename_i d hat
        split at q
        · exact q.elim
        · rename_i e1 hb
          obtain ⟨hgo, hy⟩ := io.go i S L Hc d g p hat (by omega)
          refine ⟨hgo, Wf (i + 1) k, fun H' w => ⟨k, Nat.lt_succ_self k, w⟩, fun x H' y => ?_⟩
          obtain ⟨st1, g1, rd⟩ := hy x H' y
          refine ⟨S, L, _, d, e1, g1, ec.step g st1, rd, hb, fun σ2 er2 so => ⟨wipe_same so hs, ?_⟩⟩
          -- one more item
          have put : ∀ {S3 : Store} {L3 : List Addr} {H3 : Hp}, Step L H' L3 H3 → Good X.K CA S3 L3 H3 →
              Aft X.K CA W σ L0 H0 ((ev G el e1 S3).bindX fun y S2 => (if acc.length < lim then lcGo t j (cEv G c) (ev G el) (wipeE env own) k (i + 1) (acc ++ [y]) S2 else .bad).bind fun ds S => alloc (.lst ds) S) (fun d _ L' H' => ∀ v, RelD X.K L' H' d v → Q v H') →
              tE X.K CA G W0 el σ2 H3 fun y H4 => ∃ acc, H4 D = some (.lst acc) ∧ acc.length < sizeLine ∧ Wf (i + 1) k (upd H4 D (.lst (acc ++ [y]))) := by
            intro S3 L3 H3 st3 g3 q3
            refine ⟨S3, L3, e1, g3, er2.step g1 st3, (Aft.bindX (σ' := σ2) (L1 := L3) (H1 := H3) q3).more.mono fun y S4 L4 H4 ⟨st4, g4, q4⟩ v rv => ?_⟩
            split at q4
            · rename_i hz
              have sA := (st.trans (st1.trans (st3.trans st4)))
              have sB : Step L Hc L4 H4 := st1.trans (st3.trans st4)
              obtain ⟨hd4, hn4⟩ := sB.side hd hn
              obtain ⟨m5, g5⟩ := g4.other (ys := vs ++ [v]) hn4 hd4
              refine ⟨vs, hd4, by rw [rs.length]; exact small (Nat.le_of_lt hz), S4, L4, acc ++ [y], vs ++ [v], ?_, g5, io.mon _ _ _ _ (io.mon _ _ _ _ p (sB.mon g)) m5, upd_same, hn4, ?_, by omega, (ec.step g sB).mon m5, q4⟩
              · refine ⟨sA.ext, sA.fresh, fun a o h1 h2 => ?_⟩
                rw [upd_ne (by intro z; subst z; rw [hD] at h1; cases h1)]
                exact sA.keep a o h1 h2
              · exact RelDs.append (RelDs.mon m5 _ _ (rs.step g sB)) (RelDs.cons (RelD.mon m5 _ _ rv) RelDs.nil)
            · exact q4.elim
          cases c with
          | none =>
            simp only [cEv] at q
            rw [bindX_bind] at q
            exact iteT (B := Wf (i + 1) k H') (put Step.refl g1 q)
          | some c =>
            simp only [cEv] at q
            rw [bindX_bind] at q
            refine ⟨S, L, e1, g1, er2, (Aft.bindX (σ' := σ2) (L1 := L) (H1 := H') q).more.mono fun b S3 L3 H3 ⟨st3, g3, q3⟩ => ?_⟩
            split at q3
            · rw [bindX_bind] at q3
              exact ⟨true, rfl, iteT (put st3 g3 q3)⟩
            · refine ⟨false, rfl, iteF ?_⟩
              have sB : Step L Hc L3 H3 := st1.trans st3
              obtain ⟨hd4, hn4⟩ := sB.side hd hn
              exact ⟨S3, L3, acc, vs, st.trans sB, g3, io.mon _ _ _ _ p (sB.mon g), hd4, hn4, rs.step g sB, by omega, ec.step g sB, q3⟩
            · exact q3.elim
end
end Lt
set_option maxRecDepth 100000
set_option maxHeartbeats 4000000
namespace Lt
open PySem PySem.Spec PySem.W PySem.Calls PyProof.Rows
section
variable {prog : Program} {w : World} {A : Around} {E : Value → Shared → Prop} {s : Shared} {K : PySem.W.Frag} {x D : Addr} {ox : Obj} {od : Option Obj}
theorem find_data {C : Addr} {name : Str} {a g : Value} (hc : (clsIn K C).isSome = true) (ha : findIn K (.ref C) name = some (some a)) (hg : specialIn K a "__get__" = some (some g)) (ht : takesIn K a = some true) : findObj K C od name = some (.bind g a) := by
  obtain ⟨cd, hc⟩ := Option.isSome_iff_exists.mp hc
  unfold findObj
  rw [hc, Option.bind_some, ha, Option.bind_some]
  simp [hg, ht]
theorem cls_of {Q : Option Value → Shared → Prop} (Z : L2.ExcC K D) (X : K.In s.heap) (I : PySem.W.InstAt s.heap x ox D od) (h : Q (some (.ref D)) { s with toks := s.toks + 1 }) : wpAny (model prog w) A (getAttr? (.ref x) "__class__") Q E s := by
  obtain ⟨hga, hgt, hsub, hdct, ha, hn, htk, hm⟩ := Z
  have hf : findObj K D od "__class__" = some (.bind (.builtin "getset_descriptor.__get__") (.builtin "object.__class__")) := find_data (by obtain ⟨cd, hc, _⟩ := any_some hdct; rw [hc]; rfl) ha hn htk
  obtain ⟨hp, g, d, t, os⟩ := s
  have L0 := I.type (M := model prog w)
  have L1 := looks_findIn (M := model prog w) X hga
  have L2 := looks_findIn (M := model prog w) X hgt
  have L3 := looks_find (M := model prog w) X I hf
  have sub : Looks (model prog w) hp (isInstance (.ref x) (.type "BaseException")) true := L0.andThen (looks_subIn X hsub)
  have hx0 : (false && onTheHeap (Value.builtin "BaseException.__getattribute__")) = false := rfl
  have hx2 : (Value.builtin "BaseException.__getattribute__" == Value.builtin "object.__getattribute__") = false := by decide +kernel
  have hx1 : (onTheHeap (Value.ref D) && Value.builtin "BaseException.__getattribute__" == Value.builtin "object.__getattribute__") = false := by rw [hx2]; rfl
  unfold getAttr? getAttrBy? getAttrBy
  refine wpAny_bind (wpAny_mkText (wpAny_bind (wpAny_attempt (wpAny_holding (wpAny_bind (L0.at (wpAny_bind (L1.at ?_))))))))
  show wpAny _ _ (if (onTheHeap (Value.ref D) && Value.builtin "BaseException.__getattribute__" == Value.builtin "object.__getattribute__") = true then _ else _) _ _ _
  rw [hx1, if_neg Bool.false_ne_true]
  unfold getAttrByItsOwn hookBefore
  refine wpAny_bind ?_
  rw [if_pos (show onTheHeap (Value.ref D) = true from rfl)]
  refine L2.at ?_
  refine wpAny_bind (wpAny_attempt (wpAny_holding ?_))
  unfold callGetattribute
  rw [hx0, if_neg Bool.false_ne_true]
  unfold boundAndCalled
  rw [PySem.F.excAttr_ValueError.ga.bind (.ref x)]
  refine wpAny_bind (wpAny_pure ?_)
  show wpAny _ _ (call (.builtin "BaseException.__getattribute__") [.ref x, .str "__class__" t]) _ _ _
  refine wpAny_call (codeAny_call_builtin PySem.F.excAttr_ValueError.ga.plain PySem.F.entry_bexc_ga ?_)
  refine @check_slot (model prog w) _ _ ⟨hp, g, d, t + 1, os⟩ "BaseException.__getattribute__" "BaseException" "__getattribute__" (.ref x) [.str "__class__" t] [] _ (by decide +kernel) (by decide +kernel) sub (PySem.F.args_bexc_ga (.ref x) (.str "__class__" t)) ?_
  unfold Builtin.«object.__getattribute__»
  refine wpAny_bind (wpAny_of_eq (a := ((Value.ref x : Value), [Value.str "__class__" t])) (by first | rfl | (simp only [slotArgs]; rfl)) ?_)
  refine wpAny_bind (wpAny_pure (wpAny_bind (L0.at (wpAny_bind (L3.at ?_)))))
  show wpAny _ _ (holding [Value.builtin "object.__class__"] (call (.builtin "getset_descriptor.__get__") [.builtin "object.__class__", .ref x, .ref D]) >>= ret) _ _ _
  refine wpAny_bind (wpAny_holding (wpAny_call (class_get (s := ⟨hp, g, d, t + 1, os⟩) (ox := ox) (od := od) X I hm ?_)))
  refine wpAny_pure ?_
  show wpAny _ _ (handedOut (.ref D)) _ _ _
  rw [handedOut_of (v := .ref D) rfl]
  first
    | exact wpAny_pure (wpAny_pure h)
    | exact wpAny_pure h
    | exact wpAny_pure (wpAny_bind (wpAny_pure (wpAny_pure h)))
theorem kitx_exc (Z : L2.ExcC K D) : KitX K (.ref x) (.ref D) (fun h => ∃ od, PySem.W.InstAt h x ox D od) where
  ty := fun _ _ _ ⟨_, I⟩ => I.type
  it := fun _ _ X _ => by
    obtain ⟨cdD, hcD, _⟩ := any_some Z.hd
    unfold clsIn at hcD
    split at hcD
    · rename_i c' d' cd' sl' ho
      intro A' Q' E' s' k q
      unfold isType loadHead
      exact wpAny_bind (wpAny_loadPart (k _ _ (X _ _ ho)) (wpAny_pure q))
    · cases hcD
  ne := fun h tp dd its n sl X htp => by
    obtain ⟨cdD, hcD, _⟩ := any_some Z.hd
    refine Bool.eq_false_iff.mpr fun q => ?_
    have e : D = tp := Value.ref.inj (beq_iff_eq.mp q)
    subst e
    unfold clsIn at hcD
    split at hcD
    · rename_i c' d' cd' sl' ho
      have z := (X _ _ ho).symm.trans htp
      cases z
    · cases hcD
  ca := fun X ⟨_, I⟩ k => cls_of Z X I k
end
open L2
/-- isinstance(e, c), e the error that the suite holds -/
def rIsH (K : PySem.W.Frag) (D a : Addr) (dd : Option Addr) : List V → Hp → VK → Prop := fun xs H Q => ∃ (c : V) (cv : Value) (b : Bool), xs = [.ref a, c] ∧ (∀ u, RelV c u → u = cv) ∧ PySem.W.kitOne K (.ref D) cv = some b ∧ (∀ d, dd = some d → ∃ fs, H d = some (.xd fs)) ∧ Q (.bl b) H
theorem call_isH {X : Cx} {a D : Addr} {oe : Obj} {dd : Option Addr} {pn : List (Addr × Obj)} (C : ExcC X.K D) (hz : Zc (.ref D) dd oe) (hf : ∃ vs, oe.data = .fields vs) : CallR (X.suite a ((a, oe) :: pn)) (.builtin "isinstance") (rIsH X.K D a dd) := by
  intro pins s σ H xs us Q I r h
  obtain ⟨c, cv, b, rfl, hcv, e, hd, q⟩ := h
  cases r with
  | cons rx rr =>
    cases rr with
    | cons rt rr =>
      cases rr
      cases rx
      have ec := hcv _ rt
      subst ec
      obtain ⟨hget, _⟩ := I.pin (a, oe) (List.mem_append.mpr (.inl List.mem_cons_self))
      obtain ⟨vs, hv⟩ := hf
      have J : ∃ od, PySem.W.InstAt s.heap a oe D od := by
        cases dd with
        | none =>
          refine ⟨none, ?_⟩
          obtain ⟨oc, od, oda, osl⟩ := oe
          obtain ⟨h1, h2⟩ := hz
          dsimp only at h1 h2 hv
          subst h1 h2 hv
          exact ⟨hget, rfl, rfl, trivial⟩
        | some d =>
          obtain ⟨fs, ed⟩ := hd d rfl
          have hx : ObjOk X.prog X.w H s.heap d (.xd fs) := I.hok d _ ed
          obtain ⟨mA, hns, hr⟩ := hx
          obtain ⟨od, ho, hl⟩ := lookIn_ns hns
          exact ⟨some od, hget, hz.1, by unfold PySem.W.notCls; rw [hv] <;> rfl, by rw [hz.2]; exact ho⟩
      exact PySem.W.kia_one (kitx_exc C) I.kIn J e (fun z => nomatch z) fun tk => ⟨.bl b, H, I.kept (t' := tk) fun _ _ z => z, rfl, q⟩
section
variable {X : Cx} {CA : Str → Addr} {G : Cxp} {W : WX} {C : MC}
theorem s_xis (ok : Ok X CA G W C) {i : Nat} {z n : Str} {q q1 q2 p : Pos} (h2 : gloB C.sc ("isinstance" : Str) = true) (h4 : gloB C.sc z = true) (h5 : nmOk z = true) (h6 : hsIs C i = true) (h7 : slotB C i n = true) (h8 : visB C.sc n = true) (h9 : nmOk n = true) :
    PE X (.Call (.Name "isinstance" q) [.Name n q1, .Name z q2] [] p) (tE X.K CA G W (.xis i z)) := by
  have e0 := ok.hot
  unfold hsIs at h6
  cases eh : C.hs with
  | none => rw [eh] at h6; cases h6
  | some k =>
    rw [eh] at h6 e0
    have h6 := of_decide_eq_true h6
    subst h6
    cases ep : G.pin with
    | none => rw [ep] at e0; cases e0
    | some pv =>
      obtain ⟨j, a, o⟩ := pv
      rw [ep] at e0
      simp only [Option.map_some, Option.some.injEq] at e0
      subst e0
      obtain ⟨X0, oe, pn, c, rfl, hz, hf, hx, hat⟩ := ok.hotx _ a o ep
      cases ei : G.isc c.cls z with
      | none =>
        refine ⟨fun pins s σ H Q I q => ?_⟩
        obtain ⟨S, L, env, g, er, q⟩ := q
        simp only [ev, xisR, hx, ei] at q
        exact q.elim
      | some b =>
        obtain ⟨xc, cv, hv, hk⟩ := ok.xi _ _ _ ei
        obtain ⟨d1, d2⟩ := nm_of h9
        obtain ⟨d3, d4⟩ := nm_of h5
        have key : ∀ (v : V), (∀ u, RelV v u → u = cv) → PE (X0.suite a ((a, oe) :: pn)) (.Name z q2) (tC v) → PE (X0.suite a ((a, oe) :: pn)) (.Call (.Name "isinstance" q) [.Name n q1, .Name z q2] [] p) (tE X0.K CA G W (.xis k z)) := by
          intro v rv hp
          refine PE.by_ (pe_callB (call_isH xc hz hf) (gl_of ok h2) (ok.free _ (by decide +kernel)) (by decide +kernel) (pa_cons (pe_var (i := k) (by rw [ok.nm]; exact slot_of h7) (by rw [ok.sc]; exact vis_of h8) d1 d2) (pa_cons hp pa_nil (star_of rfl [] _)) (star_of rfl _ _)) (by decide +kernel) (by decide +kernel) (star_of rfl _ _) (by rw [star_of rfl [] _]; rfl)) ?_
          rintro σ H Q ⟨S, L, env, g, er, q⟩
          simp only [ev, xisR, hx, ei] at q
          obtain ⟨p1, p2, p3⟩ := er.pin _ _ _ ep
          refine ⟨_, p1, v, cv, b, rfl, rv, hk, fun d hd => ?_, Aft.bl g q⟩
          cases o with
          | none => cases hd
          | some xd =>
            obtain ⟨x, dd⟩ := xd
            cases hd
            obtain ⟨v, q1, q2⟩ := p3 _ _ rfl
            exact ⟨_, q1⟩
        rcases hv with ⟨hm, rfl⟩ | ⟨hm, rfl, rfl⟩
        · exact key (.ref (CA z)) (fun u r => r) (pe_glob (gl_of ok h4) hm rfl d3)
        · exact key (.ty "ValueError") (fun u r => r) (pe_bltn (gl_of ok h4) hm (by decide +kernel) rfl (by decide +kernel) d3)
theorem s_xcl (ok : Ok X CA G W C) {i : Nat} {f n : Str} {q q1 p : Pos} (h2 : gloB C.sc f = true) (h3 : nmOk f = true) (h4 : C.xq f = true) (h6 : hsIs C i = true) (h7 : slotB C i n = true) (h8 : visB C.sc n = true) (h9 : nmOk n = true) :
    PE X (.Call (.Name f q) [.Name n q1] [] p) (tE X.K CA G W (.xcl i f)) := by
  have e0 := ok.hot
  unfold hsIs at h6
  cases eh : C.hs with
  | none => rw [eh] at h6; cases h6
  | some k =>
    rw [eh] at h6 e0
    have h6 := of_decide_eq_true h6
    subst h6
    cases ep : G.pin with
    | none => rw [ep] at e0; cases e0
    | some pv =>
      obtain ⟨j, a, o⟩ := pv
      rw [ep] at e0
      simp only [Option.map_some, Option.some.injEq] at e0
      subst e0
      obtain ⟨X0, oe, pn, c, rfl, hz, hf, hx, hat⟩ := ok.hotx _ a o ep
      obtain ⟨d1, d2⟩ := nm_of h9
      obtain ⟨d3, d4⟩ := nm_of h3
      obtain ⟨af, fd, ps, kk, sp, F, hr, hm, hk, hb, hs⟩ := ok.xcq f h4
      refine PE.by_ (pe_callE (p := (a, oe)) (E := fun _ _ _ _ => False) F hr rfl hf List.mem_cons_self (gl_of ok h2) hm hk hb (fun σ pins H s e s' I z => ?_) (pa_cons (pe_var (i := k) (by rw [ok.nm]; exact slot_of h7) (by rw [ok.sc]; exact vis_of h8) d1 d2) pa_nil (star_of rfl [] _)) d3 (star_of rfl _ _) (by rfl)) ?_
      · obtain ⟨_, _, _, _, _, _, _, _, _, _, _, _, z⟩ := z
        exact z.elim
      · rintro σ H Q ⟨S, L, env, g, er, q⟩
        simp only [ev, xclR, hx] at q
        obtain ⟨p1, p2, p3⟩ := er.pin _ _ _ ep
        exact ⟨_, p1, hs a oe c o S L H Q _ σ W hz hat g p3 q⟩
theorem s_xat (ok : Ok X CA G W C) {i : Nat} {n : Str} {q p : Pos} (h6 : hsIs C i = true) (h7 : slotB C i n = true) (h8 : visB C.sc n = true) (h9 : nmOk n = true) :
    PE X (.Attribute (.Name n q) "at" p) (tE X.K CA G W (.xat i)) := by
  have e0 := ok.hot
  unfold hsIs at h6
  cases eh : C.hs with
  | none => rw [eh] at h6; cases h6
  | some k =>
    rw [eh] at h6 e0
    have h6 := of_decide_eq_true h6
    subst h6
    cases ep : G.pin with
    | none => rw [ep] at e0; cases e0
    | some pv =>
      obtain ⟨j, a, o⟩ := pv
      rw [ep] at e0
      simp only [Option.map_some, Option.some.injEq] at e0
      subst e0
      obtain ⟨X0, oe, pn, c, rfl, hz, hf, hx, hat⟩ := ok.hotx _ a o ep
      obtain ⟨d1, d2⟩ := nm_of h9
      cases o with
      | none =>
        refine ⟨fun pins s σ H Q I q => ?_⟩
        obtain ⟨S, L, env, g, er, q⟩ := q
        simp only [Option.map_none] at hat
        simp only [ev, xatR, hx, hat] at q
        exact q.elim
      | some xd =>
        obtain ⟨x, d⟩ := xd
        simp only [Option.map_some] at hat
        cases hi : G.isc c.cls c.cls with
        | none =>
          refine ⟨fun pins s σ H Q I q => ?_⟩
          obtain ⟨S, L, env, g, er, q⟩ := q
          simp only [ev, xatR, hx, hat, hi] at q
          exact q.elim
        | some bb =>
        obtain ⟨T, hno⟩ := ok.xf _ _ _ hi
        refine PE.by_ (pe_xf (C := CA c.cls) (cls := .ref (CA c.cls)) (d := some x) T hno hz hf (pe_var (i := k) (by rw [ok.nm]; exact slot_of h7) (by rw [ok.sc]; exact vis_of h8) d1 d2)) ?_
        rintro σ H Q ⟨S, L, env, g, er, q⟩
        simp only [ev, xatR, hx, hat, hi, Option.isSome_some, if_true] at q
        obtain ⟨p1, p2, p3⟩ := er.pin _ _ _ ep
        obtain ⟨v, q1, q2⟩ := p3 _ _ rfl
        refine ⟨.ref a, p1, rfl, rfl, x, _, v, rfl, q1, by simp [List.lookup], Aft.now g q q2⟩
end
end Lt
set_option maxHeartbeats 1000000
namespace Lt
open PySem PySem.Spec PyProof.Rows L2
section
/-- a op1 b op2 c op3 d -/
def tChain4 (r r' r'' : R2) (ta tb tc td : TE) : TE := fun σ H Q => ta σ H fun x H1 => tb σ H1 fun y H2 => r x y H2 fun z H3 => ∃ k, z = .bl k ∧
  (if k = true then tc σ H3 fun w' H4 => r' y w' H4 fun z2 H5 => ∃ k2, z2 = .bl k2 ∧ (if k2 = true then td σ H5 fun u' H6 => r'' w' u' H6 Q else Q (.bl false) H5) else Q (.bl false) H3)
theorem pe_chain4 {X : Cx} {a b c d : Expr} {ta tb tc td : TE} {pos : Pos} {op op' op'' : CmpOp} {r r' r'' : R2} (ho : OpR X (compareOp op) r) (ho' : OpR X (compareOp op') r') (ho'' : OpR X (compareOp op'') r'') (ha : PE X a ta) (hb : PE X b tb) (hc : PE X c tc) (hd : PE X d td)
    (hm : lastMarks [op, op', op''] [b, c, d] = false) : PE X (.Compare a [op, op', op''] [b, c, d] pos) (tChain4 r r' r'' ta tb tc td) := by
  refine ⟨fun pins s σ H Q I h => ?_⟩
  refine Compare_chain (thn (ha.run pins s σ H _ I h) fun v s1 ⟨x, H1, I1, r1, q1⟩ => chain_link (thn (hb.run pins s1 σ H1 _ I1 q1) fun u s2 ⟨y, H2, I2, r2, q2⟩ =>
    thn (ho pins s2 σ H2 x y v u _ I2 r1 r2 q2) fun d s3 ⟨z, H3, I3, r3, k, e, q3⟩ => ?_)) hm
  subst e
  cases r3
  refine wpAny_truthy_bool ?_
  cases k with
  | false => exact ite_ff ⟨.bl false, H3, I3, rfl, q3⟩
  | true =>
    refine ite_tt (chain_link (thn (hc.run pins s3 σ H3 _ I3 q3) fun w' s4 ⟨z', H4, I4, r4, q4⟩ => thn (ho' pins s4 σ H4 y z' u w' _ I4 r2 r4 q4) fun d' s5 ⟨z2, H5, I5, r5, k2, e2, q5⟩ => ?_))
    subst e2
    cases r5
    refine wpAny_truthy_bool ?_
    cases k2 with
    | false => exact ite_ff ⟨.bl false, H5, I5, rfl, q5⟩
    | true => exact ite_tt (chain_last (thn (hd.run pins s5 σ H5 _ I5 q5) fun u' s6 ⟨z3, H6, I6, r6, q6⟩ => ho'' pins s6 σ H6 z' z3 w' u' Q I6 r4 r6 q6))
theorem pt_chain4 {X : Cx} {a b c d : Expr} {ta tb tc td : TE} {pos : Pos} {op op' op'' : CmpOp} {r r' r'' : R2} (ho : OpR X (compareOp op) r) (ho' : OpR X (compareOp op') r') (ho'' : OpR X (compareOp op'') r'') (ha : PE X a ta) (hb : PE X b tb) (hc : PE X c tc) (hd : PE X d td)
    (hm : lastMarks [op, op', op''] [b, c, d] = false) : PT X (.Compare a [op, op', op''] [b, c, d] pos) (tTest (tChain4 r r' r'' ta tb tc td)) := by
  refine ⟨fun pins s σ H Q I h => ?_⟩
  refine isTrue_chain (thn (ha.run pins s σ H _ I h) fun v s1 ⟨x, H1, I1, r1, q1⟩ => test_link (thn (hb.run pins s1 σ H1 _ I1 q1) fun u s2 ⟨y, H2, I2, r2, q2⟩ =>
    thn (ho pins s2 σ H2 x y v u _ I2 r1 r2 q2) fun d s3 ⟨z, H3, I3, r3, k, e, q3⟩ => ?_)) hm
  subst e
  cases r3
  refine wpAny_truthy_bool ?_
  cases k with
  | false =>
    obtain ⟨k', e', q'⟩ := q3
    cases e'
    exact ite_ff ⟨H3, I3, q'⟩
  | true =>
    refine ite_tt (test_link (thn (hc.run pins s3 σ H3 _ I3 q3) fun w' s4 ⟨z', H4, I4, r4, q4⟩ => thn (ho' pins s4 σ H4 y z' u w' _ I4 r2 r4 q4) fun d' s5 ⟨z2, H5, I5, r5, k2, e2, q5⟩ => ?_))
    subst e2
    cases r5
    refine wpAny_truthy_bool ?_
    cases k2 with
    | false =>
      obtain ⟨k', e', q'⟩ := q5
      cases e'
      exact ite_ff ⟨H5, I5, q'⟩
    | true =>
      refine ite_tt (test_last (thn (hd.run pins s5 σ H5 _ I5 q5) fun u' s6 ⟨z3, H6, I6, r6, q6⟩ => thn (ho'' pins s6 σ H6 z' z3 w' u' _ I6 r4 r6 q6) fun d'' s7 ⟨z4, H7, I7, r7, k3, e3, q7⟩ => ?_))
      subst e3
      cases r7
      exact wpAny_truthy_bool ⟨H7, I7, q7⟩
variable {CA : Str → Addr} {G : Cxp} {W : WX} {C : MC} {X : Cx}
theorem s_chn4 (ok : Ok X CA G W C) {o1 o2 o3 : Cm} {p1 p2 p3 : CmpOp} {a b c f : Ex} {l m r t : Expr} {p : Pos} (h1 : cmB o1 p1 = true) (h2 : cmB o2 p2 = true) (h3 : cmB o3 p3 = true) (ha : PE X l (tE X.K CA G W a)) (hb : PE X m (tE X.K CA G W b)) (hc : PE X r (tE X.K CA G W c)) (hf : PE X t (tE X.K CA G W f)) :
    PE X (.Compare l [p1, p2, p3] [m, r, t] p) (tE X.K CA G W (.chn4 o1 o2 o3 a b c f)) ∧ PT X (.Compare l [p1, p2, p3] [m, r, t] p) (tT X.K CA G W (.chn4 o1 o2 o3 a b c f)) := by
  have hm : lastMarks [p1, p2, p3] [m, r, t] = false := nomark t (by intro z; subst z; cases o3 <;> cases h3) (by intro z; subst z; cases o3 <;> cases h3)
  have core : ∀ (σ : Sl) (H : Hp) (P : D → Store → List Addr → Hp → Prop) (Q : VK), (∃ S L env, Good X.K CA S L H ∧ EnvR X.K G.pin L H env σ ∧ Aft X.K CA W σ L H (ev G (.chn4 o1 o2 o3 a b c f) env S) P) → (∀ d S' L' H' v, P d S' L' H' → RelD X.K L' H' d v → Q v H') →
      tChain4 (rBin X.K CA W σ (cmpop o1)) (rBin X.K CA W σ (cmpop o2)) (rBin X.K CA W σ (cmpop o3)) (tE X.K CA G W a) (tE X.K CA G W b) (tE X.K CA G W c) (tE X.K CA G W f) σ H Q := by
    rintro σ H P Q ⟨S, L, env, g, er, q⟩ hP
    simp only [ev] at q
    refine tE.seq g er q fun d1 S1 L1 H1 v1 st1 g1 er1 r1 q1 => tE.seq g1 er1 q1 fun d2 S2 L2 H2 v2 st2 g2 er2 r2 q2 => ⟨S2, L2, d1, d2, g2, r1.step g1 st2, r2, q2.bind.mono fun k S3 L3 H3 ⟨st3, g3, q3⟩ v r => ?_⟩
    split at q3
    · simp only [RelD] at r; subst r
      refine ⟨true, rfl, ?_⟩
      rw [if_pos rfl]
      refine tE.seq g3 (er2.step g2 st3) q3 fun d4 S4 L4 H4 v4 st4 g4 er4 r4 q4 => ⟨S4, L4, d2, d4, g4, (r2.step g2 st3).step g3 st4, r4, q4.bind.mono fun k2 S5 L5 H5 ⟨st5, g5, q5⟩ v r => ?_⟩
      split at q5
      · simp only [RelD] at r; subst r
        refine ⟨true, rfl, ?_⟩
        rw [if_pos rfl]
        exact tE.seq g5 (er4.step g4 st5) q5 fun d6 S6 L6 H6 v6 st6 g6 er6 r6 q6 => ⟨S6, L6, d4, d6, g6, (r4.step g4 st5).step g5 st6, r6, q6.mono fun d S7 L7 H7 z v r => hP _ _ _ _ _ z r⟩
      · simp only [RelD] at r; subst r
        refine ⟨false, rfl, ?_⟩
        rw [if_neg Bool.false_ne_true]
        exact hP _ _ _ _ _ (q5 L5 H5 Step.refl g5) (by simp [RelD])
      · exact q5.elim
    · simp only [RelD] at r; subst r
      refine ⟨false, rfl, ?_⟩
      rw [if_neg Bool.false_ne_true]
      exact hP _ _ _ _ _ (q3 L3 H3 Step.refl g3) (by simp [RelD])
    · exact q3.elim
  refine ⟨⟨fun pins s σ H Q I q => (pe_chain4 (cmp_ok (W := W) ok (cmI_of h1) σ) (cmp_ok (W := W) ok (cmI_of h2) σ) (cmp_ok (W := W) ok (cmI_of h3) σ) ha hb hc hf hm).run pins s σ H Q I ?_⟩, ⟨fun pins s σ H Q I q => (pt_chain4 (cmp_ok (W := W) ok (cmI_of h1) σ) (cmp_ok (W := W) ok (cmI_of h2) σ) (cmp_ok (W := W) ok (cmI_of h3) σ) ha hb hc hf hm).run pins s σ H Q I ?_⟩⟩
  · exact core σ H _ Q q fun d S' L' H' v z r => z v r
  · refine core σ H _ _ q fun d S' L' H' v z r => ?_
    obtain ⟨b, rfl, z⟩ := z
    simp only [RelD] at r
    exact ⟨b, r, z⟩
end
end Lt
set_option maxHeartbeats 1000000
namespace Lt
open PySem PySem.Spec PyProof.Rows L2
section
/-- a op1 b op2 c op3 d op4 f -/
def tChain5 (r r' r'' r3 : R2) (ta tb tc td tf : TE) : TE := fun σ H Q => ta σ H fun x H1 => tb σ H1 fun y H2 => r x y H2 fun z H3 => ∃ k, z = .bl k ∧
  (if k = true then tc σ H3 fun w' H4 => r' y w' H4 fun z2 H5 => ∃ k2, z2 = .bl k2 ∧ (if k2 = true then td σ H5 fun u' H6 => r'' w' u' H6 fun z3 H7 => ∃ k3, z3 = .bl k3 ∧ (if k3 = true then tf σ H7 fun t' H8 => r3 u' t' H8 Q else Q (.bl false) H7) else Q (.bl false) H5) else Q (.bl false) H3)
theorem pe_chain5 {X : Cx} {a b c d f : Expr} {ta tb tc td tf : TE} {pos : Pos} {op op' op'' op3 : CmpOp} {r r' r'' rr : R2} (ho : OpR X (compareOp op) r) (ho' : OpR X (compareOp op') r') (ho'' : OpR X (compareOp op'') r'') (ho3 : OpR X (compareOp op3) rr) (ha : PE X a ta) (hb : PE X b tb) (hc : PE X c tc) (hd : PE X d td) (hf : PE X f tf)
    (hm : lastMarks [op, op', op'', op3] [b, c, d, f] = false) : PE X (.Compare a [op, op', op'', op3] [b, c, d, f] pos) (tChain5 r r' r'' rr ta tb tc td tf) := by
  refine ⟨fun pins s σ H Q I h => ?_⟩
  refine Compare_chain (thn (ha.run pins s σ H _ I h) fun v s1 ⟨x, H1, I1, r1, q1⟩ => chain_link (thn (hb.run pins s1 σ H1 _ I1 q1) fun u s2 ⟨y, H2, I2, r2, q2⟩ =>
    thn (ho pins s2 σ H2 x y v u _ I2 r1 r2 q2) fun d s3 ⟨z, H3, I3, r3, k, e, q3⟩ => ?_)) hm
  subst e
  cases r3
  refine wpAny_truthy_bool ?_
  cases k with
  | false => exact ite_ff ⟨.bl false, H3, I3, rfl, q3⟩
  | true =>
    refine ite_tt (chain_link (thn (hc.run pins s3 σ H3 _ I3 q3) fun w' s4 ⟨z', H4, I4, r4, q4⟩ => thn (ho' pins s4 σ H4 y z' u w' _ I4 r2 r4 q4) fun d' s5 ⟨z2, H5, I5, r5, k2, e2, q5⟩ => ?_))
    subst e2
    cases r5
    refine wpAny_truthy_bool ?_
    cases k2 with
    | false => exact ite_ff ⟨.bl false, H5, I5, rfl, q5⟩
    | true =>
      refine ite_tt (chain_link (thn (hd.run pins s5 σ H5 _ I5 q5) fun u' s6 ⟨z3, H6, I6, r6, q6⟩ => thn (ho'' pins s6 σ H6 z' z3 w' u' _ I6 r4 r6 q6) fun d'' s7 ⟨z4, H7, I7, r7, k3, e3, q7⟩ => ?_))
      subst e3
      cases r7
      refine wpAny_truthy_bool ?_
      cases k3 with
      | false => exact ite_ff ⟨.bl false, H7, I7, rfl, q7⟩
      | true => exact ite_tt (chain_last (thn (hf.run pins s7 σ H7 _ I7 q7) fun u4 s8 ⟨z5, H8, I8, r8, q8⟩ => ho3 pins s8 σ H8 z3 z5 u' u4 Q I8 r6 r8 q8))
theorem pt_chain5 {X : Cx} {a b c d f : Expr} {ta tb tc td tf : TE} {pos : Pos} {op op' op'' op3 : CmpOp} {r r' r'' rr : R2} (ho : OpR X (compareOp op) r) (ho' : OpR X (compareOp op') r') (ho'' : OpR X (compareOp op'') r'') (ho3 : OpR X (compareOp op3) rr) (ha : PE X a ta) (hb : PE X b tb) (hc : PE X c tc) (hd : PE X d td) (hf : PE X f tf)
    (hm : lastMarks [op, op', op'', op3] [b, c, d, f] = false) : PT X (.Compare a [op, op', op'', op3] [b, c, d, f] pos) (tTest (tChain5 r r' r'' rr ta tb tc td tf)) := by
  refine ⟨fun pins s σ H Q I h => ?_⟩
  refine isTrue_chain (thn (ha.run pins s σ H _ I h) fun v s1 ⟨x, H1, I1, r1, q1⟩ => test_link (thn (hb.run pins s1 σ H1 _ I1 q1) fun u s2 ⟨y, H2, I2, r2, q2⟩ =>
    thn (ho pins s2 σ H2 x y v u _ I2 r1 r2 q2) fun d s3 ⟨z, H3, I3, r3, k, e, q3⟩ => ?_)) hm
  subst e
  cases r3
  refine wpAny_truthy_bool ?_
  cases k with
  | false =>
    obtain ⟨k', e', q'⟩ := q3
    cases e'
    exact ite_ff ⟨H3, I3, q'⟩
  | true =>
    refine ite_tt (test_link (thn (hc.run pins s3 σ H3 _ I3 q3) fun w' s4 ⟨z', H4, I4, r4, q4⟩ => thn (ho' pins s4 σ H4 y z' u w' _ I4 r2 r4 q4) fun d' s5 ⟨z2, H5, I5, r5, k2, e2, q5⟩ => ?_))
    subst e2
    cases r5
    refine wpAny_truthy_bool ?_
    cases k2 with
    | false =>
      obtain ⟨k', e', q'⟩ := q5
      cases e'
      exact ite_ff ⟨H5, I5, q'⟩
    | true =>
      refine ite_tt (test_link (thn (hd.run pins s5 σ H5 _ I5 q5) fun u' s6 ⟨z3, H6, I6, r6, q6⟩ => thn (ho'' pins s6 σ H6 z' z3 w' u' _ I6 r4 r6 q6) fun d'' s7 ⟨z4, H7, I7, r7, k3, e3, q7⟩ => ?_))
      subst e3
      cases r7
      refine wpAny_truthy_bool ?_
      cases k3 with
      | false =>
        obtain ⟨k', e', q'⟩ := q7
        cases e'
        exact ite_ff ⟨H7, I7, q'⟩
      | true =>
        refine ite_tt (test_last (thn (hf.run pins s7 σ H7 _ I7 q7) fun u4 s8 ⟨z5, H8, I8, r8, q8⟩ => thn (ho3 pins s8 σ H8 z3 z5 u' u4 _ I8 r6 r8 q8) fun d4 s9 ⟨z6, H9, I9, r9, k4, e4, q9⟩ => ?_))
        subst e4
        cases r9
        exact wpAny_truthy_bool ⟨H9, I9, q9⟩
variable {CA : Str → Addr} {G : Cxp} {W : WX} {C : MC} {X : Cx}
theorem s_chn5 (ok : Ok X CA G W C) {o1 o2 o3 o4 : Cm} {p1 p2 p3 p4 : CmpOp} {a b c f h : Ex} {l m r t u : Expr} {p : Pos} (h1 : cmB o1 p1 = true) (h2 : cmB o2 p2 = true) (h3 : cmB o3 p3 = true) (h4 : cmB o4 p4 = true) (ha : PE X l (tE X.K CA G W a)) (hb : PE X m (tE X.K CA G W b)) (hc : PE X r (tE X.K CA G W c)) (hf : PE X t (tE X.K CA G W f)) (hh : PE X u (tE X.K CA G W h)) :
    PE X (.Compare l [p1, p2, p3, p4] [m, r, t, u] p) (tE X.K CA G W (.chn5 o1 o2 o3 o4 a b c f h)) ∧ PT X (.Compare l [p1, p2, p3, p4] [m, r, t, u] p) (tT X.K CA G W (.chn5 o1 o2 o3 o4 a b c f h)) := by
  have hm : lastMarks [p1, p2, p3, p4] [m, r, t, u] = false := nomark u (by intro z; subst z; cases o4 <;> cases h4) (by intro z; subst z; cases o4 <;> cases h4)
  have core : ∀ (σ : Sl) (H : Hp) (P : D → Store → List Addr → Hp → Prop) (Q : VK), (∃ S L env, Good X.K CA S L H ∧ EnvR X.K G.pin L H env σ ∧ Aft X.K CA W σ L H (ev G (.chn5 o1 o2 o3 o4 a b c f h) env S) P) → (∀ d S' L' H' v, P d S' L' H' → RelD X.K L' H' d v → Q v H') →
      tChain5 (rBin X.K CA W σ (cmpop o1)) (rBin X.K CA W σ (cmpop o2)) (rBin X.K CA W σ (cmpop o3)) (rBin X.K CA W σ (cmpop o4)) (tE X.K CA G W a) (tE X.K CA G W b) (tE X.K CA G W c) (tE X.K CA G W f) (tE X.K CA G W h) σ H Q := by
    rintro σ H P Q ⟨S, L, env, g, er, q⟩ hP
    simp only [ev] at q
    refine tE.seq g er q fun d1 S1 L1 H1 v1 st1 g1 er1 r1 q1 => tE.seq g1 er1 q1 fun d2 S2 L2 H2 v2 st2 g2 er2 r2 q2 => ⟨S2, L2, d1, d2, g2, r1.step g1 st2, r2, q2.bind.mono fun k S3 L3 H3 ⟨st3, g3, q3⟩ v r => ?_⟩
    split at q3
    · simp only [RelD] at r; subst r
      refine ⟨true, rfl, ?_⟩
      rw [if_pos rfl]
      refine tE.seq g3 (er2.step g2 st3) q3 fun d4 S4 L4 H4 v4 st4 g4 er4 r4 q4 => ⟨S4, L4, d2, d4, g4, (r2.step g2 st3).step g3 st4, r4, q4.bind.mono fun k2 S5 L5 H5 ⟨st5, g5, q5⟩ v r => ?_⟩
      split at q5
      · simp only [RelD] at r; subst r
        refine ⟨true, rfl, ?_⟩
        rw [if_pos rfl]
        refine tE.seq g5 (er4.step g4 st5) q5 fun d6 S6 L6 H6 v6 st6 g6 er6 r6 q6 => ⟨S6, L6, d4, d6, g6, (r4.step g4 st5).step g5 st6, r6, q6.bind.mono fun k3 S7 L7 H7 ⟨st7, g7, q7⟩ v r => ?_⟩
        split at q7
        · simp only [RelD] at r; subst r
          refine ⟨true, rfl, ?_⟩
          rw [if_pos rfl]
          exact tE.seq g7 (er6.step g6 st7) q7 fun d8 S8 L8 H8 v8 st8 g8 er8 r8 q8 => ⟨S8, L8, d6, d8, g8, (r6.step g6 st7).step g7 st8, r8, q8.mono fun d S9 L9 H9 z v r => hP _ _ _ _ _ z r⟩
        · simp only [RelD] at r; subst r
          refine ⟨false, rfl, ?_⟩
          rw [if_neg Bool.false_ne_true]
          exact hP _ _ _ _ _ (q7 L7 H7 Step.refl g7) (by simp [RelD])
        · exact q7.elim
      · simp only [RelD] at r; subst r
        refine ⟨false, rfl, ?_⟩
        rw [if_neg Bool.false_ne_true]
        exact hP _ _ _ _ _ (q5 L5 H5 Step.refl g5) (by simp [RelD])
      · exact q5.elim
    · simp only [RelD] at r; subst r
      refine ⟨false, rfl, ?_⟩
      rw [if_neg Bool.false_ne_true]
      exact hP _ _ _ _ _ (q3 L3 H3 Step.refl g3) (by simp [RelD])
    · exact q3.elim
  refine ⟨⟨fun pins s σ H Q I q => (pe_chain5 (cmp_ok (W := W) ok (cmI_of h1) σ) (cmp_ok (W := W) ok (cmI_of h2) σ) (cmp_ok (W := W) ok (cmI_of h3) σ) (cmp_ok (W := W) ok (cmI_of h4) σ) ha hb hc hf hh hm).run pins s σ H Q I ?_⟩, ⟨fun pins s σ H Q I q => (pt_chain5 (cmp_ok (W := W) ok (cmI_of h1) σ) (cmp_ok (W := W) ok (cmI_of h2) σ) (cmp_ok (W := W) ok (cmI_of h3) σ) (cmp_ok (W := W) ok (cmI_of h4) σ) ha hb hc hf hh hm).run pins s σ H Q I ?_⟩⟩
  · exact core σ H _ Q q fun d S' L' H' v z r => z v r
  · refine core σ H _ _ q fun d S' L' H' v z r => ?_
    obtain ⟨b, rfl, z⟩ := z
    simp only [RelD] at r
    exact ⟨b, r, z⟩
end
end Lt
set_option maxHeartbeats 1000000
namespace Lt
open PySem PySem.Spec PyProof.Rows L2
section
variable {X : Cx} {CA : Str → Addr} {G : Cxp} {W : WX} {C : MC} {S S' : Store} {L L1 L2' L' : List Addr} {H H1 H2 H' : Hp} {σ : Sl} {e : Expr}
theorem s_any : PE X e (tE X.K CA G W .any) := by
  refine ⟨fun pins s σ H Q I ⟨S, L, env, g, er, q⟩ => ?_⟩
  simp only [ev] at q
  exact q.elim
theorem s_ntB {a : Ex} {b : Bool} {l : Expr} {k : Nat} {p p2 : Pos} (ha : PE X l (tE X.K CA G W a)) :
    PE X (.Compare l [.IsNot] [.Constant (.bool b) k p2] p) (tE X.K CA G W (.ntB a b)) ∧ PT X (.Compare l [.IsNot] [.Constant (.bool b) k p2] p) (tT X.K CA G W (.ntB a b)) := by
  refine ⟨PE.by_ (pe_cmpR op_notBl ha pe_bl rfl) ?_, PT.by_ (pt_cmpR op_notBl ha pe_bl rfl) ?_⟩
  · rintro σ H Q ⟨S, L, env, g, er, q⟩
    simp only [ev] at q
    refine tE.seq g er q fun d S1 L1 H1 v st g1 er1 r1 q1 => ?_
    unfold ntBR at q1
    split at q1
    · simp only [RelD] at r1
      subst r1
      exact ⟨_, _, rfl, rfl, Aft.now g1 q1 (by simp [RelD])⟩
    · exact q1.elim
  · rintro σ H Q ⟨S, L, env, g, er, q⟩
    simp only [ev] at q
    refine tE.seq g er q fun d S1 L1 H1 v st g1 er1 r1 q1 => ?_
    unfold ntBR at q1
    split at q1
    · simp only [RelD] at r1
      subst r1
      obtain ⟨c, e, z⟩ := q1 L1 H1 Step.refl g1
      cases e
      exact ⟨_, _, rfl, rfl, _, rfl, z⟩
    · exact q1.elim
theorem s_dic {t : Bool} {p : Pos} : PE X (.Dict [] [] p) (tE X.K CA G W (.dic t)) := by
  cases t with
  | false =>
    refine PE.by_ pe_dnewK ?_
    rintro σ H Q ⟨S, L, env, g, er, q⟩ p hp
    simp only [ev, if_neg Bool.false_ne_true] at q
    exact Aft.laid g q hp ⟨[], upd_same, rfl, RelDs.nil⟩
  | true =>
    refine PE.by_ pe_dnewT ?_
    rintro σ H Q ⟨S, L, env, g, er, q⟩ p hp
    simp only [ev, if_pos] at q
    exact Aft.laid g q hp ⟨[], upd_same, rfl, RelDs.nil⟩
section
variable {κ : Type} [DecidableEq κ]
theorem look_rel : ∀ {kvs : List (κ × D)} {vs : List (κ × V)} {k : κ}, vs.map (·.1) = kvs.map (·.1) → RelDs X.K L H (kvs.map (·.2)) (vs.map (·.2)) →
    (∀ d, lookK kvs k = some d → ∃ v, valV vs k = some v ∧ RelD X.K L H d v) ∧ (lookK kvs k = none → valV vs k = none)
  | [], [], k, _, _ => ⟨fun d h => (by cases h), fun _ => rfl⟩
  | [], _ :: _, k, h, _ => by simp at h
  | _ :: _, [], k, h, _ => by simp at h
  | (a, x) :: kvs, (b, w) :: vs, k, h, r => by
    simp only [List.map_cons, List.cons.injEq] at h
    obtain ⟨h1, h2⟩ := h
    subst h1
    simp only [List.map_cons, RelDs] at r
    obtain ⟨v, rr, e, r1, r2⟩ := r
    simp only [List.cons.injEq] at e
    obtain ⟨e1, e2⟩ := e
    subst e1 e2
    by_cases hk : b = k
    · have l1 : lookK ((b, x) :: kvs) k = some x := by simp [lookK, hk]
      rw [l1, valV_pos (p := (b, w)) hk]
      exact ⟨fun d h => by cases h; exact ⟨w, rfl, r1⟩, fun h => by cases h⟩
    · have l1 : lookK ((b, x) :: kvs) k = lookK kvs k := by simp [lookK, hk]
      rw [l1, valV_neg (p := (b, w)) hk]
      exact look_rel h2 r2
theorem any_keys {β γ : Type} (k : κ) : ∀ {kvs : List (κ × β)} {vs : List (κ × γ)}, vs.map (·.1) = kvs.map (·.1) → (vs.any fun kv => decide (kv.1 = k)) = (kvs.any fun kv => decide (kv.1 = k))
  | [], [], _ => rfl
  | [], _ :: _, h => by simp at h
  | _ :: _, [], h => by simp at h
  | a :: kvs, b :: vs, h => by
    simp only [List.map_cons, List.cons.injEq] at h
    simp only [List.any_cons, h.1, any_keys k h.2]
theorem mapped_rel (k : κ) {d : D} {v : V} (rd : RelD X.K L H d v) : ∀ {kvs : List (κ × D)} {vs : List (κ × V)}, vs.map (·.1) = kvs.map (·.1) → RelDs X.K L H (kvs.map (·.2)) (vs.map (·.2)) →
    (vs.map (fun kv => if kv.1 = k then (kv.1, v) else kv)).map (·.1) = (kvs.map (fun kv => if kv.1 = k then (kv.1, d) else kv)).map (·.1) ∧ RelDs X.K L H ((kvs.map (fun kv => if kv.1 = k then (kv.1, d) else kv)).map (·.2)) ((vs.map (fun kv => if kv.1 = k then (kv.1, v) else kv)).map (·.2))
  | [], [], _, _ => ⟨rfl, RelDs.nil⟩
  | [], _ :: _, h, _ => by simp at h
  | _ :: _, [], h, _ => by simp at h
  | (a, x) :: kvs, (b, w) :: vs, h, r => by
    simp only [List.map_cons, List.cons.injEq] at h
    obtain ⟨h1, h2⟩ := h
    subst h1
    simp only [List.map_cons, RelDs] at r
    obtain ⟨v', rr, e, r1, r2⟩ := r
    simp only [List.cons.injEq] at e
    obtain ⟨e1, e2⟩ := e
    subst e1 e2
    obtain ⟨i1, i2⟩ := mapped_rel k rd h2 r2
    simp only [List.map_cons]
    by_cases hk : b = k
    · rw [if_pos hk, if_pos hk]
      exact ⟨by simp [i1], RelDs.cons rd i2⟩
    · rw [if_neg hk, if_neg hk]
      exact ⟨by simp [i1], RelDs.cons r1 i2⟩
theorem put_rel (k : κ) {d : D} {v : V} (rd : RelD X.K L H d v) {kvs : List (κ × D)} {vs : List (κ × V)} (h : vs.map (·.1) = kvs.map (·.1)) (r : RelDs X.K L H (kvs.map (·.2)) (vs.map (·.2))) :
    (putK vs k v).map (·.1) = (putKD kvs k d).map (·.1) ∧ RelDs X.K L H ((putKD kvs k d).map (·.2)) ((putK vs k v).map (·.2)) := by
  unfold putK putKD
  rw [any_keys k h]
  split
  · exact mapped_rel k rd h r
  · simp only [List.map_append, List.map_cons, List.map_nil]
    exact ⟨by rw [h], r.append (RelDs.cons rd RelDs.nil)⟩
theorem drop_rel (k : κ) : ∀ {kvs : List (κ × D)} {vs : List (κ × V)}, vs.map (·.1) = kvs.map (·.1) → RelDs X.K L H (kvs.map (·.2)) (vs.map (·.2)) →
    (dropK vs k).map (·.1) = (dropKD kvs k).map (·.1) ∧ RelDs X.K L H ((dropKD kvs k).map (·.2)) ((dropK vs k).map (·.2))
  | [], [], _, _ => ⟨rfl, RelDs.nil⟩
  | [], _ :: _, h, _ => by simp at h
  | _ :: _, [], h, _ => by simp at h
  | (a, x) :: kvs, (b, w) :: vs, h, r => by
    simp only [List.map_cons, List.cons.injEq] at h
    obtain ⟨h1, h2⟩ := h
    subst h1
    simp only [List.map_cons, RelDs] at r
    obtain ⟨v', rr, e, r1, r2⟩ := r
    simp only [List.cons.injEq] at e
    obtain ⟨e1, e2⟩ := e
    subst e1 e2
    obtain ⟨i1, i2⟩ := drop_rel k h2 r2
    by_cases hk : b = k
    · have z1 : dropKD ((b, x) :: kvs) k = dropKD kvs k := by simp [dropKD, hk]
      have z2 : dropK ((b, w) :: vs) k = dropK vs k := by simp [dropK, hk]
      rw [z1, z2]
      exact ⟨i1, i2⟩
    · have z1 : dropKD ((b, x) :: kvs) k = (b, x) :: dropKD kvs k := by simp [dropKD, hk]
      have z2 : dropK ((b, w) :: vs) k = (b, w) :: dropK vs k := by simp [dropK, hk]
      rw [z1, z2]
      exact ⟨by simp [i1], RelDs.cons r1 i2⟩
end
theorem key_rel {y : D} {u : V} {k : Key} (h : keyD y = some k) (r : RelD X.K L H y u) : u = kV k := by
  cases y <;> simp only [keyD, Option.some.injEq] at h <;> first | (cases h; done) | skip
  · subst h; simp only [RelD] at r; exact r
  · subst h; simp only [RelD] at r; exact r
theorem keysO_rel : ∀ {ys : List D} {us : List V} {ks : List Key}, mapO keyD ys = some ks → RelDs X.K L H ys us → us = ks.map kV
  | [], us, ks, h, r => by
    simp only [mapO, Option.some.injEq] at h; subst h
    simp only [RelDs] at r; subst r; rfl
  | y :: ys, us, ks, h, r => by
    simp only [mapO] at h
    split at h
    · rename_i k ks' h1 h2
      cases h
      simp only [RelDs] at r
      obtain ⟨v, vr, rfl, r1, r2⟩ := r
      rw [key_rel h1 r1, keysO_rel h2 r2]; rfl
    · cases h
theorem keys_rel {y : D} {u : V} {k : List Key} (h : keysD y = some k) (r : RelD X.K L H y u) : ∃ b, u = .ref b ∧ H b = some (.tup (k.map kV)) := by
  cases y <;> simp only [keysD] at h <;> first | (cases h; done) | skip
  simp only [RelD] at r
  obtain ⟨p, vs, rfl, e, rs⟩ := r
  exact ⟨p, rfl, by rw [e, keysO_rel h rs]⟩
/-- what is read of a dict -/
theorem dget_rel (g : Good X.K CA S L H) {x y : D} {v u : V} {o : Option D} (h : dgetO S x y = some o) (rx : RelD X.K L H x v) (ry : RelD X.K L H y u) :
    ∃ a w, v = .ref a ∧ DGet H a u w ∧ (∀ d, o = some d → ∃ z, w = some z ∧ RelD X.K L H d z) ∧ (o = none → w = none) := by
  unfold dgetO at h
  split at h
  · rename_i r
    simp only [RelD] at rx
    obtain ⟨a, hn, rfl⟩ := rx
    split at h
    · rename_i kvs e
      obtain ⟨vs, e1, e2, e3⟩ := g.cell r _ a e hn
      rw [Option.map_eq_some_iff] at h
      obtain ⟨k, hk, rfl⟩ := h
      rw [key_rel hk ry]
      obtain ⟨l1, l2⟩ := look_rel (k := k) e2 e3
      exact ⟨a, _, rfl, DGet.k e1, l1, l2⟩
    · rename_i kvs e
      obtain ⟨vs, e1, e2, e3⟩ := g.cell r _ a e hn
      rw [Option.map_eq_some_iff] at h
      obtain ⟨k, hk, rfl⟩ := h
      obtain ⟨b, rfl, eb⟩ := keys_rel hk ry
      obtain ⟨l1, l2⟩ := look_rel (k := k) e2 e3
      exact ⟨a, _, rfl, DGet.t e1 eb, l1, l2⟩
    · cases h
  · cases h
theorem isDct_rel (g : Good X.K CA S L H) {d : D} {v : V} (h : isDct d S = true) (r : RelD X.K L H d v) : ∃ a, v = .ref a ∧ IsD H a := by
  unfold isDct at h
  split at h
  · rename_i n
    simp only [RelD] at r
    obtain ⟨a, hn, rfl⟩ := r
    split at h
    · rename_i kvs e
      obtain ⟨vs, e1, _⟩ := g.cell n _ a e hn
      exact ⟨a, rfl, .inl ⟨vs, .inl e1⟩⟩
    · rename_i kvs e
      obtain ⟨vs, e1, _⟩ := g.cell n _ a e hn
      exact ⟨a, rfl, .inr ⟨vs, .inl e1⟩⟩
    · cases h
  · cases h
theorem noSl_of {k : Expr} (h : notSl k = true) : NoSl k := by
  cases k <;> first | (intro _ _; rfl) | exact absurd h Bool.false_ne_true
theorem s_dgt (ok : Ok X CA G W C) {o k : Ex} {l s : Expr} {p : Pos} (hs : notSl s = true) (ho : PE X l (tE X.K CA G W o)) (hk : PE X s (tE X.K CA G W k)) : PE X (.Subscript l s p) (tE X.K CA G W (.dgt o k)) := by
  have hu : X.A.units + 1 < cLine := by have := ok.un; omega
  refine PE.by_ (pe_dget hu ho hk (noSl_of hs)) ?_
  rintro σ H Q ⟨S, L, env, g, er, q⟩
  simp only [ev] at q
  refine tE.seq g er q fun d S1 L1 H1 v st g1 er1 r1 q1 => tE.seq g1 er1 q1 fun d2 S2 L2 H2 v2 st2 g2 er2 r2 q2 => ?_
  unfold dgtR at q2
  split at q2
  · rename_i d3 hd
    obtain ⟨a, w, rfl, dg, h1, _⟩ := dget_rel g2 hd (r1.step g1 st2) r2
    obtain ⟨z, rfl, rz⟩ := h1 d3 rfl
    exact ⟨a, z, rfl, dg, Aft.now g2 q2 rz⟩
  · exact q2.elim
theorem s_din (ok : Ok X CA G W C) {n : Bool} {o k : Ex} {op : CmpOp} {l r : Expr} {p : Pos} (h : dinB n op = true) (hs : notSet r = true) (hk : PE X l (tE X.K CA G W k)) (ho : PE X r (tE X.K CA G W o)) :
    PE X (.Compare l [op] [r] p) (tE X.K CA G W (.din n k o)) ∧ PT X (.Compare l [op] [r] p) (tT X.K CA G W (.din n k o)) := by
  have hu : X.A.units + 1 < cLine := by have := ok.un; omega
  have core : ∀ (σ : Sl) (H : Hp) (P : D → Store → List Addr → Hp → Prop) (Q : VK), (∃ S L env, Good X.K CA S L H ∧ EnvR X.K G.pin L H env σ ∧ Aft X.K CA W σ L H (ev G (.din n k o) env S) P) → (∀ d S' L' H' v, P d S' L' H' → RelD X.K L' H' d v → Q v H') →
      (tE X.K CA G W k) σ H fun y H1 => (tE X.K CA G W o) σ H1 fun x H2 => ∃ a oo, x = .ref a ∧ DGet H2 a y oo ∧ Q (.bl (if n = true then !oo.isSome else oo.isSome)) H2 := by
    rintro σ H P Q ⟨S, L, env, g, er, q⟩ hP
    simp only [ev] at q
    refine tE.seq g er q fun d S1 L1 H1 v st g1 er1 r1 q1 => tE.seq g1 er1 q1 fun d2 S2 L2 H2 v2 st2 g2 er2 r2 q2 => ?_
    unfold dinR at q2
    split at q2
    · rename_i oo hd
      obtain ⟨a, w, rfl, dg, h1, h2⟩ := dget_rel g2 hd r2 (r1.step g1 st2)
      refine ⟨a, w, rfl, dg, ?_⟩
      have e : w.isSome = oo.isSome := by
        cases oo with
        | none => rw [h2 rfl]; rfl
        | some d => obtain ⟨z, e, _⟩ := h1 d rfl; rw [e]; rfl
      rw [e]
      exact hP _ _ _ _ _ (q2 L2 H2 Step.refl g2) (by simp [RelD])
    · exact q2.elim
  have hb : behindInMarks op r = false := nomark2 r hs
  cases n <;> cases op <;> first | (cases h; done) | skip
  · refine ⟨PE.by_ (pe_cmp (pc_din hu hk ho) hb) fun σ H Q q => core σ H _ Q q fun d S' L' H' v z r => z v r, PT.by_ (pt_cmp (pc_din hu hk ho) hb) fun σ H Q q => core σ H _ (fun x H' => ∃ b, x = .bl b ∧ Q b H') q fun d S' L' H' v z r => ?_⟩
    obtain ⟨b, rfl, z⟩ := z
    simp only [RelD] at r
    exact ⟨b, r, z⟩
  · refine ⟨PE.by_ (pe_cmp (pc_dnotin hu hk ho) hb) fun σ H Q q => core σ H _ Q q fun d S' L' H' v z r => z v r, PT.by_ (pt_cmp (pc_dnotin hu hk ho) hb) fun σ H Q q => core σ H _ (fun x H' => ∃ b, x = .bl b ∧ Q b H') q fun d S' L' H' v z r => ?_⟩
    obtain ⟨b, rfl, z⟩ := z
    simp only [RelD] at r
    exact ⟨b, r, z⟩
theorem star2_of {e f : Expr} (h : notSt e = true) (h2 : notSt f = true) (env : PySem.Env) : starEach [e, f] env = [(false, eval e env), (false, eval f env)] := by
  rw [star_of h, star_of h2]; rfl
theorem m1_of {o e : Expr} {m : Str} {ap cp : Pos} (hc : notCall o = true) (hl : (ap.endLine == cp.line) = true) (hs : notSt e = true) : M1 X o m ap e cp :=
  ⟨base_of hc _ _, few_of hs cp X.env, hl, by rw [star_of hs]; rfl⟩
theorem m2_of {o e f : Expr} {m : Str} {ap cp : Pos} (hc : notCall o = true) (hl : (ap.endLine == cp.line) = true) (hs : notSt e = true) (hs2 : notSt f = true) : M2 X o m ap e f cp :=
  ⟨base_of hc _ _, by rw [star2_of hs hs2]; rfl, hl, by rw [star2_of hs hs2]; rfl⟩
theorem s_get1 (ok : Ok X CA G W C) {o a : Ex} {l r : Expr} {ap cp : Pos} (hc : notCall l = true) (hl : (ap.endLine == cp.line) = true) (hs : notSt r = true) (ho : PE X l (tE X.K CA G W o)) (ha : PE X r (tE X.K CA G W a)) :
    PE X (.Call (.Attribute l "get" ap) [r] [] cp) (tE X.K CA G W (.get1 o a)) := by
  have hu : X.A.units + 1 < cLine := by have := ok.un; omega
  refine PE.by_ (pe_dget1 hu ho ha (m1_of hc hl hs)) ?_
  rintro σ H Q ⟨S, L, env, g, er, q⟩
  simp only [ev] at q
  refine tE.seq g er q fun d S1 L1 H1 v st g1 er1 r1 q1 => ?_
  split at q1
  · rename_i hi
    obtain ⟨b, rfl, isd⟩ := isDct_rel g1 hi r1
    refine ⟨b, rfl, isd, tE.seq g1 er1 q1 fun d2 S2 L2 H2 v2 st2 g2 er2 r2 q2 => ?_⟩
    unfold getR at q2
    split at q2
    · rename_i oo hd
      obtain ⟨b', w, e, dg, h1, h2⟩ := dget_rel g2 hd (r1.step g1 st2) r2
      cases e
      refine ⟨w, dg, ?_⟩
      cases oo with
      | none =>
        rw [h2 rfl]
        exact Aft.now g2 q2 (by simp [RelD])
      | some d3 =>
        obtain ⟨z, rfl, rz⟩ := h1 d3 rfl
        exact Aft.now g2 q2 rz
    · exact q2.elim
  · exact q1.elim
theorem s_get2 (ok : Ok X CA G W C) {o a b : Ex} {l r t : Expr} {ap cp : Pos} (hc : notCall l = true) (hl : (ap.endLine == cp.line) = true) (hs : notSt r = true) (hs2 : notSt t = true) (ho : PE X l (tE X.K CA G W o)) (ha : PE X r (tE X.K CA G W a)) (hb : PE X t (tE X.K CA G W b)) :
    PE X (.Call (.Attribute l "get" ap) [r, t] [] cp) (tE X.K CA G W (.get2 o a b)) := by
  have hu : X.A.units + 1 < cLine := by have := ok.un; omega
  refine PE.by_ (pe_dget2 hu ho ha hb (m2_of hc hl hs hs2)) ?_
  rintro σ H Q ⟨S, L, env, g, er, q⟩
  simp only [ev] at q
  refine tE.seq g er q fun d S1 L1 H1 v st g1 er1 r1 q1 => ?_
  split at q1
  · rename_i hi
    obtain ⟨b, rfl, isd⟩ := isDct_rel g1 hi r1
    refine ⟨b, rfl, isd, tE.seq g1 er1 q1 fun d2 S2 L2 H2 v2 st2 g2 er2 r2 q2 => tE.seq g2 er2 q2 fun d3 S3 L3 H3 v3 st3 g3 er3 r3 q3 => ?_⟩
    unfold getR at q3
    split at q3
    · rename_i oo hd
      obtain ⟨b', w, e, dg, h1, h2⟩ := dget_rel g3 hd ((r1.step g1 st2).step g2 st3) (r2.step g2 st3)
      cases e
      refine ⟨w, dg, ?_⟩
      cases oo with
      | none =>
        rw [h2 rfl]
        exact Aft.now g3 q3 r3
      | some d3 =>
        obtain ⟨z, rfl, rz⟩ := h1 d3 rfl
        exact Aft.now g3 q3 rz
    · exact q3.elim
  · exact q1.elim
/-- a dict is written -/
theorem Aft.putK (g : Good X.K CA S L H) {n : Nat} {kvs : List (Key × D)} {vs ws : List (Key × V)} {a : Addr} {d : D} {Q : VK} (h : Aft X.K CA W σ L H (.ok d (S.set n (.dK kvs))) fun d _ L' H' => ∀ v, RelD X.K L' H' d v → Q v H')
    (hn : L[n]? = some a) (e : H a = some (.dK vs)) (k : ws.map (·.1) = kvs.map (·.1)) (r : RelDs X.K L H (kvs.map (·.2)) (ws.map (·.2))) {v : V} (rd : RelD X.K L H d v) : Q v (upd H a (.dK ws)) := by
  have m : Mon L H L (upd H a (.dK ws)) := ⟨fun _ _ h => h, fun b o eb pb => by
    rw [upd_ne (by intro z; subst z; rw [e] at eb; cases eb; exact pb)]; exact eb⟩
  obtain ⟨st, g1⟩ := g.write (c := .dK kvs) (o := .dK ws) hn ⟨ws, upd_same, k, RelDs.mon m _ _ r⟩
  exact h _ _ st g1 v (RelD.mon m _ _ rd)
theorem s_dpop (ok : Ok X CA G W C) {o a : Ex} {l r : Expr} {ap cp : Pos} (hc : notCall l = true) (hl : (ap.endLine == cp.line) = true) (hs : notSt r = true) (ho : PE X l (tE X.K CA G W o)) (ha : PE X r (tE X.K CA G W a)) :
    PE X (.Call (.Attribute l "pop" ap) [r] [] cp) (tE X.K CA G W (.dpop o a)) := by
  refine PE.by_ (pe_dpop1 ho ha (m1_of hc hl hs)) ?_
  rintro σ H Q ⟨S, L, env, g, er, q⟩
  simp only [ev] at q
  refine tE.seq g er q fun d S1 L1 H1 v st g1 er1 r1 q1 => ?_
  split at q1
  · rename_i hi
    obtain ⟨b, rfl, isd⟩ := isDct_rel g1 hi r1
    refine ⟨b, rfl, isd, tE.seq g1 er1 q1 fun d2 S2 L2 H2 v2 st2 g2 er2 r2 q2 => ?_⟩
    unfold dpopR at q2
    split at q2
    · rename_i n
      split at q2
      · rename_i kvs k e hk
        split at q2
        · rename_i v3 hv
          have r1' := r1.step g1 st2
          simp only [RelD] at r1'
          obtain ⟨b', hn, e9⟩ := r1'
          cases e9
          obtain ⟨vs, e1, e2, e3⟩ := g2.cell n _ b e hn
          obtain ⟨w, hw, rw_⟩ := (look_rel (k := k) e2 e3).1 _ hv
          obtain ⟨d1, d2⟩ := drop_rel k e2 e3
          exact ⟨vs, k, w, e1, key_rel hk r2, hw, Aft.putK g2 q2 hn e1 d1 d2 rw_⟩
        · exact q2.elim
      · exact q2.elim
    · exact q2.elim
  · exact q1.elim
theorem findP_ok (a : PyData) : ∀ (l : List PyData) (j : Nat), findP a l = some j → (∃ z, l[j]? = some z ∧ PyData.eqv z a = true) ∧ ∀ (m : Nat) (z' : PyData), m < j → l[m]? = some z' → PyData.eqv z' a = false
  | [], j, h => by cases h
  | b :: r, j, h => by
    unfold findP at h
    split at h
    · rename_i hb
      cases h
      exact ⟨⟨b, rfl, hb⟩, fun m z' hm _ => by omega⟩
    · rename_i hb
      rw [Option.map_eq_some_iff] at h
      obtain ⟨i, hi, rfl⟩ := h
      obtain ⟨⟨z, h1, h2⟩, h3⟩ := findP_ok a r i hi
      refine ⟨⟨z, by simpa using h1, h2⟩, fun m z' hm hz => ?_⟩
      cases m with
      | zero => simp at hz; subst hz; simpa using hb
      | succ m => exact h3 m z' (by omega) (by simpa using hz)
theorem s_ixo (ok : Ok X CA G W C) {o a : Ex} {l r : Expr} {ap cp : Pos} (hc : notCall l = true) (hl : (ap.endLine == cp.line) = true) (hs : notSt r = true) (ho : PE X l (tE X.K CA G W o)) (ha : PE X r (tE X.K CA G W a)) :
    PE X (.Call (.Attribute l "index" ap) [r] [] cp) (tE X.K CA G W (.ixo o a)) := by
  have hu : X.A.units + 65 < cLine := by have := ok.un; omega
  refine PE.by_ (pe_bm PySem.F.plainAttrs_list PySem.F.slot_list_index PySem.F.type_list_index (mt_indexD hu) ho (pa_cons ha pa_nil (star_of hs [] X.env)) (base_of hc _ _) (few_of hs cp X.env) hl (star_of hs [] X.env) rfl) ?_
  rintro σ H Q ⟨S, L, env, g, er, q⟩
  simp only [ev] at q
  refine tE.seq g er q fun d S1 L1 H1 v st g1 er1 r1 q1 => ?_
  split at q1
  · rename_i hi
    obtain ⟨ty, n, xs, b, vs, rfl, hx, hn, rfl, _⟩ := isLst_rel g1 hi r1
    refine ⟨ty, tE.seq g1 er1 q1 fun d2 S2 L2 H2 v2 st2 g2 er2 r2 q2 => ?_⟩
    unfold ixoR at q2
    split at q2
    · rename_i bs pa h1 h2
      split at q2
      · rename_i j hj
        obtain ⟨a1, a2⟩ := toP_shaped g2 h1 (r1.step g1 st2)
        obtain ⟨b1, b2⟩ := toP_shaped g2 h2 r2
        obtain ⟨⟨z, f1, f2⟩, f3⟩ := findP_ok pa bs j hj
        exact ⟨b, v2, pa, bs, j, z, rfl, rfl, a1, b1, a2, b2, f1, f2, f3, Aft.int g2 q2⟩
      · exact q2.elim
    · exact q2.elim
  · exact q1.elim
theorem few2_of {e f : Expr} (h : notSt e = true) (h2 : notSt f = true) (cp : Pos) (env : PySem.Env) : ((backTo cp (starEach [e, f] env)).all (fun x => !x.1) && (backToKw cp (keywordEach [] env)).all (fun x => x.1.isSome)
      && decide (([e, f] : List Expr).length + ([] : List Keyword).length + (if ([] : List Keyword).isEmpty then 0 else 1) < 30)) = true := by
  rw [star2_of h h2 env]; rfl
theorem s_ins {o i a : Ex} {l r t : Expr} {ap cp : Pos} (hc : notCall l = true) (hl : (ap.endLine == cp.line) = true) (hs : notSt r = true) (hs2 : notSt t = true) (ho : PE X l (tE X.K CA G W o)) (hi : PE X r (tE X.K CA G W i)) (ha : PE X t (tE X.K CA G W a)) :
    PE X (.Call (.Attribute l "insert" ap) [r, t] [] cp) (tE X.K CA G W (.ins o i a)) := by
  refine PE.by_ (pe_bm PySem.F.plainAttrs_list PySem.F.slot_list_insert PySem.F.type_list_insert mt_insert ho (pa_cons hi (pa_cons ha pa_nil (star_of hs2 [] X.env)) (star_of hs _ X.env)) (base_of hc _ _) (few2_of hs hs2 cp X.env) hl (star_of hs _ X.env) (by rw [star_of hs2]; rfl)) ?_
  rintro σ H Q ⟨S, L, env, g, er, q⟩
  simp only [ev] at q
  refine tE.seq g er q fun d S1 L1 H1 v st g1 er1 r1 q1 => ?_
  split at q1
  · rename_i hi
    refine ⟨(isLst_rel g1 hi r1).1, tE.seq g1 er1 q1 fun d2 S2 L2 H2 v2 st2 g2 er2 r2 q2 => tE.seq g2 er2 q2 fun d3 S3 L3 H3 v3 st3 g3 er3 r3 q3 => ?_⟩
    unfold insR at q3
    split at q3
    · rename_i n j
      split at q3
      · rename_i xs hx
        split at q3
        · rename_i hz
          have r1' := (r1.step g1 st2).step g2 st3
          have r2' := r2.step g2 st3
          simp only [RelD] at r1' r2'
          obtain ⟨b, hn, rfl⟩ := r1'
          subst r2'
          obtain ⟨vs, e1, rs⟩ := getL_rel g3 hx hn
          refine ⟨b, vs, j, v3, rfl, rfl, e1, by rw [rs.length]; exact small (Nat.le_of_lt hz.1), hz.2.1, by omega, Aft.set g3 q3 hn e1 (((rs.take _).append (RelDs.cons r3 RelDs.nil)).append (rs.drop _)) fun H' => by simp [RelD]⟩
        · exact q3.elim
      · exact q3.elim
    · exact q3.elim
  · exact q1.elim
theorem RelDs.dropLast {ds : List D} {vs : List V} (h : RelDs X.K L H ds vs) : RelDs X.K L H ds.dropLast vs.dropLast := by
  rw [List.dropLast_eq_take, List.dropLast_eq_take, h.length]
  exact h.take _
theorem RelDs.eraseIdx {ds : List D} {vs : List V} (h : RelDs X.K L H ds vs) (i : Nat) : RelDs X.K L H (ds.eraseIdx i) (vs.eraseIdx i) := by
  rw [List.eraseIdx_eq_take_drop_succ, List.eraseIdx_eq_take_drop_succ]
  exact (h.take _).append (h.drop _)
/-- a list is written, an old item told -/
theorem Aft.setV (g : Good X.K CA S L H) {n : Nat} {ys : List D} {vs ws : List V} {a : Addr} {d : D} {Q : VK} (h : Aft X.K CA W σ L H (.ok d (S.set n (.lst ys))) fun d _ L' H' => ∀ v, RelD X.K L' H' d v → Q v H')
    (hn : L[n]? = some a) (e : H a = some (.lst vs)) (r : RelDs X.K L H ys ws) {v : V} (rd : RelD X.K L H d v) : Q v (upd H a (.lst ws)) := by
  have m : Mon L H L (upd H a (.lst ws)) := ⟨fun _ _ h => h, fun b o eb pb => by
    rw [upd_ne (by intro z; subst z; rw [e] at eb; cases eb; exact pb)]; exact eb⟩
  obtain ⟨st, g1⟩ := g.write (c := .lst ys) (o := .lst ws) hn ⟨ws, upd_same, RelDs.mon m _ _ r⟩
  exact h _ _ st g1 v (RelD.mon m _ _ rd)
theorem s_pop0 {o : Ex} {l : Expr} {ap cp : Pos} (hc : notCall l = true) (hl : (ap.endLine == cp.line) = true) (ho : PE X l (tE X.K CA G W o)) :
    PE X (.Call (.Attribute l "pop" ap) [] [] cp) (tE X.K CA G W (.pop0 o)) := by
  refine PE.by_ (pe_bm0 PySem.F.plainAttrs_list PySem.F.slot_list_pop PySem.F.type_list_pop mt_pop ho (base_of hc _ _) hl) ?_
  rintro σ H Q ⟨S, L, env, g, er, q⟩
  simp only [ev] at q
  refine tE.seq g er q fun d S1 L1 H1 v st g1 er1 r1 q1 => ?_
  unfold pop0R at q1
  split at q1
  · split at q1
    · rename_i n xs hx
      split at q1
      · rename_i y hy
        obtain ⟨ty, _⟩ := isLst_rel g1 (by simp [isLst, hx]) r1
        simp only [RelD] at r1
        obtain ⟨b, hn, rfl⟩ := r1
        obtain ⟨vs, e1, rs⟩ := getL_rel g1 hx hn
        obtain ⟨v, hv, rv⟩ := rs.get hy
        exact ⟨ty, b, vs, v, rfl, rfl, e1, by rw [rs.length]; exact hv, Aft.setV g1 q1 hn e1 rs.dropLast rv⟩
      · exact q1.elim
    · exact q1.elim
  · exact q1.elim
theorem seqIx_ok {j : Int} {n : Nat} (h : 0 ≤ j) (h2 : j.toNat < n) : seqIndex? j n = some j.toNat := by
  unfold seqIndex?
  have h3 : ¬ j < 0 := by omega
  simp only [h3, if_false]
  rw [if_pos]
  simp only [Bool.and_eq_true, decide_eq_true_eq]
  omega
theorem s_pop1 {o a : Ex} {l r : Expr} {ap cp : Pos} (hc : notCall l = true) (hl : (ap.endLine == cp.line) = true) (hs : notSt r = true) (ho : PE X l (tE X.K CA G W o)) (ha : PE X r (tE X.K CA G W a)) :
    PE X (.Call (.Attribute l "pop" ap) [r] [] cp) (tE X.K CA G W (.pop1 o a)) := by
  refine PE.by_ (pe_bm PySem.F.plainAttrs_list PySem.F.slot_list_pop PySem.F.type_list_pop mt_popAt ho (pa_cons ha pa_nil (star_of hs [] X.env)) (base_of hc _ _) (few_of hs cp X.env) hl (star_of hs [] X.env) rfl) ?_
  rintro σ H Q ⟨S, L, env, g, er, q⟩
  simp only [ev] at q
  refine tE.seq g er q fun d S1 L1 H1 v st g1 er1 r1 q1 => ?_
  split at q1
  · rename_i hi
    refine ⟨(isLst_rel g1 hi r1).1, tE.seq g1 er1 q1 fun d2 S2 L2 H2 v2 st2 g2 er2 r2 q2 => ?_⟩
    unfold pop1R at q2
    split at q2
    · rename_i n j
      split at q2
      · rename_i xs hx
        split at q2
        · rename_i y hy
          split at q2
          · rename_i hz
            have r1' := r1.step g1 st2
            simp only [RelD] at r1' r2
            obtain ⟨b, hn, rfl⟩ := r1'
            subst r2
            obtain ⟨vs, e1, rs⟩ := getL_rel g2 hx hn
            obtain ⟨v, hv, rv⟩ := rs.get hy
            have hlt := (List.getElem?_eq_some_iff.mp hv).1
            exact ⟨b, vs, j, j.toNat, v, rfl, rfl, e1, by omega, by omega, seqIx_ok hz.1 hlt, hv, Aft.setV g2 q2 hn e1 (rs.eraseIdx _) rv⟩
          · exact q2.elim
        · exact q2.elim
      · exact q2.elim
    · exact q2.elim
  · exact q1.elim
end
end Lt
set_option maxRecDepth 100000
set_option maxHeartbeats 2000000
namespace Lt
open PySem PySem.Spec PyProof.Rows L2
section
variable {X : Cx} {CA : Str → Addr} {G : Cxp} {W : WX} {C : MC} {S S' : Store} {L L1 M2 L' : List Addr} {H H1 H2 H' : Hp} {σ : Sl} {e : Expr}
/-- a dict that stood aside, empty, is filled and becomes a cell -/
theorem Good.fillK (g : Good X.K CA S L H) {p : Addr} {kvs : List (Key × Lt.D)} {vs : List (Key × V)} (e : H p = some (.dK [])) (hn : p ∉ L) (hk : vs.map (·.1) = kvs.map (·.1)) (r : RelDs X.K L H (kvs.map (·.2)) (vs.map (·.2))) :
    Good X.K CA (S ++ [.dK kvs]) (L ++ [p]) (upd H p (.dK vs)) := by
  have m : Mon L H (L ++ [p]) (upd H p (.dK vs)) := ⟨fun n a h => by rw [List.getElem?_append_left (List.getElem?_eq_some_iff.mp h).1]; exact h, fun a o h hp => by
    rw [upd_ne (by intro z; subst z; rw [e] at h; cases h; exact hp)]; exact h⟩
  refine ⟨by simp [g.len], ?_, fun n c' a h1 h2 => ?_⟩
  · rw [List.nodup_append]
    refine ⟨g.nd, by simp, fun x hx y hy => ?_⟩
    rw [List.mem_singleton] at hy
    subst hy
    exact fun e => hn (e ▸ hx)
  · by_cases hlt : n < S.length
    · rw [List.getElem?_append_left hlt] at h1
      rw [List.getElem?_append_left (by rw [g.len]; exact hlt)] at h2
      have ha : a ∈ L := List.mem_of_getElem? h2
      refine (g.cell n c' a h1 h2).mon m (upd_ne fun z => hn (z ▸ ha)) fun dx ex => ?_
      rw [upd_ne (by intro z; subst z; rw [e] at ex; cases ex)]; exact ex
    · have en : n = S.length := by
        have := (List.getElem?_eq_some_iff.mp h1).1
        simp at this; omega
      subst en
      rw [List.getElem?_append_right (Nat.le_refl _)] at h1
      rw [List.getElem?_append_right (by rw [g.len]; exact Nat.le_refl _)] at h2
      simp at h1
      simp [g.len] at h2
      subst h1 h2
      exact ⟨vs, upd_same, hk, RelDs.mon m _ _ r⟩
/-- each one's reading -/
def AllPE (CA : Str → Addr) (G : Cxp) (X : Cx) (W : WX) : List Ex → List Expr → Prop
  | [], [] => True
  | x :: xs, e :: es => PE X e (tE X.K CA G W x) ∧ AllPE CA G X W xs es
  | _, _ => False
/-- the readings of the pairs -/
def prs (K : PySem.W.Frag) (CA : Str → Addr) (G : Cxp) (W : WX) : List Ex → List (TE × TE)
  | k :: v :: r => (tE K CA G W k, tE K CA G W v) :: prs K CA G W r
  | _ => []
theorem pps_of : ∀ {ks : List (Option Expr)} {vs xs : List Expr} {es : List Ex} {p : Pos}, flatE ks vs = some xs → AllPE CA G X W es xs → PPs X p ks vs (prs X.K CA G W es) ∧ ks.all (·.isSome) = true ∧ ks.length = vs.length
  | [], [], xs, es, p, h, a => by
    simp only [flatE, Option.some.injEq] at h; subst h
    cases es with
    | nil => exact ⟨pps_nil, rfl, rfl⟩
    | cons _ _ => exact a.elim
  | some k :: ks, v :: vs, xs, es, p, h, a => by
    simp only [flatE, Option.map_eq_some_iff] at h
    obtain ⟨r, h1, rfl⟩ := h
    cases es with
    | nil => exact a.elim
    | cons x es =>
      obtain ⟨a1, a2⟩ := a
      cases es with
      | nil => exact a2.elim
      | cons y es =>
        obtain ⟨a2, a3⟩ := a2
        obtain ⟨h2, h3, h4⟩ := pps_of (p := p) h1 a3
        exact ⟨pps_cons a1 a2 h2, by simpa using h3, by simp [h4]⟩
  | none :: ks, _, xs, es, p, h, a => by simp [flatE] at h
  | some k :: ks, [], xs, es, p, h, a => by simp [flatE] at h
  | [], v :: vs, xs, es, p, h, a => by simp [flatE] at h
/-- pairs stand for pairs -/
def RelPs (K : PySem.W.Frag) (L : List Addr) (H : Hp) : List Lt.D → List (V × V) → Prop
  | [], ps => ps = []
  | k :: v :: r, ps => ∃ x y t, ps = (x, y) :: t ∧ RelD K L H k x ∧ RelD K L H v y ∧ RelPs K L H r t
  | [_], _ => False
theorem keyV {K : PySem.W.Frag} {d : Lt.D} {k : Key} (h : keyD d = some k) {v : V} (r : RelD K L H d v) : v = kV k := by
  cases d <;> simp [keyD] at h
  · subst h; simp only [RelD] at r; rw [r]; rfl
  · subst h; simp only [RelD] at r; rw [r]; rfl
theorem pairs_rel : ∀ {ds : List Lt.D} {ps : List (V × V)} {kvs : List (Key × Lt.D)}, pairsD ds = some kvs → RelPs X.K L H ds ps → ∃ kws : List (Key × V), ps = kws.map (fun kv => (kV kv.1, kv.2)) ∧ kws.map (·.1) = kvs.map (·.1) ∧ RelDs X.K L H (kvs.map (·.2)) (kws.map (·.2))
  | [], ps, kvs, h, r => by
    simp only [pairsD, Option.some.injEq] at h; subst h
    simp only [RelPs] at r; subst r
    exact ⟨[], rfl, rfl, RelDs.nil⟩
  | [_], ps, kvs, h, r => by simp [pairsD] at h
  | k :: v :: t, ps, kvs, h, r => by
    simp only [pairsD] at h
    split at h
    · rename_i kk l h1 h2
      cases h
      simp only [RelPs] at r
      obtain ⟨x, y, t', rfl, r1, r2, r3⟩ := r
      obtain ⟨kws, e1, e2, e3⟩ := pairs_rel h2 r3
      refine ⟨(kk, y) :: kws, ?_, by simp [e2], ?_⟩
      · rw [keyV h1 r1, e1]; rfl
      · exact RelDs.cons r2 e3
    · cases h
theorem put_merge : ∀ {kvs acc : List (Key × Lt.D)} {kws acw : List (Key × V)}, kws.map (·.1) = kvs.map (·.1) → RelDs X.K L H (kvs.map (·.2)) (kws.map (·.2)) → acw.map (·.1) = acc.map (·.1) → RelDs X.K L H (acc.map (·.2)) (acw.map (·.2)) →
    (kws.foldl (fun a kv => putK a kv.1 kv.2) acw).map (·.1) = (kvs.foldl (fun a kv => putKD a kv.1 kv.2) acc).map (·.1) ∧ RelDs X.K L H ((kvs.foldl (fun a kv => putKD a kv.1 kv.2) acc).map (·.2)) ((kws.foldl (fun a kv => putK a kv.1 kv.2) acw).map (·.2))
  | [], acc, kws, acw, h1, _, h3, h4 => by
    have : kws = [] := by simpa using h1
    subst this
    exact ⟨h3, h4⟩
  | (k, d) :: kvs, acc, [], acw, h1, _, _, _ => by simp at h1
  | (k, d) :: kvs, acc, (k', v) :: kws, acw, h1, h2, h3, h4 => by
    simp only [List.map_cons, List.cons.injEq] at h1
    obtain ⟨rfl, h1⟩ := h1
    rw [List.map_cons, List.map_cons] at h2
    simp only [RelDs] at h2
    obtain ⟨w, r, e, h2, h5⟩ := h2
    cases e
    obtain ⟨q1, q2⟩ := put_rel k' h2 h3 h4
    exact put_merge (kvs := kvs) (kws := kws) h1 h5 q1 q2
def Ev2 : List Ex → Prop
  | [] => True
  | [_] => False
  | _ :: _ :: r => Ev2 r
theorem ev2_of : ∀ {ks : List (Option Expr)} {vs xs : List Expr} {es : List Ex}, flatE ks vs = some xs → AllPE CA G X W es xs → Ev2 es
  | [], [], xs, es, h, a => by
    simp only [flatE, Option.some.injEq] at h; subst h
    cases es with
    | nil => exact True.intro
    | cons _ _ => exact a.elim
  | some k :: ks, v :: vs, xs, es, h, a => by
    simp only [flatE, Option.map_eq_some_iff] at h
    obtain ⟨r, h1, rfl⟩ := h
    cases es with
    | nil => exact a.elim
    | cons x es =>
      obtain ⟨a1, a2⟩ := a
      cases es with
      | nil => exact a2.elim
      | cons y es => exact ev2_of (es := es) (ks := ks) (vs := vs) h1 a2.2
  | none :: ks, _, xs, es, h, a => by simp [flatE] at h
  | some k :: ks, [], xs, es, h, a => by simp [flatE] at h
  | [], v :: vs, xs, es, h, a => by simp [flatE] at h
theorem pairs_read : ∀ {es : List Ex} {env : Lt.Env} {S : Store} {L : List Addr} {H : Hp} {p : Addr} {Q : List (V × V) → Hp → Prop} {P : List Lt.D → Store → List Addr → Hp → Prop}, Ev2 es → Good X.K CA S L H → EnvR X.K G.pin L H env σ → H p = some (.dK []) → p ∉ L →
    Aft X.K CA W σ L H (evs G es env S) P → (∀ ds S1 L1 H1 ps, Step L H L1 H1 → Good X.K CA S1 L1 H1 → P ds S1 L1 H1 → RelPs X.K L1 H1 ds ps → Q ps H1) → tPairs (prs X.K CA G W es) σ H Q
  | [], env, S, L, H, p, Q, P, _, g, er, hp, hn, h, m => by
    simp only [evs] at h
    exact m [] S L H [] Step.refl g (h L H Step.refl g) rfl
  | [_], env, S, L, H, p, Q, P, z, g, er, hp, hn, h, m => z.elim
  | k :: v :: r, env, S, L, H, p, Q, P, z, g, er, hp, hn, h, m => by
    simp only [evs] at h
    refine tE.seq g er h fun d1 S1 L1 H1 v1 st1 g1 er1 r1 q1 => ?_
    refine tE.seq g1 er1 q1.bind fun d2 S2 L2 H2 v2 st2 g2 er2 r2 q2 => ?_
    obtain ⟨hp2, hn2⟩ := (st1.trans st2).side hp hn
    refine pairs_read (es := r) z g2 er2 hp2 hn2 q2.bind fun ds S3 L3 H3 ps st3 g3 hP rel => ?_
    obtain ⟨_, _, h3⟩ := hP
    obtain ⟨_, _, h4⟩ := h3 L3 H3 Step.refl g3
    exact m (d1 :: d2 :: ds) S3 L3 H3 ((v1, v2) :: ps) (st1.trans (st2.trans st3)) g3 (h4 L3 H3 Step.refl g3) ⟨v1, v2, ps, rfl, (r1.step g1 st2).step g2 st3, r2.step g2 st3, rel⟩
theorem s_dsp {ks : List (Option Expr)} {vs xs : List Expr} {es : List Ex} {p : Pos} (hf : flatE ks vs = some xs) (h15 : ks.length ≤ 15) (a : AllPE CA G X W es xs) (h0 : es ≠ []) : PE X (.Dict ks vs p) (tE X.K CA G W (.dsp es)) := by
  obtain ⟨hpp, hall, hl⟩ := pps_of (p := p) hf a
  have hk : ks ≠ [] := by
    intro z
    subst z
    cases vs with
    | nil =>
      simp only [flatE, Option.some.injEq] at hf; subst hf
      cases es with
      | nil => exact h0 rfl
      | cons _ _ => exact a.elim
    | cons _ _ => simp at hl
  refine PE.by_ (pe_disp hpp hall hl hk h15) ?_
  rintro σ H Q ⟨S, L, env, g, er, q⟩
  simp only [ev] at q
  intro pa hpa
  obtain ⟨st0, g0⟩ := g.side (o := .dK []) hpa
  have hn0 := g.fresh hpa
  refine pairs_read (p := pa) (ev2_of hf a) g0 (er.step g st0) upd_same hn0 (Aft.from st0 q.bind0) fun ds S1 L1 H1 ps st1 g1 hP rel => ?_
  have h3 := hP
  obtain ⟨hp1, hn1⟩ := st1.side upd_same hn0
  refine ⟨hp1, ?_⟩
  unfold dspR at h3
  split at h3
  · rename_i kvs hkv
    split at h3
    · rename_i h15'
      obtain ⟨kws, e1, e2, e3⟩ := pairs_rel hkv rel
      refine ⟨kws, e1, by have := congrArg List.length e2; simp at this; omega, ?_⟩
      obtain ⟨m1, m2⟩ := put_merge (acc := []) (acw := []) e2 e3 rfl RelDs.nil
      have g2 := g1.fillK (kvs := mergeD kvs) (vs := mergeK [] kws) hp1 hn1 m1 m2
      have stT := st0.trans st1
      have st2 : Step L H (L1 ++ [pa]) (upd H1 pa (.dK (mergeK [] kws))) := by
        refine ⟨?_, fun x hx => ?_, fun x o ex hx => ?_⟩
        · obtain ⟨M, rfl⟩ := stT.ext
          exact ⟨M ++ [pa], by simp⟩
        · rcases List.mem_append.mp hx with z | z
          · exact stT.fresh x z
          · rw [List.mem_singleton] at z; subst z; exact .inr hpa
        · rw [upd_ne (by intro z; subst z; rw [hpa] at ex; cases ex)]
          exact stT.keep x o ex hx
      refine h3 _ _ st2 g2 (.ref pa) ?_
      simp only [RelD]
      exact ⟨pa, by rw [← g1.len, List.getElem?_append_right (Nat.le_refl _)]; simp, rfl⟩
    · exact h3.elim
  · exact h3.elim
end
end Lt
namespace L2
open PySem PySem.Spec PyProof.Rows
/-- what named clauses wish of an exception of the body, one after the other -/
def wNam (K : PySem.W.Frag) (Wout : WX) (D : Ends) : List (Nat × Value × (Addr → Value → Option Addr → TS)) → WX
  | [] => Wout
  | (i, c, ts) :: r => fun cls d σ H => ∃ b, PySem.W.exmOne K cls c = some b ∧
      (b = true → ∀ a, H a = none → ts a cls d { nx := fun σ' H' => D.nx (σ'.set i none) H', rt := D.rt, bk := fun σ' H' => D.bk (σ'.set i none) H', ct := fun σ' H' => D.ct (σ'.set i none) H' } (σ.set i (some (.ref a))) H) ∧
      (b = false → wNam K Wout D r cls d σ H)
inductive HdsN (X : Cx) : List ExceptHandler → List (Nat × Value × (Addr → Value → Option Addr → TS)) → Prop
  | nil : HdsN X [] []
  | cons {x n : Str} {i : Nat} {c : Value} {ts : Addr → Value → Option Addr → TS} {b₀ : Stmt} {suite : List Stmt} {np pos' : Pos} {hds : List ExceptHandler} {l : List (Nat × Value × (Addr → Value → Option Addr → TS))} (hi : X.N[i]? = some n) (hln : X.env.kindOf n = some .local) (hc : Names X x c)
      (hsu : ∀ (a : Addr) (oe : Obj) (cls : Value) (d : Option Addr) (pn : List (Addr × Obj)), Zc cls d oe → (∃ vs, oe.data = .fields vs) → PSs (X.suite a ((a, oe) :: pn)) (b₀ :: suite) (ts a cls d)) (r : HdsN X hds l) :
      HdsN X (.ExceptHandler (some (.Name x np)) (some n) (b₀ :: suite) pos' :: hds) ((i, c, ts) :: l)
section
variable {X : Cx} {body : List Stmt} {h₀ : ExceptHandler} {hds : List ExceptHandler} {l : List (Nat × Value × (Addr → Value → Option Addr → TS))} {pos : Pos} {tb : WX → TS} {Wout : WX}
theorem ps_try_nam (hs : X.stack = X.env :: X.outer) (hf : X.env.frame = some X.env.locals) (hN : X.N.Nodup) (tk : Takes X Wout)
    (hb : ∀ (W : WX) (pn : List (Addr × Obj)) (xe : Value → Shared → Prop), Takes (X.tr pn xe) W → PassesOwn (model X.prog X.w) X.A X.env xe → PSs (X.tr pn xe) body (tb W))
    (hh : HdsN X (h₀ :: hds) l) : PS X (.Try body (h₀ :: hds) [] [] pos) (fun D σ H => tb (wNam X.K Wout D l) D σ H) := by
  refine ⟨fun pins s σ H D I h => ?_⟩
  have ok := I.ok
  have hfr : X.A.frames = some (X.env :: X.outer) := by rw [ok.frames, hs]
  refine wpAny_Try_except ?_
  refine wpAny_mono ((hb (wNam X.K Wout D l) (X.pn ++ pins) (fun e s₁ => wpAny (model X.prog X.w) X.A (noteFrame e X.env) (fun _ s₂ => wpAny (model X.prog X.w) X.A (setFlight e none) (fun _ s₃ =>
    wpAny (model X.prog X.w) X.A (handleBy e X.env (h₀ :: hds)) (SP X pins D) X.xe s₃) X.xe s₂) X.xe s₁) (fun u s' xx => ?_) PassesOwn.looking).run [] s σ H D (I.toTry _) h) (fun f s1 hsp => ?_) (fun e s1 he => he)
  · obtain ⟨a, B, sI, pins', σ', H', cls, d, rfl, J', nb, up, sky, na, os, ag, w⟩ := xx
    have J : Inv X pins σ' H' sI := J'.ofTry ok
    have sky' : Sky B (X.env :: X.outer) a (Zc cls d) X.env.locals s'.heap := by rw [← hs]; exact sky
    show wpAny (model X.prog X.w) X.A (noteFrame (.ref a) X.env) _ _ _
    refine Sky.land Zc.steady hfr hf sky' fun h3 fl3 up3 => ?_
    have J3 : Inv X pins σ' H' { s' with heap := h3 } := J.landed nb fl3.1 (up.trans up3) os ag
    obtain ⟨oe3, vs3, he3, hz3, hd3⟩ := fl3.there
    have notFr : ∀ {h : Heap} {o : Obj} {vs : Array Value}, h.FunFrames B (X.env :: X.outer) → h.get? a = some o → o.data = .fields vs → a ∉ frs (X.env :: X.outer) := fun {h o vs} ff e dd hm => by
      obtain ⟨_, o', e', hnf⟩ := ff.mem hm
      rw [e] at e'; cases e'
      exact hnf _ dd
    have nfr := notFr fl3.2.2.1 he3 hd3
    have nL : a ≠ X.env.locals := fun z => nfr (List.mem_filterMap.mpr ⟨X.env, List.mem_cons_self, by rw [hf, z]⟩)
    have nF : a ∉ X.fs := fun hm => by
      obtain ⟨e, he, q⟩ := List.mem_filterMap.mp hm
      exact nfr (List.mem_filterMap.mpr ⟨e, List.mem_cons_of_mem _ he, q⟩)
    have S3 := J3.suite he3 hd3 na nL nF
    have go : ∀ {hds' : List ExceptHandler} {l' : List (Nat × Value × (Addr → Value → Option Addr → TS))}, HdsN X hds' l' → wNam X.K Wout D l' cls d σ' H' →
        wpAny (model X.prog X.w) X.A (handleBy (.ref a) X.env hds') (SP X pins D) X.xe { s' with heap := h3 } := by
      intro hds' l' hk
      induction hk with
      | nil =>
        intro w
        refine wpAny_handleBy_nil ?_
        obtain ⟨k1, k2, k3, oe, vs, T, oT, ts', he, hz, hd, h1, hr⟩ := id fl3
        unfold PySem.passOn
        refine wpAny_bind (wpAny_field he hd h1 ?_)
        rw [if_neg (show ¬ ((Value.ref T == Value.none) = true) from by simp)]
        have fin : wpAny (model X.prog X.w) X.A (setFlight (.ref a) X.env.frame) (fun _ s4 => wpAny (model X.prog X.w) X.A (throw (.ref a) : Sem Flow) (SP X pins D) X.xe s4) X.xe { s' with heap := h3 } := by
          rw [hf]
          refine HandSPX.setFlight_upZ fl3 fun h4 hh4 up4 => wpAny_throw (tk _ _ ?_)
          exact ⟨a, B, sI, pins, σ', H', cls, d, rfl, J, nb, (up.trans up3).trans up4, .inr (.inr (by rw [hs]; exact hh4)), na, os, ag, w⟩
        first
          | exact wpAny_bind (wpAny_pure (wpAny_bind fin))
          | exact wpAny_bind fin
      | @cons x n i c ts b₀ suite np pos' hds2 l2 hi hln hc hsu r ih =>
        intro w
        obtain ⟨b, hb1, hyes, hno⟩ := w
        have hloc : Loc X.env.scope n := .inl hln
        refine wpAny_handleBy_cons (codeAny_handlers_test ?_) (by intro q; cases q)
        have LT : PySem.W.Looks (model X.prog X.w) h3 (typeOf (.ref a)) cls := fun A Q E s k q => wpAny_typeOf_ref (k _ _ he3) (by rw [hz3.1]; exact q)
        have LM := PySem.W.exm_one (M := model X.prog X.w) (J3.kIn) LT hb1
        have test : ∀ {Q : Value → Shared → Prop} {E : Value → Shared → Prop}, Q c { s' with heap := h3 } → wpAny (model X.prog X.w) (X.A.mark (some (.ref a))) (eval (.Name x np) X.env) Q E { s' with heap := h3 } := fun {Q E} q => by
          obtain ⟨hg, hdbg, hm | ⟨hm, hv, hnn⟩⟩ := hc
          · exact ld_glob (X := X.suite a ((a, oe3) :: (X.pn ++ pins))) S3 hg hm q hdbg
          · exact ld_blt (X := X.suite a ((a, oe3) :: (X.pn ++ pins))) S3 hg hm hv q hnn hdbg
        refine test (LM.here ?_)
        cases b with
        | true =>
          refine codeAny_handlers_suite_as ?_
          refine HandSPX.lands_againZ fl3 fun h4 fl4 up4 => ?_
          have J4 : Inv X pins σ' H' { s' with heap := h4 } := J.landed nb fl4.1 ((up.trans up3).trans up4) os ag
          obtain ⟨oe4, vs4, he4, hz4, hd4⟩ := fl4.there
          have S4 := J4.suite he4 hd4 na nL nF
          refine store_ok (X := X.suite a ((a, oe4) :: (X.pn ++ pins))) (v := .ref a) S4 hN hi hloc rfl (fun s5 S5 => ?_) (.inr hln)
          refine wpAny_mono ((hsu a oe4 cls d (X.pn ++ pins) hz4 ⟨_, hd4⟩).run [] s5 _ H' _ S5 (hyes rfl a na)) (fun f s6 hsp => ?_) (fun _ _ z => False.elim z)
          have end_ : ∀ {σ6 : St} {H6 : Hp} {Q : Shared → Prop}, Inv (X.suite a ((a, oe4) :: (X.pn ++ pins))) [] σ6 H6 s6 → (∀ s7, Inv X pins (σ6.set i none) H6 s7 → Q s7) →
              wpAny (model X.prog X.w) X.A (do bindName X.env n .none; unbindBehindTheSuite X.env n pos') (fun _ s7 => Q s7) X.xe s6 := fun {σ6 H6 Q} S6 hq => gone_ok (S6.unsuite ok) hN hi hln hq
          cases f with
          | next =>
            obtain ⟨σ6, H6, S6, q6⟩ := hsp
            exact end_ S6 fun s7 J7 => ⟨_, _, J7, q6⟩
          | brk =>
            obtain ⟨σ6, H6, S6, q6⟩ := hsp
            exact end_ S6 fun s7 J7 => ⟨_, _, J7, q6⟩
          | cont =>
            obtain ⟨σ6, H6, S6, q6⟩ := hsp
            exact end_ S6 fun s7 J7 => ⟨_, _, J7, q6⟩
          | ret u =>
            obtain ⟨v6, σ6, H6, S6, r6, q6⟩ := hsp
            exact end_ S6 fun s7 J7 => ⟨_, _, _, J7, r6, q6⟩
        | false =>
          show wpAny _ X.A (handleBy (.ref a) X.env hds2) _ _ _
          exact ih (hno rfl)
    exact go hh w
  · cases f with
    | next =>
      obtain ⟨σ', H', J', q⟩ := hsp
      exact wpAny_execs_nil ⟨σ', H', J'.ofTry ok, q⟩
    | brk =>
      obtain ⟨σ', H', J', q⟩ := hsp
      exact ⟨σ', H', J'.ofTry ok, q⟩
    | cont =>
      obtain ⟨σ', H', J', q⟩ := hsp
      exact ⟨σ', H', J'.ofTry ok, q⟩
    | ret u =>
      obtain ⟨v, σ', H', J', r, q⟩ := hsp
      exact ⟨v, σ', H', J'.ofTry ok, r, q⟩
end
end L2
set_option maxHeartbeats 1000000
namespace Lt
open PySem PySem.Spec PyProof.Rows L2
section
variable {CA : Str → Addr} {G : Cxp}
theorem blk_kind {N : List Str} {sc scope : Scope} {own : List (Str × Nat)} (h : blkC N sc scope own = true) : scope.kind = .function := (blkOk_by h).kind
theorem own_snd (C : MC) (own : List Nat) : (ownL C own).map (·.2) = own := by
  unfold ownL
  rw [List.map_map]
  exact List.map_id' own
/-- a form whose truth is its value's -/
def plainT : Expr → Bool
  | .UnaryOp .Not _ _ => false
  | .BoolOp _ _ _ => false
  | .IfExp _ _ _ _ => false
  | .Compare _ _ _ _ => false
  | _ => true
theorem plain_of {e : Expr} (h : plainT e = true) (env : PySem.Env) : ∀ whole, isTrue e env whole = (do let v ← whole; standAt e.pos; PySem.holding [v] (truthy v)) := by
  intro whole
  cases e with
  | UnaryOp op a p => cases op <;> first | rfl | (exact absurd h Bool.false_ne_true)
  | BoolOp _ _ _ => exact absurd h Bool.false_ne_true
  | IfExp _ _ _ _ => exact absurd h Bool.false_ne_true
  | Compare _ _ _ _ => exact absurd h Bool.false_ne_true
  | _ => rfl
/-- as a value and as a test -/
def Both (CA : Str → Addr) (G : Cxp) (X : Cx) (W : WX) (x : Ex) (e : Expr) : Prop := PE X e (tE X.K CA G W x) ∧ (tOk x = true → PT X e (tT X.K CA G W x) ∧ ((∃ op vs p, e = .BoolOp op vs p) → PW X e (tT X.K CA G W x)))
theorem Both.of {X : Cx} {W : WX} {x : Ex} {e : Expr} (h : PE X e (tE X.K CA G W x)) (hp : plainT e = true) : Both CA G X W x e := ⟨h, fun _ => ⟨s_val h (plain_of hp X.env), fun ⟨op, vs, p, z⟩ => by subst z; cases hp⟩⟩
theorem Both.cm {X : Cx} {W : WX} {x : Ex} {l : Expr} {os : List CmpOp} {rs : List Expr} {p : Pos} (h : PE X (.Compare l os rs p) (tE X.K CA G W x) ∧ PT X (.Compare l os rs p) (tT X.K CA G W x)) : Both CA G X W x (.Compare l os rs p) := ⟨h.1, fun _ => ⟨h.2, fun ⟨op, vs, p, z⟩ => by cases z⟩⟩
theorem set_of {e : Expr} (h : notSet e = true) (env : PySem.Env) : ∀ x, foldedSetIterable e env x = pure x := by
  intro x
  cases e <;> first | rfl | (exact absurd h Bool.false_ne_true)
theorem nd_of {x : Lt.It} {tg : Expr} (h : (!itT x || isTupE tg) = true) : itT x = true → isTupE tg = true := fun z => by rw [z] at h; exact h
mutual
theorem sE : ∀ (x : Ex) {X : Cx} {W : WX} {C : MC} (ok : Ok X CA G W C) {e : Expr}, mE x C e = true → Both CA G X W x e
  | .int i, X, W, C, ok, e, h => by
    obtain ⟨j, k, p, rfl, h⟩ := mInt_inv i h
    have h := of_decide_eq_true h
    subst h
    exact Both.of (PE.by_ pe_int fun σ H Q ⟨S, L, env, g, er, q⟩ => Aft.int g (by simpa only [ev] using q)) rfl
  | .str s, X, W, C, ok, e, h => by
    obtain ⟨j, k, p, rfl, h⟩ := mStr_inv s h
    have h := of_decide_eq_true h
    subst h
    exact Both.of (PE.by_ pe_str fun σ H Q ⟨S, L, env, g, er, q⟩ => Aft.now g (by simpa only [ev] using q) (by simp [RelD])) rfl
  | .bl b, X, W, C, ok, e, h => by
    obtain ⟨j, k, p, rfl, h⟩ := mBl_inv b h
    have h := of_decide_eq_true h
    subst h
    exact Both.of (PE.by_ pe_bl fun σ H Q ⟨S, L, env, g, er, q⟩ => Aft.bl g (by simpa only [ev] using q)) rfl
  | .non, X, W, C, ok, e, h => by
    obtain ⟨k, p, rfl, _⟩ := mNon_inv h
    exact Both.of (PE.by_ pe_non fun σ H Q ⟨S, L, env, g, er, q⟩ => Aft.now g (by simpa only [ev] using q) (by simp [RelD])) rfl
  | .var i, X, W, C, ok, e, h => by
    obtain ⟨x, p, rfl, h⟩ := mVar_inv C i h
    obtain ⟨h, h3⟩ := ba h
    obtain ⟨h1, h2⟩ := ba h
    exact Both.of (s_var ok h1 h2 h3) rfl
  | .glo y, X, W, C, ok, e, h => by
    obtain ⟨x, p, rfl, h⟩ := mGlo_inv C y h
    obtain ⟨h, h3⟩ := ba h
    obtain ⟨h1, h2⟩ := ba h
    have h1 := of_decide_eq_true h1
    subst h1
    exact Both.of (s_glo ok h2 h3) rfl
  | .bin op a b, X, W, C, ok, e, h => by
    obtain ⟨l, o, r, p, rfl, h⟩ := mBin_inv op _ _ h
    obtain ⟨h, h3⟩ := ba h
    obtain ⟨h1, h2⟩ := ba h
    exact Both.of (s_bin h1 (sE a ok h2).1 (sE b ok h3).1) rfl
  | .neg a, X, W, C, ok, e, h => by
    obtain ⟨l, p, rfl, h⟩ := mNeg_inv _ h
    exact Both.of (s_neg (sE a ok h).1) rfl
  | .not a, X, W, C, ok, e, h => by
    obtain ⟨l, p, rfl, h⟩ := mNot_inv _ h
    have k := sE a ok h
    exact ⟨s_not k.1, fun z => ⟨t_not (k.2 z).1, fun ⟨op, vs, p, z⟩ => by cases z⟩⟩
  | .and a b, X, W, C, ok, e, h => by
    obtain ⟨l, r, rest, p, rfl, h1, h2⟩ := mBool_inv .And _ _ h
    have k := sE a ok h1
    rcases h2 with ⟨rfl, h2⟩ | ⟨_, h2⟩
    · have k2 := sE b ok h2
      refine ⟨s_and k.1 (pe_one k2.1), fun z => ?_⟩
      obtain ⟨z1, z2⟩ := ba z
      have w := t_and (k.2 z1).1 (pw_and1 (pos := p) (k2.2 z2).1)
      exact ⟨w.pt, fun _ => w⟩
    · have k2 := sE b ok h2
      refine ⟨s_and k.1 k2.1, fun z => ?_⟩
      obtain ⟨z1, z2⟩ := ba z
      have w := t_and (k.2 z1).1 ((k2.2 z2).2 ⟨_, _, _, rfl⟩)
      exact ⟨w.pt, fun _ => w⟩
  | .or a b, X, W, C, ok, e, h => by
    obtain ⟨l, r, rest, p, rfl, h1, h2⟩ := mBool_inv .Or _ _ h
    have k := sE a ok h1
    rcases h2 with ⟨rfl, h2⟩ | ⟨_, h2⟩
    · have k2 := sE b ok h2
      refine ⟨s_or k.1 (pe_one k2.1), fun z => ?_⟩
      obtain ⟨z1, z2⟩ := ba z
      have w := t_or (k.2 z1).1 (pw_or1 (pos := p) (k2.2 z2).1)
      exact ⟨w.pt, fun _ => w⟩
    · have k2 := sE b ok h2
      refine ⟨s_or k.1 k2.1, fun z => ?_⟩
      obtain ⟨z1, z2⟩ := ba z
      have w := t_or (k.2 z1).1 ((k2.2 z2).2 ⟨_, _, _, rfl⟩)
      exact ⟨w.pt, fun _ => w⟩
  | .cmp op a b, X, W, C, ok, e, h => by
    obtain ⟨l, o, r, p, rfl, h⟩ := mCmp_inv op _ _ h
    obtain ⟨h, h3⟩ := ba h
    obtain ⟨h, h2⟩ := ba h
    obtain ⟨h1, h0⟩ := ba h
    exact Both.cm (s_cmp ok h1 h0 (sE a ok h2).1 (sE b ok h3).1)
  | .chn o1 o2 a b c, X, W, C, ok, e, h => by
    obtain ⟨l, q1, q2, r1, r2, p, rfl, h⟩ := mChn_inv o1 o2 _ _ _ h
    obtain ⟨h, h5⟩ := ba h
    obtain ⟨h, h4⟩ := ba h
    obtain ⟨h, h3⟩ := ba h
    obtain ⟨h1, h2⟩ := ba h
    exact Both.cm (s_chn ok h1 h2 (sE a ok h3).1 (sE b ok h4).1 (sE c ok h5).1)
  | .isN a, X, W, C, ok, e, h => by
    obtain ⟨l, k, p2, p, rfl, h⟩ := mIsN_inv _ h
    exact Both.cm (s_isN (sE a ok h).1)
  | .ntN a, X, W, C, ok, e, h => by
    obtain ⟨l, k, p2, p, rfl, h⟩ := mNtN_inv _ h
    exact Both.cm (s_ntN (sE a ok h).1)
  | .ife c a b, X, W, C, ok, e, h => by
    obtain ⟨t, l, r, p, rfl, h⟩ := mIfe_inv _ _ _ h
    obtain ⟨h, h3⟩ := ba h
    obtain ⟨h1, h2⟩ := ba h
    obtain ⟨h0, h1⟩ := ba h1
    exact ⟨s_ife ((sE c ok h1).2 h0).1 (sE a ok h2).1 (sE b ok h3).1, fun z => by cases z⟩
  | .tup es, X, W, C, ok, e, h => by
    obtain ⟨xs, k, p, rfl, h⟩ := mTup_inv _ h
    obtain ⟨h1, h2⟩ := ba h
    exact Both.of (s_tup (sEs es ok h2) (of_decide_eq_true h1)) rfl
  | .lst es, X, W, C, ok, e, h => by
    obtain ⟨xs, p, rfl, h⟩ := mLst_inv _ h
    obtain ⟨h1, h2⟩ := ba h
    exact Both.of (s_lst (sEs es ok h2) (of_decide_eq_true h1)) rfl
  | .idx a i, X, W, C, ok, e, h => by
    obtain ⟨l, s, p, rfl, h⟩ := mIdx_inv _ _ h
    obtain ⟨h, h3⟩ := ba h
    obtain ⟨h1, h2⟩ := ba h
    exact Both.of (s_idx h1 (sE a ok h2).1 (sE i ok h3).1) rfl
  | .slT a b, X, W, C, ok, e, h => by
    obtain ⟨l, r, p2, p, rfl, h⟩ := mSlT_inv _ _ h
    obtain ⟨h1, h2⟩ := ba h
    exact Both.of (s_slT (sE a ok h1).1 (sE b ok h2).1) rfl
  | .slF a b, X, W, C, ok, e, h => by
    obtain ⟨l, r, p2, p, rfl, h⟩ := mSlF_inv _ _ h
    obtain ⟨h1, h2⟩ := ba h
    exact Both.of (s_slF (sE a ok h1).1 (sE b ok h2).1) rfl
  | .slB a b c, X, W, C, ok, e, h => by
    obtain ⟨l, r, t, p2, p, rfl, h⟩ := mSlB_inv _ _ _ h
    obtain ⟨h, h3⟩ := ba h
    obtain ⟨h1, h2⟩ := ba h
    exact Both.of (s_slB (sE a ok h1).1 (sE b ok h2).1 (sE c ok h3).1) rfl
  | .rev a, X, W, C, ok, e, h => by
    obtain ⟨l, k, p1, p2, p3, p, rfl, h⟩ := mRev_inv _ h
    exact Both.of (s_rev (sE a ok h).1) rfl
  | .call f es, X, W, C, ok, e, h => by
    obtain ⟨x, q, xs, p, rfl, h⟩ := mCall_inv C f _ _ h
    obtain ⟨h, h5⟩ := ba h
    obtain ⟨h, h4⟩ := ba h
    obtain ⟨h, h3⟩ := ba h
    obtain ⟨h1, h2⟩ := ba h
    have h1 := of_decide_eq_true h1
    subst h1
    exact Both.of (s_call ok h2 h3 h4 (sEs es ok h5) h5) rfl
  | .bi b es, X, W, C, ok, e, h => by
    obtain ⟨x, q, xs, p, rfl, h⟩ := mBi_inv C _ _ h
    obtain ⟨h, h5⟩ := ba h
    obtain ⟨h1, h2⟩ := ba h
    have h1 := of_decide_eq_true h1
    subst h1
    obtain ⟨hbi, h5⟩ := ba h5
    obtain ⟨h5, h6⟩ := ba h5
    exact Both.of (s_bi ok hbi h2 (sEs es ok h6) h6 (by intro z; subst z; cases h5)) rfl
  | .isI a t, X, W, C, ok, e, h => by
    obtain ⟨x, q, l, z, q2, p, rfl, h⟩ := mIsI_inv C _ _ h
    obtain ⟨h, h6⟩ := ba h
    obtain ⟨h, h5⟩ := ba h
    obtain ⟨h, h4⟩ := ba h
    obtain ⟨h, h3⟩ := ba h
    obtain ⟨h1, h2⟩ := ba h
    have h1 := of_decide_eq_true h1
    have h3 := of_decide_eq_true h3
    subst h1 h3
    exact Both.of (s_isI ok h2 h4 h5 (sE a ok h6).1) rfl
  | .app o a, X, W, C, ok, e, h => by
    obtain ⟨l, m, ap, r, cp, rfl, h⟩ := mMet1_inv _ _ _ h
    obtain ⟨h, h6⟩ := ba h
    obtain ⟨h, h5⟩ := ba h
    obtain ⟨h, h4⟩ := ba h
    obtain ⟨h, h3⟩ := ba h
    obtain ⟨h1, h2⟩ := ba h
    have h1 := of_decide_eq_true h1
    subst h1
    exact Both.of (s_app h2 h3 h4 (sE o ok h5).1 (sE a ok h6).1) rfl
  | .ext o a, X, W, C, ok, e, h => by
    obtain ⟨l, m, ap, r, cp, rfl, h⟩ := mMet1_inv _ _ _ h
    obtain ⟨h, h6⟩ := ba h
    obtain ⟨h, h5⟩ := ba h
    obtain ⟨h, h4⟩ := ba h
    obtain ⟨h, h3⟩ := ba h
    obtain ⟨h1, h2⟩ := ba h
    have h1 := of_decide_eq_true h1
    subst h1
    exact Both.of (s_ext h2 h3 h4 (sE o ok h5).1 (sE a ok h6).1) rfl
  | .clr o, X, W, C, ok, e, h => by
    obtain ⟨l, m, ap, cp, rfl, h⟩ := mMet0_inv _ _ h
    obtain ⟨h, h4⟩ := ba h
    obtain ⟨h, h3⟩ := ba h
    obtain ⟨h1, h2⟩ := ba h
    have h1 := of_decide_eq_true h1
    subst h1
    exact Both.of (s_clr h2 h3 (sE o ok h4).1) rfl
  | .isB a b, X, W, C, ok, e, h => by
    obtain ⟨l, j, k, p2, p, rfl, h⟩ := mIsB_inv b _ h
    obtain ⟨h1, h2⟩ := ba h
    have h1 := of_decide_eq_true h1
    subst h1
    exact Both.cm (s_isB (sE a ok h2).1)
  | .chn4 o1 o2 o3 a b c d, X, W, C, ok, e, h => by
    obtain ⟨l, q1, q2, q3, r1, r2, r3, p, rfl, h⟩ := mChn4_inv o1 o2 o3 _ _ _ _ h
    obtain ⟨h, h7⟩ := ba h
    obtain ⟨h, h6⟩ := ba h
    obtain ⟨h, h5⟩ := ba h
    obtain ⟨h, h4⟩ := ba h
    obtain ⟨h, h3⟩ := ba h
    obtain ⟨h1, h2⟩ := ba h
    exact Both.cm (s_chn4 ok h1 h2 h3 (sE a ok h4).1 (sE b ok h5).1 (sE c ok h6).1 (sE d ok h7).1)
  | .any, X, W, C, ok, e, h => ⟨s_any, fun z => by cases z⟩
  | .chn5 o1 o2 o3 o4 a b c d f, X, W, C, ok, e, h => by
    obtain ⟨l, q1, q2, q3, q4, r1, r2, r3, r4, p, rfl, h⟩ := mChn5_inv o1 o2 o3 o4 _ _ _ _ _ h
    obtain ⟨h, h9⟩ := ba h
    obtain ⟨h, h8⟩ := ba h
    obtain ⟨h, h7⟩ := ba h
    obtain ⟨h, h6⟩ := ba h
    obtain ⟨h, h5⟩ := ba h
    obtain ⟨h, h4⟩ := ba h
    obtain ⟨h, h3⟩ := ba h
    obtain ⟨h1, h2⟩ := ba h
    exact Both.cm (s_chn5 ok h1 h2 h3 h4 (sE a ok h5).1 (sE b ok h6).1 (sE c ok h7).1 (sE d ok h8).1 (sE f ok h9).1)
  | .ntB a b, X, W, C, ok, e, h => by
    obtain ⟨l, j, k, p2, p, rfl, h⟩ := mNtB_inv b _ h
    obtain ⟨h1, h2⟩ := ba h
    have h1 := of_decide_eq_true h1
    subst h1
    exact Both.cm (s_ntB (sE a ok h2).1)
  | .dic t, X, W, C, ok, e, h => by
    obtain ⟨p, rfl, _⟩ := mDic_inv h
    exact Both.of s_dic rfl
  | .dgt o k, X, W, C, ok, e, h => by
    obtain ⟨l, s, p, rfl, h⟩ := mIdx_inv _ _ h
    obtain ⟨h, h3⟩ := ba h
    obtain ⟨h1, h2⟩ := ba h
    exact Both.of (s_dgt ok h1 (sE o ok h2).1 (sE k ok h3).1) rfl
  | .din n k o, X, W, C, ok, e, h => by
    obtain ⟨l, op, r, p, rfl, h⟩ := mDin_inv n _ _ h
    obtain ⟨h, h4⟩ := ba h
    obtain ⟨h, h3⟩ := ba h
    obtain ⟨h1, h2⟩ := ba h
    exact Both.cm (s_din ok h1 h2 (sE k ok h3).1 (sE o ok h4).1)
  | .get1 o a, X, W, C, ok, e, h => by
    obtain ⟨l, m, ap, r, cp, rfl, h⟩ := mMet1_inv _ _ _ h
    obtain ⟨h, h6⟩ := ba h
    obtain ⟨h, h5⟩ := ba h
    obtain ⟨h, h4⟩ := ba h
    obtain ⟨h, h3⟩ := ba h
    obtain ⟨h1, h2⟩ := ba h
    have h1 := of_decide_eq_true h1
    subst h1
    exact Both.of (s_get1 ok h2 h3 h4 (sE o ok h5).1 (sE a ok h6).1) rfl
  | .get2 o a b, X, W, C, ok, e, h => by
    obtain ⟨l, m, ap, r, t, cp, rfl, h⟩ := mMet2_inv _ _ _ _ h
    obtain ⟨h, h8⟩ := ba h
    obtain ⟨h, h7⟩ := ba h
    obtain ⟨h, h6⟩ := ba h
    obtain ⟨h, h5⟩ := ba h
    obtain ⟨h, h4⟩ := ba h
    obtain ⟨h, h3⟩ := ba h
    obtain ⟨h1, h2⟩ := ba h
    have h1 := of_decide_eq_true h1
    subst h1
    exact Both.of (s_get2 ok h2 h3 h4 h5 (sE o ok h6).1 (sE a ok h7).1 (sE b ok h8).1) rfl
  | .dpop o a, X, W, C, ok, e, h => by
    obtain ⟨l, m, ap, r, cp, rfl, h⟩ := mMet1_inv _ _ _ h
    obtain ⟨h, h6⟩ := ba h
    obtain ⟨h, h5⟩ := ba h
    obtain ⟨h, h4⟩ := ba h
    obtain ⟨h, h3⟩ := ba h
    obtain ⟨h1, h2⟩ := ba h
    have h1 := of_decide_eq_true h1
    subst h1
    exact Both.of (s_dpop ok h2 h3 h4 (sE o ok h5).1 (sE a ok h6).1) rfl
  | .ixo o a, X, W, C, ok, e, h => by
    obtain ⟨l, m, ap, r, cp, rfl, h⟩ := mMet1_inv _ _ _ h
    obtain ⟨h, h6⟩ := ba h
    obtain ⟨h, h5⟩ := ba h
    obtain ⟨h, h4⟩ := ba h
    obtain ⟨h, h3⟩ := ba h
    obtain ⟨h1, h2⟩ := ba h
    have h1 := of_decide_eq_true h1
    subst h1
    exact Both.of (s_ixo ok h2 h3 h4 (sE o ok h5).1 (sE a ok h6).1) rfl
  | .ins o a b, X, W, C, ok, e, h => by
    obtain ⟨l, m, ap, r, t, cp, rfl, h⟩ := mMet2_inv _ _ _ _ h
    obtain ⟨h, h8⟩ := ba h
    obtain ⟨h, h7⟩ := ba h
    obtain ⟨h, h6⟩ := ba h
    obtain ⟨h, h5⟩ := ba h
    obtain ⟨h, h4⟩ := ba h
    obtain ⟨h, h3⟩ := ba h
    obtain ⟨h1, h2⟩ := ba h
    have h1 := of_decide_eq_true h1
    subst h1
    exact Both.of (s_ins h2 h3 h4 h5 (sE o ok h6).1 (sE a ok h7).1 (sE b ok h8).1) rfl
  | .pop0 o, X, W, C, ok, e, h => by
    obtain ⟨l, m, ap, cp, rfl, h⟩ := mMet0_inv _ _ h
    obtain ⟨h, h4⟩ := ba h
    obtain ⟨h, h3⟩ := ba h
    obtain ⟨h1, h2⟩ := ba h
    have h1 := of_decide_eq_true h1
    subst h1
    exact Both.of (s_pop0 h2 h3 (sE o ok h4).1) rfl
  | .pop1 o a, X, W, C, ok, e, h => by
    obtain ⟨l, m, ap, r, cp, rfl, h⟩ := mMet1_inv _ _ _ h
    obtain ⟨h, h6⟩ := ba h
    obtain ⟨h, h5⟩ := ba h
    obtain ⟨h, h4⟩ := ba h
    obtain ⟨h, h3⟩ := ba h
    obtain ⟨h1, h2⟩ := ba h
    have h1 := of_decide_eq_true h1
    subst h1
    exact Both.of (s_pop1 h2 h3 h4 (sE o ok h5).1 (sE a ok h6).1) rfl
  | .fld a y f, X, W, C, ok, e, h => by
    obtain ⟨l, m, p, rfl, h⟩ := mFld_inv C y f _ h
    obtain ⟨h, h4⟩ := ba h
    obtain ⟨h, h3⟩ := ba h
    obtain ⟨h1, h2⟩ := ba h
    have h1 := of_decide_eq_true h1
    subst h1
    exact Both.of (s_fld ok h2 h3 (sE a ok h4).1) rfl
  | .mth o y m key es, X, W, C, ok, e, h => by
    obtain ⟨x, q, w, ap, xs, cp, rfl, h⟩ := mMth_inv C y m key _ _ _ h
    obtain ⟨h, h6⟩ := ba h
    obtain ⟨h, h5⟩ := ba h
    obtain ⟨h, h4⟩ := ba h
    obtain ⟨h, h3⟩ := ba h
    obtain ⟨h1, h2⟩ := ba h
    have h1 := of_decide_eq_true h1
    subst h1
    exact Both.of (s_mth ok h2 (of_decide_eq_true h3) h4 (sE o ok h5).1 (sEs es ok h6) h6) rfl
  | .mk y key es, X, W, C, ok, e, h => by
    obtain ⟨x, q, xs, p, rfl, h⟩ := mMk_inv C y key _ _ h
    obtain ⟨h, h5⟩ := ba h
    obtain ⟨h, h4⟩ := ba h
    obtain ⟨h, h3⟩ := ba h
    obtain ⟨h1, h2⟩ := ba h
    have h1 := of_decide_eq_true h1
    subst h1
    exact Both.of (s_mk ok h2 h3 h4 (sEs es ok h5) h5) rfl
  | .xis i y, X, W, C, ok, e, h => by
    obtain ⟨x, q, n, q1, z, q2, p, rfl, h⟩ := mXis_inv C i y h
    obtain ⟨h, h9⟩ := ba h
    obtain ⟨h, h8⟩ := ba h
    obtain ⟨h, h7⟩ := ba h
    obtain ⟨h, h6⟩ := ba h
    obtain ⟨h, h5⟩ := ba h
    obtain ⟨h, h4⟩ := ba h
    obtain ⟨h, h3⟩ := ba h
    obtain ⟨h1, h2⟩ := ba h
    have h1 := of_decide_eq_true h1
    have h3 := of_decide_eq_true h3
    subst h1 h3
    exact Both.of (s_xis ok h2 h4 h5 h6 h7 h8 h9) rfl
  | .xcl i f, X, W, C, ok, e, h => by
    obtain ⟨x, q, n, q1, p, rfl, h⟩ := mXcl_inv C i f h
    obtain ⟨h, h8⟩ := ba h
    obtain ⟨h, h7⟩ := ba h
    obtain ⟨h, h6⟩ := ba h
    obtain ⟨h, h5⟩ := ba h
    obtain ⟨h, h4⟩ := ba h
    obtain ⟨h, h3⟩ := ba h
    obtain ⟨h1, h2⟩ := ba h
    have h1 := of_decide_eq_true h1
    subst h1
    exact Both.of (s_xcl ok h2 h3 h4 h5 h6 h7 h8) rfl
  | .xat i, X, W, C, ok, e, h => by
    obtain ⟨n, q, m, p, rfl, h⟩ := mXat_inv C i h
    obtain ⟨h, h5⟩ := ba h
    obtain ⟨h, h4⟩ := ba h
    obtain ⟨h, h3⟩ := ba h
    obtain ⟨h1, h2⟩ := ba h
    have h1 := of_decide_eq_true h1
    subst h1
    exact Both.of (s_xat ok h2 h3 h4 h5) rfl
  | .dsp es, X, W, C, ok, e, h => by
    obtain ⟨ks, vs, p, xs, rfl, hf, h15, h⟩ := mDsp_inv _ h
    obtain ⟨h1, h2⟩ := ba h
    exact Both.of (s_dsp hf h15 (sAll es ok h2) (by intro z; subst z; cases h1)) rfl
  | .lc own t it el, X, W, C, ok, e, h => by
    obtain ⟨x, tg, i, sc, p, rfl, h⟩ := mLc_inv C own _ _ _ _ _ h
    obtain ⟨h, h6⟩ := ba h
    obtain ⟨h, h5⟩ := ba h
    obtain ⟨h, h4⟩ := ba h
    obtain ⟨h, h3⟩ := ba h
    obtain ⟨h, h2⟩ := ba h
    obtain ⟨h, h1⟩ := ba h
    obtain ⟨hcd, h0⟩ := ba h
    have hk := blk_kind h3
    refine Both.of (PE.by_ (pe_lc (own := ownL C own) (g := tG X.K CA G.pin t) (tt := tYes) (te := tE X.K CA G W0 el) (ok.calm hcd) (by rw [ok.nm]; exact ok.nd) (sI it ok (nd_of h2) h4) (by rw [ok.nm, ok.sc]; exact blkOk_by h3)
      (fun s H cd cl fp => g_ok (ok.blk hcd sc hk s H cd cl fp) h5) (fun s H cd cl fp => pts_nil) (fun s H cd cl fp => (sE el (ok.blk hcd sc hk s H cd cl fp) h6).1) (set_of h0 X.env)) ?_) rfl
    rintro σ H Q ⟨S, L, env, g, er, q⟩
    simp only [ev] at q
    rw [own_snd]
    exact lc_read (ok.nopin hcd) (c := none) (fun i hi => by have := List.all_eq_true.mp h1 i hi; simpa using this) g er q
  | .lcI own t it c el, X, W, C, ok, e, h => by
    obtain ⟨x, tg, i, f, sc, p, rfl, h⟩ := mLcI_inv C own _ _ _ _ _ _ h
    obtain ⟨h, h7⟩ := ba h
    obtain ⟨h, h6⟩ := ba h
    obtain ⟨h, h5⟩ := ba h
    obtain ⟨h, h4⟩ := ba h
    obtain ⟨h, h3⟩ := ba h
    obtain ⟨h, h2⟩ := ba h
    obtain ⟨h, h1⟩ := ba h
    obtain ⟨hcd, h0⟩ := ba h
    obtain ⟨ht, h6⟩ := ba h6
    have hk := blk_kind h3
    refine Both.of (PE.by_ (pe_lc (own := ownL C own) (g := tG X.K CA G.pin t) (tt := tT X.K CA G W0 c) (te := tE X.K CA G W0 el) (ok.calm hcd) (by rw [ok.nm]; exact ok.nd) (sI it ok (nd_of h2) h4) (by rw [ok.nm, ok.sc]; exact blkOk_by h3)
      (fun s H cd cl fp => g_ok (ok.blk hcd sc hk s H cd cl fp) h5) (fun s H cd cl fp => pts_one ((sE c (ok.blk hcd sc hk s H cd cl fp) h6).2 ht).1) (fun s H cd cl fp => (sE el (ok.blk hcd sc hk s H cd cl fp) h7).1) (set_of h0 X.env)) ?_) rfl
    rintro σ H Q ⟨S, L, env, g, er, q⟩
    simp only [ev] at q
    rw [own_snd]
    exact lc_read (ok.nopin hcd) (c := some c) (fun i hi => by have := List.all_eq_true.mp h1 i hi; simpa using this) g er q
theorem sEs : ∀ (xs : List Ex) {X : Cx} {W : WX} {C : MC} (ok : Ok X CA G W C) {es : List Expr}, mEs xs C es = true → PA X es (tEs X.K CA G W xs)
  | [], X, W, C, ok, es, h => by
    rw [mEs_nil h]
    exact s_nil
  | x :: xs, X, W, C, ok, es, h => by
    obtain ⟨e, r, rfl, h1, h2, h3⟩ := mEs_cons h
    exact s_cons (sE x ok h2).1 (sEs xs ok h3) (star_of h1 r X.env)
theorem sAll : ∀ (xs : List Ex) {X : Cx} {W : WX} {C : MC} (ok : Ok X CA G W C) {es : List Expr}, mEs xs C es = true → AllPE CA G X W xs es
  | [], X, W, C, ok, es, h => by
    rw [mEs_nil h]
    exact True.intro
  | x :: xs, X, W, C, ok, es, h => by
    obtain ⟨e, r, rfl, h1, h2, h3⟩ := mEs_cons h
    exact ⟨(sE x ok h2).1, sAll xs ok h3⟩
theorem sI : ∀ (x : Lt.It) {X : Cx} {W : WX} {C : MC} (ok : Ok X CA G W C) {tg e : Expr}, (itT x = true → isTupE tg = true) → mI x C e = true → PI X tg e (tI X.K CA G W x)
  | .seq a, X, W, C, ok, tg, e, ht, h => i_seq (sE a ok h).1
  | .rng a, X, W, C, ok, tg, e, ht, h => by
    obtain ⟨x, q, l, p, rfl, h⟩ := mCl1_inv C _ _ h
    obtain ⟨h, h4⟩ := ba h
    obtain ⟨h, h3⟩ := ba h
    obtain ⟨h1, h2⟩ := ba h
    have h1 := of_decide_eq_true h1
    subst h1
    exact i_rng ok h2 h3 (sE a ok h4).1
  | .rng2 a b, X, W, C, ok, tg, e, ht, h => by
    obtain ⟨x, q, l, r, p, rfl, h⟩ := mCl2_inv C _ _ _ h
    obtain ⟨h, h6⟩ := ba h
    obtain ⟨h, h5⟩ := ba h
    obtain ⟨h, h4⟩ := ba h
    obtain ⟨h, h3⟩ := ba h
    obtain ⟨h1, h2⟩ := ba h
    have h1 := of_decide_eq_true h1
    subst h1
    exact i_rng2 ok h2 h3 h4 (sE a ok h5).1 (sE b ok h6).1
  | .enm a, X, W, C, ok, tg, e, ht, h => by
    obtain ⟨x, q, l, p, rfl, h⟩ := mCl1_inv C _ _ h
    obtain ⟨h, h4⟩ := ba h
    obtain ⟨h, h3⟩ := ba h
    obtain ⟨h1, h2⟩ := ba h
    have h1 := of_decide_eq_true h1
    subst h1
    exact i_enm ok (ht rfl) h2 h3 (sE a ok h4).1
  | .zip a b, X, W, C, ok, tg, e, ht, h => by
    obtain ⟨x, q, l, r, p, rfl, h⟩ := mCl2_inv C _ _ _ h
    obtain ⟨h, h6⟩ := ba h
    obtain ⟨h, h5⟩ := ba h
    obtain ⟨h, h4⟩ := ba h
    obtain ⟨h, h3⟩ := ba h
    obtain ⟨h1, h2⟩ := ba h
    have h1 := of_decide_eq_true h1
    subst h1
    exact i_zip ok (ht rfl) h2 h3 h4 (sE a ok h5).1 (sE b ok h6).1
  | .rvd a, X, W, C, ok, tg, e, ht, h => by
    obtain ⟨x, q, l, p, rfl, h⟩ := mCl1_inv C _ _ h
    obtain ⟨h, h4⟩ := ba h
    obtain ⟨h, h3⟩ := ba h
    obtain ⟨h1, h2⟩ := ba h
    have h1 := of_decide_eq_true h1
    subst h1
    exact i_rvd ok h2 h3 (sE a ok h4).1
end
end
end Lt
set_option maxHeartbeats 1000000
namespace Lt
open PySem PySem.Spec PyProof.Rows L2
section
variable {X : Cx} {CA : Str → Addr} {G : Cxp} {W : WX} {C : MC} {S S' : Store} {L L1 M2 L' : List Addr} {H H1 H2 H' : Hp} {σ σ' : Sl} {e : Expr}
def isLcX : Ex → Bool
  | .lc _ _ _ _ => true
  | .lcI _ _ _ _ _ => true
  | _ => false
theorem mE_lc {x : Ex} {a : Expr} {gs : List Comprehension} {sc : Scope} {p : Pos} (h : mE x C (.ListComp a gs sc p) = true) : isLcX x = true := by
  cases x <;> first | rfl | (exact absurd h Bool.false_ne_true)
/-- a comprehension that stores its list itself -/
def lcSelf (C : MC) (y : Str) (py : Pos) (sc : Scope) (p : Pos) : Bool := locB C.sc y && (py.line == p.line) && !(sc.names.any fun (n, k) => n == y && (k == .local || k == .cell))
theorem locB_eq (sc : Scope) (y : Str) : (sc.names.lookup y == some NameKind.local) = locB sc y := by
  unfold locB
  cases h : sc.names.lookup y with
  | none => rfl
  | some k => cases k <;> rfl
theorem sw_lc (ok : Ok X CA G W C) {elt : Expr} {gs : List Comprehension} {sc : Scope} {p py : Pos} {y : Str} {l : Nat} : swapsWith (.ListComp elt gs sc p) (some (.Name y py)) l X.env = pure (lcSelf C y py sc p) := by
  have hb : X.env.blockKind = .function := by unfold Env.blockKind; rw [ok.sc, ok.kind]; rfl
  have hk : (X.env.kindOf y == some NameKind.local) = locB C.sc y := by
    show (X.env.scope.names.lookup y == _) = _
    rw [ok.sc]; exact locB_eq _ _
  unfold swapsWith lcSelf
  simp only [hb, hk, Expr.pos]
  rfl
theorem sw_no {v : Expr} (h : notLc v = true) (h2 : ∀ a gs sc p, v ≠ .SetComp a gs sc p) (h3 : ∀ a b gs sc p, v ≠ .DictComp a b gs sc p) (t : Option Expr) (l : Nat) (env : PySem.Env) : swapsWith v t l env = pure false := by
  cases v <;> first | rfl | (exact absurd h Bool.false_ne_true) | (exact absurd rfl (h2 _ _ _ _)) | (exact absurd rfl (h3 _ _ _ _ _))
theorem mE_set {x : Ex} {a : Expr} {gs : List Comprehension} {sc : Scope} {p : Pos} : mE x C (.SetComp a gs sc p) = false := by
  cases x <;> rfl
theorem mE_dict {x : Ex} {a b : Expr} {gs : List Comprehension} {sc : Scope} {p : Pos} : mE x C (.DictComp a b gs sc p) = false := by
  cases x <;> rfl
theorem sw_of {x : Ex} {v : Expr} (h : notLc v = true) (hm : mE x C v = true) (t : Option Expr) (l : Nat) (env : PySem.Env) : swapsWith v t l env = pure false :=
  sw_no h (by rintro a gs sc p rfl; rw [mE_set] at hm; cases hm) (by rintro a b gs sc p rfl; rw [mE_dict] at hm; cases hm) t l env
/-- what an assignment reads -/
def tA (K : PySem.W.Frag) (CA : Str → Addr) (G : Cxp) (W : WX) (t : Tg) (x : Ex) : TS := tAsg (tE K CA G W x) (tG K CA G.pin t)
theorem asg_read {t : Tg} {x : Ex} {Z : Ends} (h : tS X.K CA G W (.asg t x) Z σ H) : tA X.K CA G W t x Z σ H := by
  obtain ⟨S, L, env, g, er, q⟩ := h
  simp only [exS] at q
  refine ⟨S, L, env, g, er, (AftS.toS er g q).mono fun d S1 L1 H1 ⟨st, g1, q1⟩ v r => ?_⟩
  split at q1
  · rename_i e1 hb
    exact ⟨S1, L1, env, d, e1, g1, er.step g st, r, hb, fun σ' er' _ => q1 σ' L1 H1 Step.refl g1 er'⟩
  · exact q1.elim
theorem filterMap_lt {α β : Type} {f : α → Option β} : ∀ {l : List α}, (∃ a ∈ l, f a = none) → (l.filterMap f).length < l.length
  | [], h => by obtain ⟨a, ha, _⟩ := h; cases ha
  | x :: r, h => by
    obtain ⟨a, ha, he⟩ := h
    have le := List.length_filterMap_le f r
    cases hx : f x with
    | none =>
      rw [List.filterMap_cons_none hx, List.length_cons]; omega
    | some y =>
      rw [List.filterMap_cons_some hx, List.length_cons, List.length_cons]
      rcases List.mem_cons.mp ha with z | z
      · subst z; rw [hx] at he; cases he
      · have := filterMap_lt (f := f) ⟨a, z, he⟩
        omega
/-- the stores of a written tuple, where they are not exchanged -/
theorem no_swap (ok : Ok X CA G W C) {t v : Expr} {tg : Tg} (hn : noSwapE C v t = true) (ht : mT C tg t = true) : swappedStores [t] v X.env = pure none := by
  cases t with
  | Tuple ts k2 p2 =>
    cases v with
    | Tuple vs k p =>
      have hn : (noSwap ts vs || ts.any fun
        | .Name x _ => celB C.sc x
        | _ => false) = true := hn
      rw [Bool.or_eq_true] at hn
      rcases hn with hn | hn
      · have hf : vs.all (foldedForSure 8) = true := (ba (show (vs.all (foldedForSure 8) && _) = true from hn)).1
        unfold swappedStores
        simp only [hf, if_true]
        repeat (first | rfl | split)
      · obtain ⟨e, he, hc⟩ := List.any_eq_true.mp hn
        have hlt : (ts.filterMap fun x => match x with
          | .Name id pos => if (X.env.kindOf id == some NameKind.local && pos.line == (Option.map (fun x => x.pos.line) ts.head?).getD 0) = true then some id else none
          | _ => none).length < ts.length := by
          refine filterMap_lt ⟨e, he, ?_⟩
          cases e with
          | Name x p =>
            have hc : celB C.sc x = true := hc
            have hk : X.env.kindOf x = some .cell := by show X.env.scope.names.lookup x = _; rw [ok.sc]; exact cel_of hc
            simp only [hk]
            rfl
          | _ => cases hc
        unfold swappedStores
        simp only
        split
        · rfl
        · split
          · rfl
          · rw [if_pos]
            rw [Bool.or_eq_true]
            refine .inl ?_
            rw [bne_iff_ne]
            exact Nat.ne_of_lt hlt
    | _ => rfl
  | List ts p => cases tg <;> exact absurd ht Bool.false_ne_true
  | _ => cases v <;> rfl
theorem swap2 (ok : Ok X CA G W C) {x y : Str} {px py pt pt2 : Pos} {kt k2 : Nat} {a b : Expr} (h : swapOk C x y px py a b = true) (h1 : notSt a = true) (h2 : notSt b = true) :
    swappedStores [.Tuple [.Name x px, .Name y py] kt pt] (.Tuple [a, b] k2 pt2) X.env = pure (some [x, y]) := by
  unfold swapOk at h
  obtain ⟨h, c6⟩ := ba h
  obtain ⟨h, c5⟩ := ba h
  obtain ⟨h, c4⟩ := ba h
  obtain ⟨h, c3⟩ := ba h
  obtain ⟨c1, c2⟩ := ba h
  have hb : X.env.blockKind = .function := by unfold Env.blockKind; rw [ok.sc, ok.kind]; rfl
  have hx : X.env.kindOf x = some .local := by show X.env.scope.names.lookup x = _; rw [ok.sc]; exact loc_of c1
  have hy : X.env.kindOf y = some .local := by show X.env.scope.names.lookup y = _; rw [ok.sc]; exact loc_of c2
  have hxy : ¬ x = y := by simpa using c4
  have hxy2 : ¬ y = x := fun e => hxy e.symm
  have c5' : ([a, b].all (foldedForSure 8)) = false := by
    cases z : ([a, b].all (foldedForSure 8)) with
    | false => rfl
    | true => rw [z] at c5; cases c5
  have c6' : ([a, b].all (constantsAlone 8)) = false := by
    cases z : ([a, b].all (constantsAlone 8)) with
    | false => rfl
    | true => rw [z] at c6; cases c6
  unfold swappedStores
  simp [hb, hx, hy, c5', c6', c3, Expr.pos, List.filterMap, List.eraseDups, hxy, hxy2]
  rw [if_neg (by
    intro h
    rcases h with h | h
    · cases a <;> first | (exact absurd h Bool.false_ne_true) | (exact absurd h1 Bool.false_ne_true)
    · cases b <;> first | (exact absurd h Bool.false_ne_true) | (exact absurd h2 Bool.false_ne_true))]
  have hz : (y == x) = false := by simpa using hxy2
  rw [if_pos (by simp [List.eraseDupsBy, List.eraseDupsBy.loop, hz])]
theorem p_asg (ok : Ok X CA G W C) {t : Tg} {x : Ex} {tg v : Expr} {p : Pos} (ht : mT C t tg = true) (hm : mE x C v = true) (hn : noSwapE C v tg = true) : PS X (.Assign [tg] v p) (tS X.K CA G W (.asg t x)) := by
  have gen : swapsWithSole [tg] v p.line X.env = pure false → PS X (.Assign [tg] v p) (tS X.K CA G W (.asg t x)) := fun hs =>
    PS.by_ (ps_asg (sE x ok hm).1 (g_ok ok ht) hs (no_swap ok hn ht) (by cases tg <;> first | rfl | (cases t <;> exact absurd ht Bool.false_ne_true))) fun Z σ H q => asg_read q
  cases hl : notLc v with
  | true => exact gen (sw_of hl hm _ _ _)
  | false =>
    cases v with
    | ListComp elt gs sc p2 =>
      cases tg with
      | Name y py =>
        cases t with
        | tup is => exact absurd ht Bool.false_ne_true
        | name i =>
          cases hq : lcSelf C y py sc p2 with
          | false => exact gen ((sw_lc (l := p.line) ok).trans (by rw [hq]))
          | true =>
            have hx := mE_lc hm
            have sw : swapsWith (.ListComp elt gs sc p2) (some (.Name y py)) p.line X.env = pure true := (sw_lc ok).trans (by rw [hq])
            have hy : X.N[i]? = some y := by rw [ok.nm]; exact slot_of (ba (ba (show (hsNe C i && (slotB C i y && stB C y)) = true from ht)).2).1
            have hyl : X.env.scope.names.lookup y = some .local := by rw [ok.sc]; exact loc_of (ba (ba hq).1).1
            have nd : X.N.Nodup := by rw [ok.nm]; exact ok.nd
            have key : ∀ (Z : Ends) (σ : Sl) (H : Hp), tS X.K CA G W (.asg (.name i) x) Z σ H → tE X.K CA G W x σ H fun v H1 => gName i v σ H1 Z.nx := fun Z σ H q => by
              obtain ⟨S, L, env, g, er, q⟩ := asg_read q
              refine ⟨S, L, env, g, er, q.mono fun d S1 L1 H1 q1 v r => ?_⟩
              obtain ⟨S, L, e, d, e1, g, er, r, hb, q⟩ := q1 v r
              simp only [bindT] at hb
              split at hb
              · cases hb
                exact q _ (er.set r (ok.hsne (ba (show (hsNe C i && (slotB C i y && stB C y)) = true from ht)).1)) (SameOut.one _ _ _)
              · cases hb
            cases x with
            | lc own t it el =>
              obtain ⟨x, tg, i2, sc2, p3, z, h⟩ := mLc_inv C own _ _ _ _ _ hm
              cases z
              obtain ⟨h, h6⟩ := ba h
              obtain ⟨h, h5⟩ := ba h
              obtain ⟨h, h4⟩ := ba h
              obtain ⟨h, h3⟩ := ba h
              obtain ⟨h, h2⟩ := ba h
              obtain ⟨h, h1⟩ := ba h
              obtain ⟨hcd, h0⟩ := ba h
              have hk := blk_kind h3
              refine PS.by_ (ps_setLc (i := i) (own := ownL C own) (g := tG X.K CA G.pin t) (tt := tYes) (te := tE X.K CA G W0 el) (ok.calm hcd) nd hy hyl sw (sI it ok (nd_of h2) h4) (by rw [ok.nm, ok.sc]; exact blkOk_by h3)
                (fun s H cd cl fp => g_ok (ok.blk hcd sc hk s H cd cl fp) h5) (fun s H cd cl fp => pts_nil) (fun s H cd cl fp => (sE el (ok.blk hcd sc hk s H cd cl fp) h6).1) (set_of h0 X.env)) ?_
              intro Z σ H q
              obtain ⟨S, L, env, g, er, q⟩ := key Z σ H q
              simp only [ev] at q
              rw [own_snd]
              exact lc_read (ok.nopin hcd) (c := none) (fun i hi => by have := List.all_eq_true.mp h1 i hi; simpa using this) g er q
            | lcI own t it c el =>
              obtain ⟨x, tg, i2, f, sc2, p3, z, h⟩ := mLcI_inv C own _ _ _ _ _ _ hm
              cases z
              obtain ⟨h, h7⟩ := ba h
              obtain ⟨h, h6⟩ := ba h
              obtain ⟨h, h5⟩ := ba h
              obtain ⟨h, h4⟩ := ba h
              obtain ⟨h, h3⟩ := ba h
              obtain ⟨h, h2⟩ := ba h
              obtain ⟨h, h1⟩ := ba h
              obtain ⟨hcd, h0⟩ := ba h
              obtain ⟨htk, h6⟩ := ba h6
              have hk := blk_kind h3
              refine PS.by_ (ps_setLc (i := i) (own := ownL C own) (g := tG X.K CA G.pin t) (tt := tT X.K CA G W0 c) (te := tE X.K CA G W0 el) (ok.calm hcd) nd hy hyl sw (sI it ok (nd_of h2) h4) (by rw [ok.nm, ok.sc]; exact blkOk_by h3)
                (fun s H cd cl fp => g_ok (ok.blk hcd sc hk s H cd cl fp) h5) (fun s H cd cl fp => pts_one ((sE c (ok.blk hcd sc hk s H cd cl fp) h6).2 htk).1) (fun s H cd cl fp => (sE el (ok.blk hcd sc hk s H cd cl fp) h7).1) (set_of h0 X.env)) ?_
              intro Z σ H q
              obtain ⟨S, L, env, g, er, q⟩ := key Z σ H q
              simp only [ev] at q
              rw [own_snd]
              exact lc_read (ok.nopin hcd) (c := some c) (fun i hi => by have := List.all_eq_true.mp h1 i hi; simpa using this) g er q
            | _ => exact absurd hx Bool.false_ne_true
      | _ => exact gen rfl
    | _ => cases hl
theorem p_par (ok : Ok X CA G W C) (hcd : cold C = true) {i j : Nat} {a b : Ex} {x y : Str} {px py pt pt2 p : Pos} {kt k2 : Nat} {l r : Expr} (h1 : slotB C i x = true) (h2 : slotB C j y = true) (hij : i ≠ j) (hs : swapOk C x y px py l r = true)
    (n1 : notSt l = true) (n2 : notSt r = true) (ha : mE a C l = true) (hb : mE b C r = true) :
    PS X (.Assign [.Tuple [.Name x px, .Name y py] kt pt] (.Tuple [l, r] k2 pt2) p) (tS X.K CA G W (.par i j a b)) := by
  have c := hs
  unfold swapOk at c
  obtain ⟨c, _⟩ := ba c
  obtain ⟨c, _⟩ := ba c
  obtain ⟨c, _⟩ := ba c
  obtain ⟨c, _⟩ := ba c
  obtain ⟨c1, c2⟩ := ba c
  refine PS.by_ (ps_par (i := i) (j := j) (ok.calm hcd) (by rw [ok.nm]; exact ok.nd) (by rw [ok.nm]; exact slot_of h1) (by rw [ok.nm]; exact slot_of h2) hij (by rw [ok.sc]; exact loc_of c1) (by rw [ok.sc]; exact loc_of c2)
    (pa_cons (sE a ok ha).1 (pa_cons (sE b ok hb).1 pa_nil (star_of n2 [] X.env)) (star_of n1 _ X.env)) (swap2 ok hs n1 n2) rfl) ?_
  rintro Z σ H ⟨S, L, env, g, er, q⟩
  simp only [exS] at q
  refine ⟨S, L, env, g, er, (AftS.toS er g q).mono fun d S1 L1 H1 ⟨st, g1, q1⟩ v r => ⟨S1, L1, env, g1, er.step g st, (AftS.toS (er.step g st) g1 q1).mono fun d2 S2 L2 H2 ⟨st2, g2, q2⟩ v2 r2 => ⟨v, v2, rfl, ?_⟩⟩⟩
  split at q2
  · exact q2 _ L2 H2 Step.refl g2 (((er.step g st).step g1 st2).set (r.step g1 st2) (ok.cold_ne hcd _) |>.set r2 (ok.cold_ne hcd _))
  · exact q2.elim
theorem swap3 (ok : Ok X CA G W C) {x y z : Str} {px py pz pt pt2 : Pos} {kt k2 : Nat} {a b c : Expr} (h : swapOk3 C x y z px py pz a b c = true) (h1 : notSt a = true) (h2 : notSt b = true) (h3 : notSt c = true) :
    swappedStores [.Tuple [.Name x px, .Name y py, .Name z pz] kt pt] (.Tuple [a, b, c] k2 pt2) X.env = pure (some [x, y, z]) := by
  unfold swapOk3 at h
  obtain ⟨h, c10⟩ := ba h
  obtain ⟨h, c9⟩ := ba h
  obtain ⟨h, c8⟩ := ba h
  obtain ⟨h, c7⟩ := ba h
  obtain ⟨h, c6⟩ := ba h
  obtain ⟨h, c5⟩ := ba h
  obtain ⟨h, c4⟩ := ba h
  obtain ⟨h, c3⟩ := ba h
  obtain ⟨c1, c2⟩ := ba h
  have hb : X.env.blockKind = .function := by unfold Env.blockKind; rw [ok.sc, ok.kind]; rfl
  have hx : X.env.kindOf x = some .local := by show X.env.scope.names.lookup x = _; rw [ok.sc]; exact loc_of c1
  have hy : X.env.kindOf y = some .local := by show X.env.scope.names.lookup y = _; rw [ok.sc]; exact loc_of c2
  have hz : X.env.kindOf z = some .local := by show X.env.scope.names.lookup z = _; rw [ok.sc]; exact loc_of c3
  have hxy : ¬ x = y := by simpa using c6
  have hxz : ¬ x = z := by simpa using c7
  have hyz : ¬ y = z := by simpa using c8
  have hyx : ¬ y = x := fun e => hxy e.symm
  have hzx : ¬ z = x := fun e => hxz e.symm
  have hzy : ¬ z = y := fun e => hyz e.symm
  have c9' : ([a, b, c].all (foldedForSure 8)) = false := by
    cases z : ([a, b, c].all (foldedForSure 8)) with
    | false => rfl
    | true => rw [z] at c9; cases c9
  have c10' : ([a, b, c].all (constantsAlone 8)) = false := by
    cases z : ([a, b, c].all (constantsAlone 8)) with
    | false => rfl
    | true => rw [z] at c10; cases c10
  unfold swappedStores
  simp [hb, hx, hy, hz, c9', c10', c4, c5, Expr.pos, List.filterMap, List.eraseDups, hxy, hyx, hxz, hzx, hyz, hzy]
  rw [if_neg (by
    intro h
    rcases h with h | h | h
    · cases a <;> first | (exact absurd h Bool.false_ne_true) | (exact absurd h1 Bool.false_ne_true)
    · cases b <;> first | (exact absurd h Bool.false_ne_true) | (exact absurd h2 Bool.false_ne_true)
    · cases c <;> first | (exact absurd h Bool.false_ne_true) | (exact absurd h3 Bool.false_ne_true))]
  have k1 : (y == x) = false := by simpa using hyx
  have k2 : (z == x) = false := by simpa using hzx
  have k3 : (z == y) = false := by simpa using hzy
  rw [if_pos (by simp [List.eraseDupsBy, List.eraseDupsBy.loop, k1, k2, k3])]
theorem p_par3 (ok : Ok X CA G W C) (hcd : cold C = true) {i j k : Nat} {a b c : Ex} {x y z : Str} {px py pz pt pt2 p : Pos} {kt k2 : Nat} {l r m : Expr} (h1 : slotB C i x = true) (h2 : slotB C j y = true) (h3 : slotB C k z = true) (hij : i ≠ j) (hik : i ≠ k) (hjk : j ≠ k) (hs : swapOk3 C x y z px py pz l r m = true)
    (n1 : notSt l = true) (n2 : notSt r = true) (n3 : notSt m = true) (ha : mE a C l = true) (hb : mE b C r = true) (hc : mE c C m = true) :
    PS X (.Assign [.Tuple [.Name x px, .Name y py, .Name z pz] kt pt] (.Tuple [l, r, m] k2 pt2) p) (tS X.K CA G W (.par3 i j k a b c)) := by
  have q := hs
  unfold swapOk3 at q
  obtain ⟨q, _⟩ := ba q
  obtain ⟨q, _⟩ := ba q
  obtain ⟨q, _⟩ := ba q
  obtain ⟨q, _⟩ := ba q
  obtain ⟨q, _⟩ := ba q
  obtain ⟨q, _⟩ := ba q
  obtain ⟨q, _⟩ := ba q
  obtain ⟨q, c3⟩ := ba q
  obtain ⟨c1, c2⟩ := ba q
  refine PS.by_ (ps_par3 (i := i) (j := j) (l := k) (ok.calm hcd) (by rw [ok.nm]; exact ok.nd) (by rw [ok.nm]; exact slot_of h1) (by rw [ok.nm]; exact slot_of h2) (by rw [ok.nm]; exact slot_of h3) hij hik hjk (by rw [ok.sc]; exact loc_of c1) (by rw [ok.sc]; exact loc_of c2) (by rw [ok.sc]; exact loc_of c3)
    (pa_cons (sE a ok ha).1 (pa_cons (sE b ok hb).1 (pa_cons (sE c ok hc).1 pa_nil (star_of n3 [] X.env)) (star_of n2 _ X.env)) (star_of n1 _ X.env)) (swap3 ok hs n1 n2 n3) rfl) ?_
  rintro Z σ H ⟨S, L, env, g, er, q⟩
  simp only [exS] at q
  refine ⟨S, L, env, g, er, (AftS.toS er g q).mono fun d S1 L1 H1 ⟨st, g1, q1⟩ v r => ⟨S1, L1, env, g1, er.step g st, (AftS.toS (er.step g st) g1 q1).mono fun d2 S2 L2 H2 ⟨st2, g2, q2⟩ v2 r2 => ⟨S2, L2, env, g2, (er.step g st).step g1 st2, (AftS.toS ((er.step g st).step g1 st2) g2 q2).mono fun d3 S3 L3 H3 ⟨st3, g3, q3⟩ v3 r3 => ⟨v, v2, v3, rfl, ?_⟩⟩⟩⟩
  split at q3
  · exact q3 _ L3 H3 Step.refl g3 (((((er.step g st).step g1 st2).step g2 st3).set ((r.step g1 st2).step g2 st3) (ok.cold_ne hcd _) |>.set (r2.step g2 st3) (ok.cold_ne hcd _)).set r3 (ok.cold_ne hcd _))
  · exact q3.elim
theorem p_sub (ok : Ok X CA G W C) {o i x : Ex} {l k v : Expr} {p p2 : Pos} (hs : notSl k = true) (ho : mE o C l = true) (hi : mE i C k = true) (hx : mE x C v = true) : PS X (.Assign [.Subscript l k p2] v p) (tS X.K CA G W (.sub o i x)) := by
  have sw : swapsWithSole [.Subscript l k p2] v p.line X.env = pure false := by
    cases hl : notLc v with
    | true => exact sw_of hl hx (some (.Subscript l k p2)) p.line X.env
    | false =>
      cases v with
      | ListComp _ _ _ _ => rfl
      | _ => cases hl
  refine PS.by_ (ps_asg (sE x ok hx).1 (pg_sub (sE o ok ho).1 (sE i ok hi).1 set_list (by intro _; cases k <;> first | rfl | exact absurd hs Bool.false_ne_true)) sw (by cases v <;> rfl) rfl) ?_
  rintro Z σ H ⟨S, L, env, g, er, q⟩
  simp only [exS] at q
  refine ⟨S, L, env, g, er, (AftS.toS er g q).mono fun d S1 L1 H1 ⟨st, g1, q1⟩ v r => ⟨S1, L1, env, g1, er.step g st, (AftS.toS (er.step g st) g1 q1).mono fun d2 S2 L2 H2 ⟨st2, g2, q2⟩ v2 r2 =>
    ⟨S2, L2, env, g2, (er.step g st).step g1 st2, (AftS.toS ((er.step g st).step g1 st2) g2 q2).mono fun d3 S3 L3 H3 ⟨st3, g3, q3⟩ v3 r3 => ?_⟩⟩⟩
  have er3 := ((er.step g st).step g1 st2).step g2 st3
  unfold setItem at q3
  split at q3
  · skip
    split at q3
    · rename_i xs hxs
      split at q3
      · rename_i j hj
        have r2' := r2.step g2 st3
        simp only [RelD] at r2' r3
        obtain ⟨b, hn, rfl⟩ := r2'
        subst r3
        obtain ⟨vs, e1, rs⟩ := getL_rel g3 hxs hn
        refine ⟨b, vs, _, j, rfl, rfl, e1, by rw [rs.length]; exact hj, ?_⟩
        have rd : RelD X.K L3 H3 d v := (r.step g1 st2).step g2 st3
        have m : Mon L3 H3 L3 (upd H3 b (.lst (vs.set j v))) := ⟨fun _ _ h => h, fun c o eb pb => by
          rw [upd_ne (by intro z; subst z; rw [e1] at eb; cases eb; exact pb)]; exact eb⟩
        obtain ⟨st4, g4⟩ := g3.write (c := .lst (xs.set j d)) (o := .lst (vs.set j v)) hn ⟨_, upd_same, RelDs.mon m _ _ (rs.set j rd)⟩
        exact q3 σ _ _ st4 g4 (er3.step g3 st4)
      · exact q3.elim
    · exact q3.elim
  · exact q3.elim
/-- a dict is written, in a statement -/
theorem p_dst (ok : Ok X CA G W C) {o i x : Ex} {l k v : Expr} {p p2 : Pos} (hs : notSl k = true) (ho : mE o C l = true) (hi : mE i C k = true) (hx : mE x C v = true) : PS X (.Assign [.Subscript l k p2] v p) (tS X.K CA G W (.dst o i x)) := by
  have hu : X.A.units + 1 < cLine := by have := ok.un; omega
  have sw : swapsWithSole [.Subscript l k p2] v p.line X.env = pure false := by
    cases hl : notLc v with
    | true => exact sw_of hl hx (some (.Subscript l k p2)) p.line X.env
    | false =>
      cases v with
      | ListComp _ _ _ _ => rfl
      | _ => cases hl
  refine PS.by_ (ps_dput hu (sE o ok ho).1 (sE i ok hi).1 (sE x ok hx).1 sw) ?_
  rintro Z σ H ⟨S, L, env, g, er, q⟩
  simp only [exS] at q
  refine ⟨S, L, env, g, er, (AftS.toS er g q).mono fun d S1 L1 H1 ⟨st, g1, q1⟩ v r => ⟨S1, L1, env, g1, er.step g st, (AftS.toS (er.step g st) g1 q1).mono fun d2 S2 L2 H2 ⟨st2, g2, q2⟩ v2 r2 =>
    ⟨S2, L2, env, g2, (er.step g st).step g1 st2, (AftS.toS ((er.step g st).step g1 st2) g2 q2).mono fun d3 S3 L3 H3 ⟨st3, g3, q3⟩ v3 r3 => ?_⟩⟩⟩
  have er3 := ((er.step g st).step g1 st2).step g2 st3
  have rd : RelD X.K L3 H3 d v := (r.step g1 st2).step g2 st3
  have r2' := r2.step g2 st3
  unfold dstR at q3
  cases d2 with
  | ref n =>
    dsimp only at q3
    simp only [RelD] at r2'
    obtain ⟨a, hn, rfl⟩ := r2'
    split at q3
    · rename_i kvs e
      obtain ⟨vs, e1, e2, e3⟩ := g3.cell n _ a e hn
      split at q3
      · rename_i kk hk
        split at q3
        · rename_i hz
          rw [key_rel hk r3]
          refine ⟨a, _, rfl, DPut.k e1 (by have := congrArg List.length e2; simp at this; rw [this]; exact small (Nat.le_of_lt hz)), ?_⟩
          obtain ⟨k1, k2⟩ := put_rel kk rd e2 e3
          have m : Mon L3 H3 L3 (upd H3 a (.dK (putK vs kk v))) := ⟨fun _ _ h => h, fun c o eb pb => by
            rw [upd_ne (by intro z; subst z; rw [e1] at eb; cases eb; exact pb)]; exact eb⟩
          obtain ⟨st4, g4⟩ := g3.write (c := .dK (putKD kvs kk d)) (o := .dK (putK vs kk v)) hn ⟨_, upd_same, k1, RelDs.mon m _ _ k2⟩
          exact q3 σ _ _ st4 g4 (er3.step g3 st4)
        · exact q3.elim
      · exact q3.elim
    · rename_i kvs e
      obtain ⟨vs, e1, e2, e3⟩ := g3.cell n _ a e hn
      split at q3
      · rename_i kk hk
        split at q3
        · rename_i hz
          obtain ⟨b, rfl, eb⟩ := keys_rel hk r3
          refine ⟨a, _, rfl, DPut.t e1 eb (by have := congrArg List.length e2; simp at this; rw [this]; exact small (Nat.le_of_lt hz)), ?_⟩
          obtain ⟨k1, k2⟩ := put_rel kk rd e2 e3
          have m : Mon L3 H3 L3 (upd H3 a (.dT (putK vs kk v))) := ⟨fun _ _ h => h, fun c o eb pb => by
            rw [upd_ne (by intro z; subst z; rw [e1] at eb; cases eb; exact pb)]; exact eb⟩
          obtain ⟨st4, g4⟩ := g3.write (c := .dT (putKD kvs kk d)) (o := .dT (putK vs kk v)) hn ⟨_, upd_same, k1, RelDs.mon m _ _ k2⟩
          exact q3 σ _ _ st4 g4 (er3.step g3 st4)
        · exact q3.elim
      · exact q3.elim
    · exact q3.elim
  | _ => exact q3.elim
end
end Lt
set_option maxHeartbeats 1000000
namespace Lt
open PySem PySem.Spec PyProof.Rows L2
section
variable {CA : Str → Addr} {G : Cxp} {W : WX} {S S' : Store} {L L1 M2 L' : List Addr} {H H1 H2 H' : Hp} {σ σ' : Sl} {e : Expr}
theorem p_for {X : Cx} {C : MC} (ok : Ok X CA G W C) (hcd : cold C = true) {t : Tg} {it : Lt.It} {b : List Lt.St} {tg i : Expr} {l : List Stmt} {p : Pos} (h0 : notSet i = true) (ht : mT C t tg = true) (hi : PI X tg i (tI X.K CA G W it)) (hb : PSs X l (tB X.K CA G W b)) :
    PS X (.For tg i l [] p) (tS X.K CA G W (.forS t it b)) := by
  refine PS.by_ (ps_for (ok.pass hcd) (ok.calm hcd) hi (g_ok ok ht) hb (set_of h0 X.env)) ?_
  rintro Z σ H ⟨S, L, env, g, er, q⟩
  simp only [exS] at q
  refine ⟨S, L, env, g, er, (AftS.toS er g q).mono fun j S1 L1 H1 ⟨st, g1, q1⟩ J P io p1 => ?_⟩
  have er1 := er.step g st
  let Wf : Nat → Nat → Sl → Hp → Prop := fun i m σ H => ∃ S L e, Good X.K CA S L H ∧ P L H ∧ EnvR X.K G.pin L H e σ ∧ i + m = j.n ∧ AftS X.K CA G.pin W L H (forGo t j (exB G b) m i e S) Z
  refine ⟨Wf, ⟨j.n, S1, L1, env, g1, p1, er1, by omega, q1⟩, ?_⟩
  rintro i m σ Hc ⟨S, L, env, g, p, er, em, q⟩
  cases m with
  | zero =>
    left
    simp only [forGo] at q
    split at q
    · rename_i hf
      have ei : i = j.n := by omega
      subst ei
      exact ⟨io.stop S L Hc g p hf, q σ L Hc Step.refl g er⟩
    · exact q.elim
  | succ k =>
    right
    simp only [forGo] at q
    split at q
    · exact q.elim
    · rename_i d hat
      split at q
      · exact q.elim
      · rename_i e1 hb1
        obtain ⟨hgo, hy⟩ := io.go i S L Hc d g p hat (by omega)
        refine ⟨hgo, Wf (i + 1) k, fun σ' H' w => ⟨k, Nat.lt_succ_self k, w⟩, fun x H' y => ?_⟩
        obtain ⟨st1, g1, rd⟩ := hy x H' y
        refine ⟨S, L, env, d, e1, g1, er.step g st1, rd, hb1, fun σ2 er2 so => ⟨S, L, e1, g1, er2, ?_⟩⟩
        have pm : ∀ {L2 : List Addr} {H2 : Hp}, Step L H' L2 H2 → P L2 H2 := fun {L2 H2} s2 => io.mon _ _ _ _ (io.mon _ _ _ _ p (st1.mon g)) (s2.mon g1)
        cases hr : exB G b e1 S with
        | nx e2 S2 =>
          rw [hr] at q
          exact fun σ' L2 H2 s2 g2 er3 => ⟨S2, L2, e2, g2, pm s2, er3, by omega, AftS.from (st1.trans s2) q⟩
        | brk e2 S2 =>
          rw [hr] at q
          exact fun σ' L2 H2 s2 g2 er3 => q σ' L2 H2 (st1.trans s2) g2 er3
        | ret d2 S2 =>
          rw [hr] at q
          exact fun v L2 H2 s2 g2 r => q v L2 H2 (st1.trans s2) g2 r
        | exc c e2 S2 =>
          rw [hr] at q
          exact fun σ' cls dd L2 H2 s2 g2 er3 x => q σ' cls dd L2 H2 (st1.trans s2) g2 er3 x
        | bad =>
          rw [hr] at q
          exact q
theorem p_whl {X : Cx} {C : MC} (ok : Ok X CA G W C) (hcd : cold C = true) {c : Ex} {b : List Lt.St} {t : Expr} {l : List Stmt} {p : Pos} (hc : PT X t (tT X.K CA G W c)) (hb : PSs X l (tB X.K CA G W b)) : PS X (.While t l [] p) (tS X.K CA G W (.whl c b)) := by
  refine PS.by_ (ps_while (ok.pass hcd) hc hb) ?_
  rintro Z σ H ⟨S, L, env, g, er, q⟩
  simp only [exS] at q
  let Wf : Nat → Sl → Hp → Prop := fun m σ H => ∃ S L e, Good X.K CA S L H ∧ EnvR X.K G.pin L H e σ ∧ AftS X.K CA G.pin W L H (whGo (ev G c) (exB G b) m e S) Z
  refine ⟨Wf, ⟨G.fuel, S, L, env, g, er, q⟩, ?_⟩
  rintro m σ Hc ⟨S, L, env, g, er, q⟩
  cases m with
  | zero => exact q.elim
  | succ k =>
    simp only [whGo] at q
    refine ⟨S, L, env, g, er, (AftS.toS er g q).mono fun d S1 L1 H1 ⟨st, g1, q1⟩ => ?_⟩
    split at q1
    · refine ⟨true, rfl, iteT ⟨Wf k, fun σ' H' w => ⟨k, Nat.lt_succ_self k, w⟩, S1, L1, env, g1, er.step g st, ?_⟩⟩
      cases hr : exB G b env S1 with
      | nx e2 S2 =>
        rw [hr] at q1
        exact fun σ' L2 H2 s2 g2 er3 => ⟨S2, L2, e2, g2, er3, AftS.from s2 q1⟩
      | brk e2 S2 => rw [hr] at q1; exact q1
      | ret d2 S2 => rw [hr] at q1; exact q1
      | exc c e2 S2 => rw [hr] at q1; exact q1
      | bad => rw [hr] at q1; exact q1
    · exact ⟨false, rfl, iteF (q1 σ L1 H1 Step.refl g1 (er.step g st))⟩
    · exact q1.elim
theorem mB_cons {C : MC} {x : Lt.St} {xs : List Lt.St} {ss : List Stmt} (h : mB (x :: xs) C ss = true) : ∃ s r, ss = s :: r ∧ mS x C s = true ∧ mB xs C r = true := by
  cases ss with
  | nil => simp only [mB] at h; cases h
  | cons s r =>
    simp only [mB, Bool.and_eq_true] at h
    exact ⟨s, r, rfl, h.1, h.2⟩
theorem mB_nil {C : MC} {ss : List Stmt} (h : mB [] C ss = true) : ss = [] := by
  cases ss with
  | nil => rfl
  | cons e r => simp only [mB] at h; cases h
mutual
theorem sK : ∀ (x : Ex) {X : Cx} {W : WX} {e : Expr}, kE x e = true → PE X e (tE X.K CA G W x)
  | .int i, X, W, e, h => by
    simp only [kE] at h
    obtain ⟨j, k, p, rfl, h⟩ := mInt_inv i h
    have h := of_decide_eq_true h
    subst h
    exact PE.by_ pe_int fun σ H Q ⟨S, L, env, g, er, q⟩ => Aft.int g (by simpa only [ev] using q)
  | .str s, X, W, e, h => by
    simp only [kE] at h
    obtain ⟨j, k, p, rfl, h⟩ := mStr_inv s h
    have h := of_decide_eq_true h
    subst h
    exact PE.by_ pe_str fun σ H Q ⟨S, L, env, g, er, q⟩ => Aft.now g (by simpa only [ev] using q) (by simp [RelD])
  | .bl b, X, W, e, h => by
    simp only [kE] at h
    obtain ⟨j, k, p, rfl, h⟩ := mBl_inv b h
    have h := of_decide_eq_true h
    subst h
    exact PE.by_ pe_bl fun σ H Q ⟨S, L, env, g, er, q⟩ => Aft.bl g (by simpa only [ev] using q)
  | .non, X, W, e, h => by
    simp only [kE] at h
    obtain ⟨k, p, rfl, _⟩ := mNon_inv h
    exact PE.by_ pe_non fun σ H Q ⟨S, L, env, g, er, q⟩ => Aft.now g (by simpa only [ev] using q) (by simp [RelD])
  | .tup es, X, W, e, h => by
    simp only [kE] at h
    obtain ⟨xs, k, p, rfl, h⟩ := mTup_inv _ h
    obtain ⟨h1, h2⟩ := ba h
    exact s_tup (sKs es h2) (of_decide_eq_true h1)
  | .lst es, X, W, e, h => by
    simp only [kE] at h
    obtain ⟨xs, p, rfl, h⟩ := mLst_inv _ h
    obtain ⟨h1, h2⟩ := ba h
    exact s_lst (sKs es h2) (of_decide_eq_true h1)
  | .var _, _, _, _, h => by simp only [kE] at h; cases h
  | .glo _, _, _, _, h => by simp only [kE] at h; cases h
  | .bin _ _ _, _, _, _, h => by simp only [kE] at h; cases h
  | .neg _, _, _, _, h => by simp only [kE] at h; cases h
  | .not _, _, _, _, h => by simp only [kE] at h; cases h
  | .and _ _, _, _, _, h => by simp only [kE] at h; cases h
  | .or _ _, _, _, _, h => by simp only [kE] at h; cases h
  | .cmp _ _ _, _, _, _, h => by simp only [kE] at h; cases h
  | .chn _ _ _ _ _, _, _, _, h => by simp only [kE] at h; cases h
  | .isN _, _, _, _, h => by simp only [kE] at h; cases h
  | .ntN _, _, _, _, h => by simp only [kE] at h; cases h
  | .ife _ _ _, _, _, _, h => by simp only [kE] at h; cases h
  | .idx _ _, _, _, _, h => by simp only [kE] at h; cases h
  | .slT _ _, _, _, _, h => by simp only [kE] at h; cases h
  | .slF _ _, _, _, _, h => by simp only [kE] at h; cases h
  | .slB _ _ _, _, _, _, h => by simp only [kE] at h; cases h
  | .rev _, _, _, _, h => by simp only [kE] at h; cases h
  | .call _ _, _, _, _, h => by simp only [kE] at h; cases h
  | .bi _ _, _, _, _, h => by simp only [kE] at h; cases h
  | .isI _ _, _, _, _, h => by simp only [kE] at h; cases h
  | .app _ _, _, _, _, h => by simp only [kE] at h; cases h
  | .ext _ _, _, _, _, h => by simp only [kE] at h; cases h
  | .clr _, _, _, _, h => by simp only [kE] at h; cases h
  | .isB _ _, _, _, _, h => by simp only [kE] at h; cases h
  | .chn4 _ _ _ _ _ _ _, _, _, _, h => by simp only [kE] at h; cases h
  | .any, _, _, _, h => by simp only [kE] at h; cases h
  | .chn5 _ _ _ _ _ _ _ _ _, _, _, _, h => by simp only [kE] at h; cases h
  | .ntB _ _, _, _, _, h => by simp only [kE] at h; cases h
  | .dic _, _, _, _, h => by simp only [kE] at h; cases h
  | .dgt _ _, _, _, _, h => by simp only [kE] at h; cases h
  | .din _ _ _, _, _, _, h => by simp only [kE] at h; cases h
  | .get1 _ _, _, _, _, h => by simp only [kE] at h; cases h
  | .get2 _ _ _, _, _, _, h => by simp only [kE] at h; cases h
  | .dpop _ _, _, _, _, h => by simp only [kE] at h; cases h
  | .ixo _ _, _, _, _, h => by simp only [kE] at h; cases h
  | .ins _ _ _, _, _, _, h => by simp only [kE] at h; cases h
  | .pop0 _, _, _, _, h => by simp only [kE] at h; cases h
  | .pop1 _ _, _, _, _, h => by simp only [kE] at h; cases h
  | .fld _ _ _, _, _, _, h => by simp only [kE] at h; cases h
  | .mth _ _ _ _ _, _, _, _, h => by simp only [kE] at h; cases h
  | .mk _ _ _, _, _, _, h => by simp only [kE] at h; cases h
  | .xis _ _, _, _, _, h => by simp only [kE] at h; cases h
  | .xat _, _, _, _, h => by simp only [kE] at h; cases h
  | .xcl _ _, _, _, _, h => by simp only [kE] at h; cases h
  | .dsp _, _, _, _, h => by simp only [kE] at h; cases h
  | .lc _ _ _ _, _, _, _, h => by simp only [kE] at h; cases h
  | .lcI _ _ _ _ _, _, _, _, h => by simp only [kE] at h; cases h
theorem sKs : ∀ (xs : List Ex) {X : Cx} {W : WX} {es : List Expr}, kEs xs es = true → PA X es (tEs X.K CA G W xs)
  | [], X, W, es, h => by
    simp only [kEs] at h
    rw [List.isEmpty_iff.mp h]
    exact s_nil
  | x :: xs, X, W, es, h => by
    cases es with
    | nil => simp only [kEs] at h; cases h
    | cons e r =>
      simp only [kEs, Bool.and_eq_true] at h
      obtain ⟨⟨h1, h2⟩, h3⟩ := h
      exact s_cons (sK x h2) (sKs xs h3) (star_of h1 r X.env)
end
theorem Ok.suite {X : Cx} {C : MC} (ok : Ok X CA G W C) (i : Nat) (a : Addr) (oe : Obj) (pn : List (Addr × Obj)) (c : Exc) (o : Option (Addr × D)) (hz : Zc (.ref (CA c.cls)) (o.map (·.1)) oe) (hf : ∃ vs, oe.data = .fields vs) (hat : c.at_ = o.map (·.2)) :
    Ok (X.suite a ((a, oe) :: pn)) CA ⟨{ G.toCxt with exc := some c }, some (i, a, o)⟩ W0 (C.suite i) where
  cal := fun h => by cases h
  nm := ok.nm
  nd := ok.nd
  sc := ok.sc
  kind := ok.kind
  tk := takes0
  un := ok.un
  pas := fun h => by cases h
  free := ok.free
  fn := fun h => by cases h
  glo := ok.glo
  call := fun f n h => by cases h
  fl := fun y f h => by cases h
  ms := fun y m key n h => by cases h
  mks := fun y key n h => by cases h
  xc := fun x h => by cases h
  sb := ok.sb
  fr := fun h => by cases h
  stk := fun h => by cases h
  xo := fun x h => by cases h
  xi := ok.xi
  xf := ok.xf
  tc := fun h => by cases h
  xsc := fun x h => by cases h
  xoc := fun x h => by cases h
  hot := rfl
  xcq := fun f h => by
    obtain ⟨af, fd, ps, kk, sp, F, hr, r⟩ := ok.xcq f h
    exact ⟨af, fd, ps, kk, sp, F, ⟨hr.dp, hr.un⟩, r⟩
  hotx := fun j b o' h => by
    cases h
    exact ⟨X, oe, pn, c, rfl, hz, hf, rfl, hat⟩
theorem Ok.tr {X : Cx} {C : MC} (ok : Ok X CA G W C) {W' : WX} (hc0 : C.hs = none) (pn : List (Addr × Obj)) (xe : Value → Shared → Prop) (tk : Takes (X.tr pn xe) W') (pa : PassesOwn (model X.prog X.w) X.A X.env xe) : Ok (X.tr pn xe) CA G W' C where
  cal := ok.cal
  nm := ok.nm
  nd := ok.nd
  sc := ok.sc
  kind := ok.kind
  tk := tk
  un := ok.un
  pas := fun _ => pa
  free := ok.free
  fn := ok.fn
  glo := ok.glo
  call := ok.call
  fl := ok.fl
  ms := ok.ms
  mks := ok.mks
  xc := ok.xc
  sb := ok.sb
  fr := ok.fr
  stk := ok.stk
  xo := ok.xo
  xi := ok.xi
  xf := ok.xf
  tc := ok.tc
  xsc := ok.xsc
  xoc := ok.xoc
  hot := ok.hot
  xcq := ok.xcq
  hotx := fun i a o h => by
    have e := ok.hot
    rw [hc0, h] at e; cases e
theorem p_stf {X : Cx} {C : MC} (ok : Ok X CA G W C) {o x : Ex} {y f : Str} {l v : Expr} {p p2 : Pos} (h1 : C.fl y f = true) (ho : mE o C l = true) (hx : mE x C v = true) : PS X (.Assign [.Attribute l f p2] v p) (tS X.K CA G W (.stf o y f x)) := by
  obtain ⟨cl, na⟩ := ok.fl y f h1
  have sw : swapsWithSole [.Attribute l f p2] v p.line X.env = pure false := by
    cases hl : notLc v with
    | true => exact sw_of hl hx (some (.Attribute l f p2)) p.line X.env
    | false =>
      cases v with
      | ListComp _ _ _ _ => rfl
      | _ => cases hl
  refine PS.by_ (ps_fld (sE o ok ho).1 (sE x ok hx).1 sw) ?_
  rintro Z σ H ⟨S, L, env, g, er, q⟩
  simp only [exS] at q
  refine ⟨S, L, env, g, er, (AftS.toS er g q).mono fun d S1 L1 H1 ⟨st, g1, q1⟩ v1 r1 => ?_⟩
  have er1 := er.step g st
  refine ⟨S1, L1, env, g1, er1, (AftS.toS er1 g1 q1).mono fun d2 S2 L2 H2 ⟨st2, g2, q2⟩ v2 r2 => ?_⟩
  have er2 := er1.step g1 st2
  unfold stfR at q2
  split at q2
  · split at q2
    · rename_i n _ y' fs hi
      split at q2
      · rename_i hy
        obtain ⟨hy, hlen⟩ := hy
        subst hy
        simp only [RelD] at r2
        obtain ⟨b, hb, rfl⟩ := r2
        obtain ⟨dx, gs, e1, e2, e3, r3⟩ := getI_rel g2 hi hb
        have hgl : gs.length < 1000 := by
          have := congrArg List.length e3
          simp at this
          omega
        refine ⟨b, _, dx, gs, rfl, e1, cl, na, hgl, ?_⟩
        obtain ⟨k1, k2⟩ := flds_put (X := X) f e3 r3 (r1.step g1 st2)
        have m : Mon L2 H2 L2 (upd H2 b (.ins (CA y') dx (putF f v1 gs))) := ⟨fun _ _ h => h, fun c o ec pc => by
          rw [upd_ne (by intro z; subst z; rw [e1] at ec; cases ec; exact pc)]; exact ec⟩
        have hdb : dx ≠ b := fun z => by rw [z, e1] at e2; cases e2
        obtain ⟨st3, g3⟩ := g2.write (c := .ins y' (putD f d fs)) (o := .ins (CA y') dx (putF f v1 gs)) hb ⟨dx, _, upd_same, by rw [upd_ne hdb]; exact e2, k1, RelDs.mon m _ _ k2⟩
        exact q2 σ L2 _ st3 g3 (er2.step g2 st3)
      · exact q2.elim
    · exact q2.elim
  · exact q2.elim
theorem p_rai {X : Cx} {C : MC} (ok : Ok X CA G W C) {y m : Str} {q p2 p3 p : Pos} {j : Nat} (h1 : gloB C.sc y = true) (h2 : nmOk y = true) (h3 : C.xs y = true) :
    PS X (.Raise (some (.Call (.Name y q) [.Constant (.str m) j p2] [] p3)) none p) (tS X.K CA G W (.rai y)) := by
  obtain ⟨x1, x2, x3, x4⟩ := ok.xc y h3
  refine PS.by_ (ps_raise (ok.cal (ok.xsc _ h3)) ok.tk (pmk_own PySem.F.excBase_ValueError x2 x1 x3 x4 (gl_of ok h1) (nm_of h2).1)) ?_
  rintro Z σ H ⟨S, L, env, g, er, q⟩
  simp only [exS] at q
  exact q σ _ none L H Step.refl g er ⟨rfl, rfl⟩
theorem p_try {X : Cx} {C : MC} {b : List Lt.St} (ok : Ok X CA G W C) (hb0 : ∀ {X : Cx} {W : WX} (ok : Ok X CA G W C) {ss : List Stmt}, mB b C ss = true → PSs X ss (tB X.K CA G W b)) {y : Str} {a : Ex} {ss : List Stmt} {v : Expr} {np rp p2 p : Pos} (ht : C.top = true) (h1 : gloB C.sc y = true) (h2 : nmOk y = true) (h3 : C.xs y = true) (hb : mB b C ss = true) (hv : kE a v = true) :
    PS X (.Try ss [.ExceptHandler (some (.Name y np)) none [.Return (some v) rp] p2] [] [] p) (tS X.K CA G W (.tryC b y a)) := by
  obtain ⟨x1, _, _, _⟩ := ok.xc y h3
  refine PS.by_ (ps_try_only (c := .ref (CA y)) (tb := fun W' => tB X.K CA G W' b) (ts := fun _ _ _ => tB X.K CA G W0 [.ret a]) (Wout := W) (ok.stk ht) (ok.fr ht) ⟨gl_of ok h1, (nm_of h2).1, .inl x1⟩ ok.tk (fun W' pn xe tk pa => hb0 (ok.tr (ok.tc ht) pn xe tk pa) hb) fun a' oe cls d pn hz hf => ?_) ?_
  · refine PSs.by_ (pss_cons (ps_ret (sK (X := X.suite a' ((a', oe) :: pn)) (W := W0) (G := G) (CA := CA) a hv)) pss_nil) ?_
    rintro Z σ H ⟨S, L, env, g, er, q⟩
    simp only [exB, exS] at q
    refine ⟨S, L, env, g, er, ?_⟩
    cases hr : ev G a env S with
    | ok d S1 =>
      rw [hr] at q
      exact fun L1 H1 st g1 v r => q v L1 H1 st g1 r
    | exc c S1 =>
      rw [hr] at q
      exact fun cls' dd L1 H1 st g1 x => q σ cls' dd L1 H1 st g1 (er.step g st) x
    | bad => rw [hr] at q; exact q
  · rintro Z σ H ⟨S, L, env, g, er, q⟩
    simp only [exS] at q
    refine ⟨S, L, env, g, er, ?_⟩
    cases hr : exB G b env S with
    | nx e2 S2 => rw [hr] at q; exact q
    | ret d S2 => rw [hr] at q; exact q
    | brk e2 S2 => rw [hr] at q; exact q
    | bad => rw [hr] at q; exact q
    | exc c e2 S2 =>
      rw [hr] at q
      simp only at q
      intro σ' cls dd L' H' st g' er' x
      cases hs : G.sub c.cls y with
      | none => rw [hs] at q; exact q.elim
      | some bb =>
        rw [hs] at q
        refine ⟨bb, ?_, fun hbt a' ha' => ?_, fun hbf => ?_⟩
        · rw [x.1]; exact ok.sb _ _ _ hs
        · subst hbt
          simp only at q
          refine ⟨S2, L', e2, g', er', ?_⟩
          simp only [exB, exS]
          cases hv2 : ev G a e2 S2 with
          | ok d S3 =>
            rw [hv2] at q
            exact fun v L2 H2 st2 g2 r => q v L2 H2 (st.trans st2) g2 r
          | exc c S3 => rw [hv2] at q; exact q.elim
          | bad => rw [hv2] at q; exact q.elim
        · subst hbf
          exact q σ' cls dd L' H' st g' er' x
theorem p_raiA {X : Cx} {C : MC} (ok : Ok X CA G W C) {y : Str} {x : Ex} {a : Expr} {q p3 p : Pos} (h1 : gloB C.sc y = true) (h2 : nmOk y = true) (h3 : C.xo y = true) (h4 : notSt a = true) (ha : mE x C a = true) :
    PS X (.Raise (some (.Call (.Name y q) [a] [] p3)) none p) (tS X.K CA G W (.raiA y x)) := by
  obtain ⟨fI, k, fd, ps, sp, T, iC, tI, F, hr, hb, hm, hsp⟩ := ok.xo y h3
  refine PS.by_ (ps_raise (ok.cal (ok.xoc _ h3)) ok.tk (pmk_oex (dvs := []) T iC tI F hr hb .nil (fun pins σ H s e s' I hc => ?_) (gl_of ok h1) hm (pa_cons (sE x ok ha).1 pa_nil (star_of h4 [] X.env)) (nm_of h2).1 (star_of h4 [] X.env) rfl)) ?_
  · obtain ⟨_, _, _, _, _, _, _, _, _, _, _, _, z⟩ := hc
    exact z.elim
  rintro Z σ H ⟨S, L, env, g, er, q⟩
  simp only [exS] at q
  refine ⟨S, L, env, g, er, (AftS.toS er g q).mono fun d S1 L1 H1 ⟨st, g1, q1⟩ v r => ⟨by simp, fun b hb1 => ?_⟩⟩
  refine hsp b v _ _ _ upd_same fun dx H' hdx hne he => ?_
  subst he
  have hdx1 : H1 dx = none := by rw [upd_ne hne] at hdx; exact hdx
  refine ⟨rfl, dx, _, upd_same, by rw [upd_ne hne]; exact upd_same, hdx1, ?_⟩
  have eH : upd (del (upd (upd (upd H1 b (exo b (CA y) none)) dx (exd dx [("at", v)])) b (exo b (CA y) (some dx))) b) dx (.xd [("at", v)]) = upd H1 dx (.xd [("at", v)]) := by
    funext z
    by_cases z1 : z = dx
    · subst z1; rw [upd_same, upd_same]
    · rw [upd_ne z1, upd_ne z1]
      by_cases z2 : z = b
      · subst z2; rw [del_same, hb1]
      · rw [del_ne z2, upd_ne z2, upd_ne z1, upd_ne z2]
  rw [eH]
  obtain ⟨st2, g2⟩ := g1.side (o := .xd [("at", v)]) hdx1
  exact q1 σ _ _ _ _ st2 g2 ((er.step g st).step g1 st2) ⟨rfl, dx, v, rfl, upd_same, r.step g1 st2⟩
theorem suite_key {X : Cx} {su : List Lt.St} {i : Nat} {c : Exc} {e2 : Lt.Env} {S2 : Store} {cls : Value} {dd : Option Addr} {Z : Ends} (hnop : G.pin = none) (hi : i < e2.length) (st : Step L H L' H') (g' : Good X.K CA S2 L' H') (er' : EnvR X.K G.pin L' H' e2 σ') (x : ExR X.K CA L' H' c cls dd)
    (q : AftS X.K CA G.pin W L H (suR i (exB { G.toCxt with exc := some c } su (e2.set i none) S2)) Z) (a' : Addr) : ∃ (c : Exc) (o : Option (Addr × D)), cls = .ref (CA c.cls) ∧ dd = o.map (·.1) ∧ c.at_ = o.map (·.2) ∧ tB X.K CA ⟨{ G.toCxt with exc := some c }, some (i, a', o)⟩ W0 su { nx := fun σ' H' => Z.nx (σ'.set i none) H', rt := Z.rt, bk := fun σ' H' => Z.bk (σ'.set i none) H', ct := fun σ' H' => Z.ct (σ'.set i none) H' } (σ'.set i (some (.ref a'))) H' := by
  have hl := er'.len
  have key : ∀ o : Option (Addr × D), (∀ x d, o = some (x, d) → ∃ v, H' x = some (.xd [("at", v)]) ∧ RelD X.K L' H' d v) → tB X.K CA ⟨{ G.toCxt with exc := some c }, some (i, a', o)⟩ W0 su { nx := fun σ' H' => Z.nx (σ'.set i none) H', rt := Z.rt, bk := fun σ' H' => Z.bk (σ'.set i none) H', ct := fun σ' H' => Z.ct (σ'.set i none) H' } (σ'.set i (some (.ref a'))) H' := by
    intro o ho
    refine ⟨S2, L', e2.set i none, g', ⟨by simp [hl], fun j d hj => ?_, fun j b o' he => ?_⟩, ?_⟩
    · by_cases hij : j = i
      · subst hij
        rw [List.getElem?_set_self hi] at hj; cases hj
      · rw [List.getElem?_set_ne (Ne.symm hij)] at hj
        obtain ⟨v, e1, r1⟩ := er'.has j d hj
        exact ⟨v, by rw [List.getElem?_set_ne (Ne.symm hij)]; exact e1, r1⟩
    · cases he
      exact ⟨List.getElem?_set_self (by rw [← hl]; exact hi), List.getElem?_set_self hi, ho⟩
    · have gone : ∀ {e3 : Lt.Env} {σ3 : Sl} {L3 : List Addr} {H3 : Hp}, EnvR X.K (some (i, a', o)) L3 H3 e3 σ3 → EnvR X.K G.pin L3 H3 (e3.set i none) (σ3.set i none) := by
        intro e3 σ3 L3 H3 er3
        refine ⟨by simp [er3.len], fun j d hj => ?_, fun j b o' he => by rw [hnop] at he; cases he⟩
        by_cases hij : j = i
        · subst hij
          by_cases hlt : j < e3.length
          · rw [List.getElem?_set_self hlt] at hj; cases hj
          · rw [List.getElem?_eq_none (by simpa using hlt)] at hj; cases hj
        · rw [List.getElem?_set_ne (Ne.symm hij)] at hj
          obtain ⟨v, e1, r1⟩ := er3.has j d hj
          exact ⟨v, by rw [List.getElem?_set_ne (Ne.symm hij)]; exact e1, r1⟩
      revert q
      show AftS X.K CA G.pin W L H (suR i (exB { G.toCxt with exc := some c } su (e2.set i none) S2)) Z → AftS X.K CA _ W0 L' H' (exB { G.toCxt with exc := some c } su (e2.set i none) S2) _
      cases exB { G.toCxt with exc := some c } su (e2.set i none) S2 with
      | nx e3 S3 => exact fun q σ3 L3 H3 st3 g3 er3 => q _ L3 H3 (st.trans st3) g3 (gone er3)
      | ret d S3 => exact fun q v L3 H3 st3 g3 r => q v L3 H3 (st.trans st3) g3 r
      | brk e3 S3 => exact fun q σ3 L3 H3 st3 g3 er3 => q _ L3 H3 (st.trans st3) g3 (gone er3)
      | exc c3 e3 S3 => exact fun q => q.elim
      | bad => exact fun q => q.elim
  obtain ⟨x1', x2⟩ := x
  cases hat : c.at_ with
  | none =>
    rw [hat] at x2
    exact ⟨c, none, x1', x2, hat, key none fun x d h => by cases h⟩
  | some d =>
    rw [hat] at x2
    obtain ⟨xd, v, e1, e2', r⟩ := x2
    exact ⟨c, some (xd, d), x1', e1, hat, key _ fun x' d' h => by cases h; exact ⟨v, e2', r⟩⟩
theorem p_tryA {X : Cx} {C : MC} {b su : List Lt.St} (ok : Ok X CA G W C) (hb0 : ∀ {X : Cx} {W : WX} (ok : Ok X CA G W C) {ss : List Stmt}, mB b C ss = true → PSs X ss (tB X.K CA G W b)) (hs0 : ∀ {X : Cx} {G : Cxp} {W : WX} {C : MC} (ok : Ok X CA G W C) {ss : List Stmt}, mB su C ss = true → PSs X ss (tB X.K CA G W su))
    {y n : Str} {i : Nat} {ss : List Stmt} {b0 : Stmt} {sus : List Stmt} {np p2 p : Pos} (ht : C.top = true) (h1 : gloB C.sc y = true) (h2 : nmOk y = true) (h3 : (C.xs y || C.xo y) = true) (h4 : slotB C i n = true) (h5 : locB C.sc n = true) (hb : mB b C ss = true) (hsu : mB su (C.suite i) (b0 :: sus) = true) :
    PS X (.Try ss [.ExceptHandler (some (.Name y np)) (some n) (b0 :: sus) p2] [] [] p) (tS X.K CA G W (.tryA b y i su)) := by
  have x1 : X.mg y = some (.ref (CA y)) := by
    rw [Bool.or_eq_true] at h3
    rcases h3 with h3 | h3
    · exact (ok.xc y h3).1
    · obtain ⟨_, _, _, _, _, _, _, _, _, _, _, hm, _⟩ := ok.xo y h3
      exact hm
  have hnop : G.pin = none := by
    have e := ok.hot
    rw [ok.tc ht] at e
    exact Option.map_eq_none_iff.mp e.symm
  refine PS.by_ (ps_try_as (c := .ref (CA y)) (i := i) (tb := fun W' => tB X.K CA G W' b) (ts := fun a cls d Z σ H => ∃ (c : Exc) (o : Option (Addr × D)), cls = .ref (CA c.cls) ∧ d = o.map (·.1) ∧ c.at_ = o.map (·.2) ∧ tB X.K CA ⟨{ G.toCxt with exc := some c }, some (i, a, o)⟩ W0 su Z σ H) (Wout := W)
    (ok.stk ht) (ok.fr ht) (by rw [ok.nm]; exact ok.nd) (by rw [ok.nm]; exact slot_of h4) (by show X.env.scope.names.lookup n = _; rw [ok.sc]; exact loc_of h5) ⟨gl_of ok h1, (nm_of h2).1, .inl x1⟩ ok.tk (fun W' pn xe tk pa => hb0 (ok.tr (ok.tc ht) pn xe tk pa) hb) fun a' oe cls d pn hz hf => ?_) ?_
  · refine ⟨fun pins s σ H D I q => ?_⟩
    obtain ⟨c, o, rfl, rfl, hat, q⟩ := q
    exact (hs0 (ok.suite i a' oe pn c o hz hf hat) hsu).run pins s σ H D I q
  · rintro Z σ H ⟨S, L, env, g, er, q⟩
    simp only [exS] at q
    refine ⟨S, L, env, g, er, ?_⟩
    cases hr : exB G b env S with
    | nx e2 S2 => rw [hr] at q; exact q
    | ret d S2 => rw [hr] at q; exact q
    | brk e2 S2 => rw [hr] at q; exact q
    | bad => rw [hr] at q; exact q
    | exc c e2 S2 =>
      rw [hr] at q
      simp only at q
      intro σ' cls dd L' H' st g' er' x
      cases hs : G.sub c.cls y with
      | none => rw [hs] at q; exact q.elim
      | some bb =>
        rw [hs] at q
        refine ⟨bb, ?_, fun hbt a' ha' => ?_, fun hbf => ?_⟩
        · rw [x.1]; exact ok.sb _ _ _ hs
        · subst hbt
          simp only at q
          split at q
          · rename_i hi
            exact suite_key hnop hi st g' er' x q a'
          · exact q.elim
        · subst hbf
          exact q σ' cls dd L' H' st g' er' x
theorem p_try2 {X : Cx} {C : MC} {b su su2 : List Lt.St} (ok : Ok X CA G W C) (hb0 : ∀ {X : Cx} {W : WX} (ok : Ok X CA G W C) {ss : List Stmt}, mB b C ss = true → PSs X ss (tB X.K CA G W b)) (hs0 : ∀ {X : Cx} {G : Cxp} {W : WX} {C : MC} (ok : Ok X CA G W C) {ss : List Stmt}, mB su C ss = true → PSs X ss (tB X.K CA G W su))
    (hs02 : ∀ {X : Cx} {G : Cxp} {W : WX} {C : MC} (ok : Ok X CA G W C) {ss : List Stmt}, mB su2 C ss = true → PSs X ss (tB X.K CA G W su2))
    {y n y2 n2 : Str} {i i2 : Nat} {ss : List Stmt} {b0 b02 : Stmt} {sus sus2 : List Stmt} {np p2 np2 p3 p : Pos} (ht : C.top = true) (h1 : gloB C.sc y = true) (h2 : nmOk y = true) (h3 : (C.xs y || C.xo y) = true) (h4 : slotB C i n = true) (h5 : locB C.sc n = true)
    (k1 : gloB C.sc y2 = true) (k2 : nmOk y2 = true) (k3 : (C.xs y2 || C.xo y2) = true) (k4 : slotB C i2 n2 = true) (k5 : locB C.sc n2 = true) (hb : mB b C ss = true) (hsu : mB su (C.suite i) (b0 :: sus) = true) (hsu2 : mB su2 (C.suite i2) (b02 :: sus2) = true) :
    PS X (.Try ss [.ExceptHandler (some (.Name y np)) (some n) (b0 :: sus) p2, .ExceptHandler (some (.Name y2 np2)) (some n2) (b02 :: sus2) p3] [] [] p) (tS X.K CA G W (.try2 b y i su y2 i2 su2)) := by
  have glob : ∀ z, (C.xs z || C.xo z) = true → X.mg z = some (.ref (CA z)) := fun z h => by
    rw [Bool.or_eq_true] at h
    rcases h with h | h
    · exact (ok.xc z h).1
    · obtain ⟨_, _, _, _, _, _, _, _, _, _, _, hm, _⟩ := ok.xo z h
      exact hm
  have hnop : G.pin = none := by
    have e := ok.hot
    rw [ok.tc ht] at e
    exact Option.map_eq_none_iff.mp e.symm
  have suit : ∀ {z : Str} {i : Nat} {su : List Lt.St} {b0 : Stmt} {sus : List Stmt} (hs0 : ∀ {X : Cx} {G : Cxp} {W : WX} {C : MC} (ok : Ok X CA G W C) {ss : List Stmt}, mB su C ss = true → PSs X ss (tB X.K CA G W su)), mB su (C.suite i) (b0 :: sus) = true → ∀ (a : Addr) (oe : Obj) (cls : Value) (d : Option Addr) (pn : List (Addr × Obj)), Zc cls d oe → (∃ vs, oe.data = .fields vs) → PSs (X.suite a ((a, oe) :: pn)) (b0 :: sus) (fun Z σ H => ∃ (c : Exc) (o : Option (Addr × D)), cls = .ref (CA c.cls) ∧ d = o.map (·.1) ∧ c.at_ = o.map (·.2) ∧ tB X.K CA ⟨{ G.toCxt with exc := some c }, some (i, a, o)⟩ W0 su Z σ H) := by
    intro z i su b0 sus hs0 hsu a' oe cls d pn hz hf
    refine ⟨fun pins s σ H D I q => ?_⟩
    obtain ⟨c, o, rfl, rfl, hat, q⟩ := q
    exact (hs0 (ok.suite i a' oe pn c o hz hf hat) hsu).run pins s σ H D I q
  refine PS.by_ (ps_try_nam (tb := fun W' => tB X.K CA G W' b) (l := [(i, .ref (CA y), fun a cls d Z σ H => ∃ (c : Exc) (o : Option (Addr × D)), cls = .ref (CA c.cls) ∧ d = o.map (·.1) ∧ c.at_ = o.map (·.2) ∧ tB X.K CA ⟨{ G.toCxt with exc := some c }, some (i, a, o)⟩ W0 su Z σ H), (i2, .ref (CA y2), fun a cls d Z σ H => ∃ (c : Exc) (o : Option (Addr × D)), cls = .ref (CA c.cls) ∧ d = o.map (·.1) ∧ c.at_ = o.map (·.2) ∧ tB X.K CA ⟨{ G.toCxt with exc := some c }, some (i2, a, o)⟩ W0 su2 Z σ H)]) (Wout := W)
    (ok.stk ht) (ok.fr ht) (by rw [ok.nm]; exact ok.nd) ok.tk (fun W' pn xe tk pa => hb0 (ok.tr (ok.tc ht) pn xe tk pa) hb)
    (.cons (by rw [ok.nm]; exact slot_of h4) (by show X.env.scope.names.lookup n = _; rw [ok.sc]; exact loc_of h5) ⟨gl_of ok h1, (nm_of h2).1, .inl (glob y h3)⟩ (suit (z := y) hs0 hsu)
      (.cons (by rw [ok.nm]; exact slot_of k4) (by show X.env.scope.names.lookup n2 = _; rw [ok.sc]; exact loc_of k5) ⟨gl_of ok k1, (nm_of k2).1, .inl (glob y2 k3)⟩ (suit (z := y2) hs02 hsu2) .nil))) ?_
  rintro Z σ H ⟨S, L, env, g, er, q⟩
  simp only [exS] at q
  refine ⟨S, L, env, g, er, ?_⟩
  cases hr : exB G b env S with
  | nx e2 S2 => rw [hr] at q; exact q
  | ret d S2 => rw [hr] at q; exact q
  | brk e2 S2 => rw [hr] at q; exact q
  | bad => rw [hr] at q; exact q
  | exc c e2 S2 =>
    rw [hr] at q
    simp only at q
    intro σ' cls dd L' H' st g' er' x
    cases hs : G.sub c.cls y with
    | none => rw [hs] at q; exact q.elim
    | some bb =>
      rw [hs] at q
      refine ⟨bb, ?_, fun hbt a' ha' => ?_, fun hbf => ?_⟩
      · rw [x.1]; exact ok.sb _ _ _ hs
      · subst hbt
        simp only at q
        split at q
        · rename_i hi
          exact suite_key hnop hi st g' er' x q a'
        · exact q.elim
      · subst hbf
        simp only at q
        cases hs2 : G.sub c.cls y2 with
        | none => rw [hs2] at q; exact q.elim
        | some b2 =>
          rw [hs2] at q
          refine ⟨b2, ?_, fun hbt a' ha' => ?_, fun hbf => ?_⟩
          · rw [x.1]; exact ok.sb _ _ _ hs2
          · subst hbt
            simp only at q
            split at q
            · rename_i hi
              exact suite_key hnop hi st g' er' x q a'
            · exact q.elim
          · subst hbf
            exact q σ' cls dd L' H' st g' er' x
mutual
theorem sS : ∀ (x : Lt.St) {X : Cx} {G : Cxp} {W : WX} {C : MC} (ok : Ok X CA G W C) {s : Stmt}, mS x C s = true → PS X s (tS X.K CA G W x)
  | .asg t x, X, G, W, C, ok, s, h => by
    obtain ⟨tg, v, p, rfl, h⟩ := qAsg_inv C t _ h
    obtain ⟨h, h3⟩ := ba h
    obtain ⟨h1, h2⟩ := ba h
    exact p_asg ok h1 h2 h3
  | .par i j a b, X, G, W, C, ok, s, h => by
    obtain ⟨x, px, y, py, kt, pt, l, r, k2, pt2, p, rfl, h⟩ := qPar_inv C i j _ _ h
    obtain ⟨h, h8⟩ := ba h
    obtain ⟨h, h7⟩ := ba h
    obtain ⟨h, h6⟩ := ba h
    obtain ⟨h, h5⟩ := ba h
    obtain ⟨h, h4⟩ := ba h
    obtain ⟨h, h3⟩ := ba h
    obtain ⟨h, h2⟩ := ba h
    obtain ⟨hcd, h1⟩ := ba h
    exact p_par ok hcd h1 h2 (of_decide_eq_true h3) h4 h5 h6 h7 h8
  | .sub o i x, X, G, W, C, ok, s, h => by
    obtain ⟨l, k, p2, v, p, rfl, h⟩ := qSub_inv _ _ _ h
    obtain ⟨h, h4⟩ := ba h
    obtain ⟨h, h3⟩ := ba h
    obtain ⟨h1, h2⟩ := ba h
    exact p_sub ok h1 h2 h3 h4
  | .exp x, X, G, W, C, ok, s, h => by
    obtain ⟨v, p, rfl, h⟩ := qExp_inv _ h
    obtain ⟨h1, h2⟩ := ba h
    refine PS.by_ (ps_expr (sE x ok h2).1 (sw_of h1 h2 none p.line X.env)) ?_
    rintro Z σ H ⟨S, L, env, g, er, q⟩
    simp only [exS] at q
    exact ⟨S, L, env, g, er, (AftS.toS er g q).mono fun d S1 L1 H1 ⟨st, g1, q1⟩ v r => q1 σ L1 H1 Step.refl g1 (er.step g st)⟩
  | .ite c a b, X, G, W, C, ok, s, h => by
    obtain ⟨t, l, r, p, rfl, h⟩ := qIte_inv _ _ _ h
    obtain ⟨h, h3⟩ := ba h
    obtain ⟨h1, h2⟩ := ba h
    obtain ⟨h0, h1⟩ := ba h1
    refine PS.by_ (ps_if ((sE c ok h1).2 h0).1 (sB a ok h2) (sB b ok h3)) ?_
    rintro Z σ H ⟨S, L, env, g, er, q⟩
    simp only [exS] at q
    refine ⟨S, L, env, g, er, (AftS.toS er g q).mono fun d S1 L1 H1 ⟨st, g1, q1⟩ => ?_⟩
    split at q1
    · exact ⟨true, rfl, iteT ⟨S1, L1, env, g1, er.step g st, q1⟩⟩
    · exact ⟨false, rfl, iteF ⟨S1, L1, env, g1, er.step g st, q1⟩⟩
    · exact q1.elim
  | .forS t it b, X, G, W, C, ok, s, h => by
    obtain ⟨tg, i, l, p, rfl, h⟩ := qFor_inv C t _ _ _ h
    obtain ⟨h, h5⟩ := ba h
    obtain ⟨h, h4⟩ := ba h
    obtain ⟨h, h3⟩ := ba h
    obtain ⟨h, h2⟩ := ba h
    obtain ⟨hcd, h1⟩ := ba h
    exact p_for ok hcd h1 h3 (sI it ok (nd_of h2) h4) (sB b ok h5)
  | .whl c b, X, G, W, C, ok, s, h => by
    obtain ⟨t, l, p, rfl, h⟩ := qWhl_inv _ _ _ h
    obtain ⟨h, h2⟩ := ba h
    obtain ⟨hcd, h1⟩ := ba h
    obtain ⟨h0, h1⟩ := ba h1
    exact p_whl ok hcd ((sE c ok h1).2 h0).1 (sB b ok h2)
  | .ret x, X, G, W, C, ok, s, h => by
    obtain ⟨v, p, rfl, h⟩ := qRet_inv _ h
    refine PS.by_ (ps_ret (sE x ok h).1) ?_
    rintro Z σ H ⟨S, L, env, g, er, q⟩
    simp only [exS] at q
    exact ⟨S, L, env, g, er, (AftS.toS er g q).mono fun d S1 L1 H1 ⟨st, g1, q1⟩ v r => q1 v L1 H1 Step.refl g1 r⟩
  | .retN, X, G, W, C, ok, s, h => by
    obtain ⟨p, rfl, _⟩ := qRetN_inv h
    refine PS.by_ ps_retN ?_
    rintro Z σ H ⟨S, L, env, g, er, q⟩
    simp only [exS] at q
    exact q .non L H Step.refl g (by simp [RelD])
  | .brk, X, G, W, C, ok, s, h => by
    obtain ⟨p, rfl, _⟩ := qBrk_inv h
    refine PS.by_ ps_break ?_
    rintro Z σ H ⟨S, L, env, g, er, q⟩
    simp only [exS] at q
    exact q σ L H Step.refl g er
  | .pass, X, G, W, C, ok, s, h => by
    obtain ⟨p, rfl, _⟩ := qPass_inv h
    refine PS.by_ ps_pass ?_
    rintro Z σ H ⟨S, L, env, g, er, q⟩
    simp only [exS] at q
    exact q σ L H Step.refl g er
  | .stf o y f x, X, G, W, C, ok, s, h => by
    obtain ⟨l, m, p2, v, p, rfl, h⟩ := qStf_inv C y f _ _ h
    obtain ⟨h, h4⟩ := ba h
    obtain ⟨h, h3⟩ := ba h
    obtain ⟨h1, h2⟩ := ba h
    have h1 := of_decide_eq_true h1
    subst h1
    exact p_stf ok h2 h3 h4
  | .any, X, G, W, C, ok, s, h => by
    refine ⟨fun pins s σ H D I ⟨S, L, env, g, er, q⟩ => ?_⟩
    simp only [exS] at q
    exact q.elim
  | .dst o i x, X, G, W, C, ok, s, h => by
    obtain ⟨l, k, p2, v, p, rfl, h⟩ := qSub_inv _ _ _ h
    obtain ⟨h, h4⟩ := ba h
    obtain ⟨h, h3⟩ := ba h
    obtain ⟨h1, h2⟩ := ba h
    exact p_dst ok h1 h2 h3 h4
  | .rai y, X, G, W, C, ok, s, h => by
    obtain ⟨x, q, m, j, p2, p3, p, rfl, h⟩ := qRai_inv C y h
    obtain ⟨h, h4⟩ := ba h
    obtain ⟨h, h3⟩ := ba h
    obtain ⟨h1, h2⟩ := ba h
    have h1 := of_decide_eq_true h1
    subst h1
    exact p_rai ok h2 h3 h4
  | .tryC b y a, X, G, W, C, ok, s, h => by
    obtain ⟨ss, x, np, v, rp, p2, p, rfl, h⟩ := qTry_inv C y _ _ h
    obtain ⟨h, h7⟩ := ba h
    obtain ⟨h, h6⟩ := ba h
    obtain ⟨h, h5⟩ := ba h
    obtain ⟨h, h4⟩ := ba h
    obtain ⟨h, h3⟩ := ba h
    obtain ⟨h1, h2⟩ := ba h
    have h2 := of_decide_eq_true h2
    subst h2
    exact p_try ok (fun {_ _} ok {_} h => sB b ok h) h1 h3 h4 h5 h6 h7
  | .raiA y a, X, G, W, C, ok, s, h => by
    obtain ⟨x, q, l, p3, p, rfl, h⟩ := qRaA_inv C y _ h
    obtain ⟨h, h6⟩ := ba h
    obtain ⟨h, h5⟩ := ba h
    obtain ⟨h, h4⟩ := ba h
    obtain ⟨h, h3⟩ := ba h
    obtain ⟨h1, h2⟩ := ba h
    have h1 := of_decide_eq_true h1
    subst h1
    exact p_raiA ok h2 h3 h4 h5 h6
  | .tryA b y i su, X, G, W, C, ok, s, h => by
    obtain ⟨ss, x, np, n, b0, sus, p2, p, rfl, h⟩ := qTrA_inv C y i _ _ h
    obtain ⟨h, h9⟩ := ba h
    obtain ⟨h, h8⟩ := ba h
    obtain ⟨h, h7⟩ := ba h
    obtain ⟨h, h6⟩ := ba h
    obtain ⟨h, h5⟩ := ba h
    obtain ⟨h, h4⟩ := ba h
    obtain ⟨h, h3⟩ := ba h
    obtain ⟨h1, h2⟩ := ba h
    have h2 := of_decide_eq_true h2
    subst h2
    exact p_tryA ok (fun {_ _} ok {_} h => sB b ok h) (fun {_ _ _ _} ok {_} h => sB su ok h) h1 h3 h4 h5 h6 h7 h8 h9
  | .par3 i j k a b c, X, G, W, C, ok, s, h => by
    obtain ⟨x, px, y, py, z, pz, kt, pt, l, r, m, k2, pt2, p, rfl, h⟩ := qPa3_inv C i j k _ _ _ h
    obtain ⟨h, h14⟩ := ba h
    obtain ⟨h, h13⟩ := ba h
    obtain ⟨h, h12⟩ := ba h
    obtain ⟨h, h11⟩ := ba h
    obtain ⟨h, h10⟩ := ba h
    obtain ⟨h, h9⟩ := ba h
    obtain ⟨h, h8⟩ := ba h
    obtain ⟨h, h7⟩ := ba h
    obtain ⟨h, h6⟩ := ba h
    obtain ⟨h, h5⟩ := ba h
    obtain ⟨h, h4⟩ := ba h
    obtain ⟨h, h3⟩ := ba h
    obtain ⟨hcd, h2⟩ := ba h
    exact p_par3 ok hcd h2 h3 h4 (of_decide_eq_true h5) (of_decide_eq_true h6) (of_decide_eq_true h7) h8 h9 h10 h11 h12 h13 h14
  | .try2 b y i su y2 i2 su2, X, G, W, C, ok, s, h => by
    obtain ⟨ss, x, np, n, b0, sus, p2, x2, np2, n2, b02, sus2, p3, p, rfl, h⟩ := qTr2_inv C y i y2 i2 _ _ _ h
    obtain ⟨h, h16⟩ := ba h
    obtain ⟨h, h15⟩ := ba h
    obtain ⟨h, h14⟩ := ba h
    obtain ⟨h, h13⟩ := ba h
    obtain ⟨h, h12⟩ := ba h
    obtain ⟨h, h11⟩ := ba h
    obtain ⟨h, h10⟩ := ba h
    obtain ⟨h, h9⟩ := ba h
    obtain ⟨h, h8⟩ := ba h
    obtain ⟨h, h7⟩ := ba h
    obtain ⟨h, h6⟩ := ba h
    obtain ⟨h, h5⟩ := ba h
    obtain ⟨h, h4⟩ := ba h
    obtain ⟨h, h3⟩ := ba h
    obtain ⟨h1, h2⟩ := ba h
    have h2 := of_decide_eq_true h2
    have h8 := of_decide_eq_true h8
    subst h2 h8
    exact p_try2 ok (fun {_ _} ok {_} h => sB b ok h) (fun {_ _ _ _} ok {_} h => sB su ok h) (fun {_ _ _ _} ok {_} h => sB su2 ok h) h1 h3 h4 h5 h6 h7 h9 h10 h11 h12 h13 h14 h15 h16
theorem sB : ∀ (xs : List Lt.St) {X : Cx} {G : Cxp} {W : WX} {C : MC} (ok : Ok X CA G W C) {ss : List Stmt}, mB xs C ss = true → PSs X ss (tB X.K CA G W xs)
  | [], X, G, W, C, ok, ss, h => by
    rw [mB_nil h]
    refine PSs.by_ pss_nil ?_
    rintro Z σ H ⟨S, L, env, g, er, q⟩
    simp only [exB] at q
    exact q σ L H Step.refl g er
  | x :: xs, X, G, W, C, ok, ss, h => by
    obtain ⟨s, r, rfl, h1, h2⟩ := mB_cons h
    refine PSs.by_ (pss_cons (sS x ok h1) (sB xs ok h2)) ?_
    rintro Z σ H ⟨S, L, env, g, er, q⟩
    simp only [exB] at q
    refine ⟨S, L, env, g, er, ?_⟩
    cases hr : exS G x env S with
    | nx e2 S2 =>
      rw [hr] at q
      exact fun σ' L2 H2 s2 g2 er3 => ⟨S2, L2, e2, g2, er3, AftS.from s2 q⟩
    | brk e2 S2 => rw [hr] at q; exact q
    | ret d2 S2 => rw [hr] at q; exact q
    | exc c e2 S2 => rw [hr] at q; exact q
    | bad => rw [hr] at q; exact q
end
end
end Lt
set_option maxHeartbeats 1000000
namespace Lt
open PySem PySem.Spec PyProof.Rows L2
def plainA (a : Arguments) (ps : List Str) : Bool := a.posonlyargs.isEmpty && a.vararg.isNone && a.kwonlyargs.isEmpty && a.kwarg.isNone && decide (a.args.map (·.arg) = ps) && decide (ps.length ≤ 9)
def fnKind (k : ScopeKind) : Bool := match k with
  | .function => true
  | _ => false
def parB (sc : Scope) (x : Str) : Bool := match sc.names.lookup x with
  | some .local => true
  | some .cell => true
  | _ => false
def nofB (q : Str × NameKind) : Bool := match q.2 with
  | .free => false
  | _ => true
def ndB : List Str → Bool
  | [] => true
  | x :: r => !(r.any fun y => decide (y = x)) && ndB r
def scB (N ps : List Str) (sc : Scope) : Bool := fnKind sc.kind && !sc.isCoroutine && !sc.isGenerator && ndB N && decide (N.take ps.length = ps) && ps.all (parB sc) && sc.names.all nofB
def xsOf (P : Prog) (x : Str) : Bool := P.subs.any fun p => decide (p.1 = x)
def hasS (l : List Str) (x : Str) : Bool := l.any fun y => decide (y = x)
def xoOf (P : Prog) (x : Str) : Bool := P.sub2.any fun p => decide (p.1 = x)
def flOf (P : Prog) (y f : Str) : Bool := match P.kl.lookup y with
  | some (fs, _) => hasS fs f
  | none => false
/-- so many written arguments are enough -/
def okN (m : Def) (n : Nat) : Bool := decide (n ≤ m.ps.length) && decide (m.ps.length ≤ n + m.dfl.length)
def arityN (P : Prog) (key : Str) (n : Nat) : Bool := match P.defs.lookup key with
  | some m => okN m n
  | none => false
def arity (P : Prog) (key : Str) (n : Nat) : Bool := match P.defs.lookup key with
  | some m => decide (m.ps.length = n)
  | none => false
def keyOf (P : Prog) (y m : Str) : Option Str := match P.kl.lookup y with
  | some (_, ms) => ms.lookup m
  | none => none
def msOf (P : Prog) (y m key : Str) (n : Nat) : Bool := decide (keyOf P y m = some key) && arityN P key (n + 1)
def mksOf (P : Prog) (y key : Str) (n : Nat) : Bool := decide (keyOf P y "__init__" = some key) && arity P key (n + 1)
/-- where a def stands -/
def atIn (key y : Str) : List (Str × Str) → Option (Str × Option Str)
  | [] => none
  | q :: r => if q.2 = key then some (y, some q.1) else atIn key y r
def atKl (key : Str) : List (Str × List Str × List (Str × Str)) → Option (Str × Option Str)
  | [] => none
  | q :: r => match atIn key q.1 q.2.2 with
    | some a => some a
    | none => atKl key r
def atOf (P : Prog) (f : Str) : Str × Option Str := match atKl f P.kl with
  | some a => a
  | none => (f, none)
def eqAt (a b : Str × Option Str) : Bool := decide (a.1 = b.1) && (match a.2, b.2 with
  | none, none => true
  | some x, some y => decide (x = y)
  | _, _ => false)
def atB (a : Str × Option Str) (d : He.DefD) : Bool := eqAt d.at_ a
def fsOf (P : Prog) (f : Str) (n : Nat) : Bool := eqAt (atOf P f) (f, none) && match P.defs.lookup f with
  | some m => okN m n
  | none => false
def dvB : D → He.Dv → Bool
  | .int i, .int j => decide (i = j)
  | .bl b, .bl c => b == c
  | .non, .non => true
  | .str s, .str z => decide (s = z)
  | _, _ => false
def dflM (m : Def) (d : He.DefD) : Bool := match m.dfl, d.dfl with
  | [], [] => true
  | [x], [y] => dvB x y && decide (1 ≤ m.ps.length)
  | _, _ => false
def xqOf (P : Prog) (f : Str) : Bool := (P.xdefs.lookup f).isSome
/-- within a def that looks at a held error -/
def mcX (m : Def) (sc : Scope) : MC := ⟨m.ns, sc, true, fun _ _ => false, fun _ => false, fun _ _ => false, fun _ _ _ _ => false, fun _ _ _ => false, fun _ => false, none, fun _ => false⟩
def xdB1 (m : Def) (d : He.DefD) : Bool := decide (m.ps.length = 1) && d.dfl.isEmpty && d.kwd.isEmpty && plainA d.params m.ps && scB m.ns m.ps d.scope && mB m.body ((mcX m d.scope).suite 0) d.body
def defB (P : Prog) (m : Def) (d : He.DefD) : Bool := dflM m d && d.kwd.isEmpty && plainA d.params m.ps && scB m.ns m.ps d.scope && mB m.body ⟨m.ns, d.scope, true, fsOf P, xsOf P, flOf P, msOf P, mksOf P, xoOf P, none, xqOf P⟩ d.body
def tabB (P : Prog) : List (Str × Def) → List He.DefD → Bool
  | [], _ => true
  | _ :: _, [] => false
  | p :: ps, d :: ds => if atB (atOf P p.1) d = true then defB P p.2 d && tabB P ps ds else tabB P (p :: ps) ds
def hasGlo (fa : List He.Fa) (x : Str) : Bool := fa.any fun a => match a with
  | .glo y => decide (y = x)
  | _ => false
def hasFree (fa : List He.Fa) (x : Str) : Bool := fa.any fun a => match a with
  | .free y => decide (y = x)
  | _ => false
def hasInt (fa : List He.Fa) (x : Str) (i : Int) : Bool := fa.any fun a => match a with
  | .int y j => decide (y = x) && decide (j = i)
  | _ => false
def hasStr (fa : List He.Fa) (x z : Str) : Bool := fa.any fun a => match a with
  | .str y w => decide (y = x) && decide (w = z)
  | _ => false
def gloB1 (fa : List He.Fa) (q : Str × D) : Bool := match q.2 with
  | .int i => hasInt fa q.1 i
  | .str z => hasStr fa q.1 z
  | .frt _ => hasGlo fa q.1
  | _ => false
def relStr : List D → List Value → Bool
  | [], [] => true
  | .str s :: r, .str z _ :: q => decide (s = z) && relStr r q
  | _, _ => false
def tupB (K : PySem.W.Frag) (a : Addr) (xs : List D) : Bool := match K.lookup a with
  | some ⟨.type c, _, .seq its _, _⟩ => decide (c = "tuple") && (decide (its.size ≤ 1000) && relStr xs its.toList)
  | _ => false
def glP (P : Prog) (K : PySem.W.Frag) : Bool := P.glob.all fun q => match q.2 with
  | .frt xs => tupB K (He.ga K q.1) xs
  | _ => true
def excCB (K : PySem.W.Frag) (D : Addr) : Bool := decide (PySem.W.findIn K (.ref D) "__getattribute__" = some (some (.builtin "BaseException.__getattribute__"))) && (decide (PySem.W.findIn K (.ref D) "__getattr__" = some none) && (decide (PySem.W.subIn K (.ref D) (.type "BaseException") = some true) && (PySem.W.hasDictIn K D && (decide (PySem.W.findIn K (.ref D) "__class__" = some (some (.builtin "object.__class__"))) && (decide (PySem.W.specialIn K (.builtin "object.__class__") "__get__" = some (some (.builtin "getset_descriptor.__get__"))) && (decide (PySem.W.takesIn K (.builtin "object.__class__") = some true) && decide (PySem.W.mroIn K D (.type "object") = some true)))))))
theorem excCB_ok {K : PySem.W.Frag} {D : Addr} (h : excCB K D = true) : ExcC K D := by
  obtain ⟨h1, h⟩ := ba h
  obtain ⟨h2, h⟩ := ba h
  obtain ⟨h3, h⟩ := ba h
  obtain ⟨h4, h⟩ := ba h
  obtain ⟨h5, h⟩ := ba h
  obtain ⟨h6, h⟩ := ba h
  obtain ⟨h7, h8⟩ := ba h
  exact ⟨of_decide_eq_true h1, of_decide_eq_true h2, of_decide_eq_true h3, h4, of_decide_eq_true h5, of_decide_eq_true h6, of_decide_eq_true h7, of_decide_eq_true h8⟩
def clsB (K : PySem.W.Frag) (D : Addr) (q : Str × Bool) : Bool := if q.1 = ("ValueError" : Str) then decide (PySem.W.kitOne K (.ref D) (.type "ValueError") = some q.2) else decide (PySem.W.kitOne K (.ref D) (.ref (He.ga K q.1)) = some q.2)
def isxB (K : PySem.W.Frag) (p : Str × List (Str × Bool)) : Bool := excCB K (He.ga K p.1) && (xfB K (He.ga K p.1) && (decide (PySem.W.findIn K (.ref (He.ga K p.1)) "at" = some none) && p.2.all (clsB K (He.ga K p.1))))
def oexB (K : PySem.W.Frag) (C : Addr) : Bool := match K.lookup C with
  | some ⟨.type "type", _, .cls cd, sl⟩ => (match cd.mro, sl.toList with
    | .ref C' :: bm, [_, _, _, _, some (.builtin n), _] => C' == C && n == "ValueError.__new__" && !cd.hasDel && cd.hasDict && PySem.HandSPX.refsVE bm
    | _, _ => false)
  | _ => false
theorem oexB_ok {K : PySem.W.Frag} {C : Addr} (q : oexB K C = true) : ∃ nm qn N bs bm sn sub ab col dd k0 k1 k2 k3 k5, K.lookup C = some (excClassObj nm qn C N bs bm true sn sub ab col dd k0 k1 k2 k3 k5 "ValueError.__new__") ∧ PySem.HandSPX.refsVE bm = true := by
  unfold oexB at q
  split at q
  · rename_i dd cd sl ho
    split at q
    · rename_i C' bm k0 k1 k2 k3 n k5 hm hs
      simp only [Bool.and_eq_true, beq_iff_eq, Bool.not_eq_true'] at q
      obtain ⟨⟨⟨⟨rfl, rfl⟩, hdel⟩, hdd⟩, ht⟩ := q
      obtain ⟨nm, bs, mro, ns, qn, hd, sn, sub, ab, col, del⟩ := cd
      dsimp only at hm hdel hdd
      subst hm hdel hdd
      have hsl : sl = #[k0, k1, k2, k3, some (.builtin "ValueError.__new__"), k5] := by
        obtain ⟨l⟩ := sl
        simp only at hs
        rw [hs]
      subst hsl
      exact ⟨nm, qn, ns, bs, bm, sn, sub, ab, col, dd, k0, k1, k2, k3, k5, ho, ht⟩
    · cases q
  · cases q
def sub2B (K : PySem.W.Frag) (p : Str × List (Str × Bool)) : Bool := oexB K (He.ga K p.1) && (decide (PySem.W.findIn K (.ref (He.ga K p.1)) "__setattr__" = some (some (.builtin "object.__setattr__"))) && (decide (PySem.W.subIn K (.ref (He.ga K p.1)) (.type "BaseException") = some true) && (decide (PySem.W.typeIn K (.ref (He.ga K p.1)) = some (.type "type")) && (PySem.W.keepIn K (.ref (He.ga K p.1)) && (decide (PySem.W.findIn K (.ref (He.ga K p.1)) "__init__" = some (some (.ref (He.fAd K (p.1, some "__init__"))))) && (decide (PySem.W.typeIn K (.ref (He.fAd K (p.1, some "__init__"))) = some (.type "function")) && (decide (PySem.W.findIn K (.ref (He.ga K p.1)) "at" = some none) && p.2.all fun q => decide (PySem.W.exmOne K (.ref (He.ga K p.1)) (.ref (He.ga K q.1)) = some q.2))))))))
def exP (P : Prog) (K : PySem.W.Frag) : Bool := glP P K && (P.isx.all (isxB K) && P.sub2.all (sub2B K))
def visS (sc : Scope) (x : Str) : Bool := match sc.names.lookup x with
  | some .local => true
  | some .cell => true
  | some .free => true
  | _ => false
/-- __init__ of an error with a field -/
def initS (sc : Scope) (a b : Str) (l : List Stmt) : Bool := match l with
  | [.Assign [.Attribute (.Name x _) f _] (.Name y _) _] => decide (x = a) && decide (y = b) && decide (f = ("at" : Str)) && visS sc a && visS sc b && nmOk a && nmOk b
  | _ => false
def initB (d : He.DefD) : Bool := d.dfl.isEmpty && d.kwd.isEmpty && (match d.params.args.map (·.arg) with
  | [a, b] => plainA d.params [a, b] && scB [a, b] [a, b] d.scope && initS d.scope a b d.body
  | _ => false)
abbrev AlL : Type := He.AlD × Bool
def obsL (n : Nat) (fa : List He.Fa) (fn : List He.DefD) (ex : PySem.W.Frag → Bool) (g : Addr → Option Obj) : AlL := (He.obsD fa fn (He.frG g (He.asD g n)), ex (He.frG g (He.asD g n)))
def hookL (n : Nat) (fa : List He.Fa) (fn : List He.DefD) (ex : PySem.W.Frag → Bool) : PySem.W.Hook where
  α := AlL
  obs := fun s => obsL n fa fn ex s.heap.get?
  val := fun _ => (He.valD fn, true)
  says := fun _ h => ∃ K : PySem.W.Frag, K.In h ∧ He.SaysD fa fn K ∧ ex K = true
  of := fun _ _ e => ⟨_, He.frG_in, congrArg (fun z : AlL => z.1) e, congrArg (fun z : AlL => z.2) e⟩
  keeps := fun _ _ _ ⟨K, hK, c, d⟩ k => ⟨K, PySem.W.Frag.In.keeps hK k, c, d⟩
theorem obsL_eq {n : Nat} {fa : List He.Fa} {fn : List He.DefD} {ex : PySem.W.Frag → Bool} {g : Addr → Option Obj} {s : Shared} (h : ∀ a, g a = s.heap.get? a) : obsL n fa fn ex g = (hookL n fa fn ex).obs s := by
  have e : g = s.heap.get? := funext h
  rw [e] <;> rfl
theorem relStr_ok {K : PySem.W.Frag} : ∀ {xs : List D} {us : List Value}, relStr xs us = true → ∃ vs, Vals vs us ∧ ∀ L H, RelDs K L H xs vs
  | [], [], _ => ⟨[], .nil, fun _ _ => RelDs.nil⟩
  | [], _ :: _, h => by cases h
  | x :: r, [], h => by cases x <;> cases h
  | x :: r, u :: q, h => by
    unfold relStr at h
    split at h
    · rename_i e _; cases e
    · rename_i s r' z t q' e1 e2
      cases e1; cases e2
      obtain ⟨h1, h2⟩ := ba h
      have := of_decide_eq_true h1
      subst this
      obtain ⟨vs, v1, v2⟩ := relStr_ok (K := K) h2
      exact ⟨.str s :: vs, .cons ⟨t, rfl⟩ v1, fun L H => RelDs.cons (by simp [RelD]) (v2 L H)⟩
    · cases h
theorem tupB_ok {K : PySem.W.Frag} {a : Addr} {xs : List D} (h : tupB K a xs = true) (L : List Addr) (H : Hp) : RelD K L H (.frt xs) (.ref a) := by
  unfold tupB at h
  split at h
  · rename_i c od its n osl e
    obtain ⟨h1, h2⟩ := ba h
    obtain ⟨h2, h3⟩ := ba h2
    have := of_decide_eq_true h1
    subst this
    obtain ⟨vs, v1, v2⟩ := relStr_ok (K := K) h3
    simp only [RelD]
    exact ⟨a, vs, rfl, ⟨_, its, n, e, rfl, rfl, Nat.le_trans (of_decide_eq_true h2) (by rw [sizeLine_eq]; decide), v1⟩, v2 L H⟩
  · cases h
def hasExc (fa : List He.Fa) (x : Str) : Bool := fa.any fun a => match a with
  | .exc y => decide (y = x)
  | _ => false
def hasExm (fa : List He.Fa) (x y : Str) (b : Bool) : Bool := fa.any fun a => match a with
  | .exm z w c => decide (z = x) && decide (w = y) && (c == b)
  | _ => false
def subB (fa : List He.Fa) (p : Str × List (Str × Bool)) : Bool := hasGlo fa p.1 && hasExc fa p.1 && p.2.all fun q => hasExm fa p.1 q.1 q.2
def hasCls (fa : List He.Fa) (x : Str) : Bool := fa.any fun a => match a with
  | .cls y => decide (y = x)
  | _ => false
def hasMkr (fa : List He.Fa) (x : Str) : Bool := fa.any fun a => match a with
  | .mkr y => decide (y = x)
  | _ => false
def hasNoat (fa : List He.Fa) (x f : Str) : Bool := fa.any fun a => match a with
  | .noat y g => decide (y = x) && decide (g = f)
  | _ => false
def hasMeth (fa : List He.Fa) (x f : Str) : Bool := fa.any fun a => match a with
  | .meth y g => decide (y = x) && decide (g = f)
  | _ => false
def klB (P : Prog) (fa : List He.Fa) (q : Str × List Str × List (Str × Str)) : Bool := hasGlo fa q.1 && hasCls fa q.1 && hasMkr fa q.1 && q.2.1.all (hasNoat fa q.1) && q.2.2.all fun r => hasMeth fa q.1 r.1 && eqAt (atOf P r.2) (q.1, some r.1)
def isxF (fa : List He.Fa) (p : Str × List (Str × Bool)) : Bool := p.2.all fun q => if q.1 = ("ValueError" : Str) then hasFree fa q.1 else hasGlo fa q.1
def sub2F (fa : List He.Fa) (fn : List He.DefD) (p : Str × List (Str × Bool)) : Bool := hasGlo fa p.1 && fn.any fun d => eqAt d.at_ (p.1, some "__init__") && initB d
def xdB (fa : List He.Fa) (fn : List He.DefD) (p : Str × Def) : Bool := hasGlo fa p.1 && fn.any fun d => eqAt d.at_ (p.1, none) && xdB1 p.2 d
def allB (P : Prog) (fa : List He.Fa) (fn : List He.DefD) : Bool := (P.isx.all (isxF fa) && (P.sub2.all (sub2F fa fn) && P.xdefs.all (xdB fa fn))) && (tabB P P.defs fn && P.defs.all (fun p => hasGlo fa p.1 || (atOf P p.1).2.isSome) && P.kl.all (klB P fa) && bltN.all (hasFree fa) && P.glob.all (gloB1 fa) && P.subs.all (subB fa))
section
variable {P : Prog} {fa : List He.Fa} {fn : List He.DefD} {K : PySem.W.Frag} {h : Heap} {mg : Str → Option Value}
theorem lookup_mem {α : Type} {l : List (Str × α)} {x : Str} {a : α} (e : l.lookup x = some a) : (x, a) ∈ l := PySem.mem_of_lookup e
theorem mem_facts (c : He.SaysD fa fn K) {f : He.Fa} (hf : f ∈ fa) : f.ok K = true := by
  obtain ⟨i, hi, e⟩ := List.mem_iff_getElem.mp hf
  exact c.fact i (f := f) (by rw [List.getElem?_eq_getElem hi, e])
theorem mem_defs (c : He.SaysD fa fn K) {d : He.DefD} (hd : d ∈ fn) : ∃ fd, FunD K d.name d.qual d.params d.body d.scope (d.dvs K) (d.kws K) (He.fAd K d.at_) fd := by
  obtain ⟨i, hi, e⟩ := List.mem_iff_getElem.mp hd
  exact c.def_ i (d := d) (by rw [List.getElem?_eq_getElem hi, e])
theorem glo_has (X : K.In h) (G : h.Ns mainGlobals mg) (c : He.SaysD fa fn K) {x : Str} (b : hasGlo fa x = true) : mg x = some (.ref (He.ga K x)) := by
  obtain ⟨f, hf, e⟩ := List.any_eq_true.mp b
  split at e
  · have := of_decide_eq_true e
    subst this
    exact He.glo_ok X G (mem_facts c hf)
  · cases e
theorem free_has (X : K.In h) (G : h.Ns mainGlobals mg) (c : He.SaysD fa fn K) {x : Str} (b : hasFree fa x = true) : mg x = none := by
  obtain ⟨f, hf, e⟩ := List.any_eq_true.mp b
  split at e
  · have := of_decide_eq_true e
    subst this
    exact He.free_ok X G (mem_facts c hf)
  · cases e
theorem gloB1_ok (X : K.In h) (G : h.Ns mainGlobals mg) (c : He.SaysD fa fn K) {q : Str × D} (b : gloB1 fa q = true) (b2 : ∀ xs, q.2 = .frt xs → tupB K (He.ga K q.1) xs = true) : ∃ v u, mg q.1 = some u ∧ RelV v u ∧ ∀ L H, RelD K L H q.2 v := by
  unfold gloB1 at b
  split at b
  · rename_i i e
    obtain ⟨f, hf, e1⟩ := List.any_eq_true.mp b
    split at e1
    · obtain ⟨e2, e3⟩ := ba e1
      have := of_decide_eq_true e2
      have := of_decide_eq_true e3
      subst_vars
      obtain ⟨t, ht⟩ := He.int_ok X G (mem_facts c hf)
      exact ⟨.int _, _, ht, ⟨t, rfl⟩, fun L H => by rw [e]; simp [RelD]⟩
    · cases e1
  · rename_i z e
    obtain ⟨f, hf, e1⟩ := List.any_eq_true.mp b
    split at e1
    · obtain ⟨e2, e3⟩ := ba e1
      have := of_decide_eq_true e2
      have := of_decide_eq_true e3
      subst_vars
      obtain ⟨t, ht⟩ := He.str_ok X G (mem_facts c hf)
      exact ⟨.str _, _, ht, ⟨t, rfl⟩, fun L H => by rw [e]; simp [RelD]⟩
    · cases e1
  · rename_i xs e
    exact ⟨.ref (He.ga K q.1), _, glo_has X G c b, rfl, fun L H => by rw [e]; exact tupB_ok (b2 xs e) L H⟩
  · cases b
theorem exc_has (c : He.SaysD fa fn K) {x : Str} (b : hasExc fa x = true) : (He.Fa.exc x).ok K = true := by
  obtain ⟨f, hf, e⟩ := List.any_eq_true.mp b
  split at e
  · have := of_decide_eq_true e
    subst this
    exact mem_facts c hf
  · cases e
theorem exm_has (c : He.SaysD fa fn K) {x y : Str} {z : Bool} (b : hasExm fa x y z = true) : PySem.W.exmOne K (.ref (He.ga K x)) (.ref (He.ga K y)) = some z := by
  obtain ⟨f, hf, e⟩ := List.any_eq_true.mp b
  split at e
  · obtain ⟨e, e3⟩ := ba e
    obtain ⟨e1, e2⟩ := ba e
    have := of_decide_eq_true e1
    have := of_decide_eq_true e2
    have := eq_of_beq e3
    subst_vars
    exact of_decide_eq_true (mem_facts c hf)
  · cases e
theorem nd_ok : ∀ {N : List Str}, ndB N = true → N.Nodup
  | [], _ => List.nodup_nil
  | x :: r, e => by
    unfold ndB at e
    obtain ⟨e1, e2⟩ := ba e
    refine List.nodup_cons.mpr ⟨fun hm => ?_, nd_ok e2⟩
    have : (r.any fun y => decide (y = x)) = true := List.any_eq_true.mpr ⟨x, hm, by simp⟩
    rw [this] at e1
    cases e1
theorem sc_ok {N ps : List Str} {sc : Scope} (e : scB N ps sc = true) : FnScope N ps sc := by
  unfold scB at e
  obtain ⟨e, e7⟩ := ba e
  obtain ⟨e, e6⟩ := ba e
  obtain ⟨e, e5⟩ := ba e
  obtain ⟨e, e4⟩ := ba e
  obtain ⟨e, e3⟩ := ba e
  obtain ⟨e1, e2⟩ := ba e
  refine ⟨?_, by simpa using e2, by simpa using e3, nd_ok e4, of_decide_eq_true e5, fun x hx => ?_, fun y hy z => ?_⟩
  · unfold fnKind at e1
    split at e1
    · assumption
    · cases e1
  · have := List.all_eq_true.mp e6 x hx
    unfold parB at this
    split at this
    · exact .inl (by assumption)
    · exact .inr (by assumption)
    · cases this
  · have := List.all_eq_true.mp e7 y hy
    unfold nofB at this
    rw [z] at this
    cases this
theorem eqAt_ok {a b : Str × Option Str} (h : eqAt a b = true) : a = b := by
  unfold eqAt at h
  obtain ⟨h1, h2⟩ := ba h
  obtain ⟨a1, a2⟩ := a
  obtain ⟨b1, b2⟩ := b
  have h1 := of_decide_eq_true h1
  simp only at h1 h2
  subst h1
  cases a2 <;> cases b2 <;> first | rfl | (cases h2; done) | (rw [of_decide_eq_true h2])
theorem cls_has (c : He.SaysD fa fn K) {x : Str} (b : hasCls fa x = true) : Cls K (He.ga K x) := by
  obtain ⟨f, hf, e⟩ := List.any_eq_true.mp b
  split at e
  · have := of_decide_eq_true e
    subst this
    exact He.cls_ok (mem_facts c hf)
  · cases e
theorem mkr_has (c : He.SaysD fa fn K) {x : Str} (b : hasMkr fa x = true) : Mk K (He.ga K x) (He.ma K (He.ga K x) "__init__") := by
  obtain ⟨f, hf, e⟩ := List.any_eq_true.mp b
  split at e
  · have := of_decide_eq_true e
    subst this
    exact He.mkr_ok (mem_facts c hf)
  · cases e
theorem noat_has (c : He.SaysD fa fn K) {x g : Str} (b : hasNoat fa x g = true) : NoAttr K (He.ga K x) g := by
  obtain ⟨f, hf, e⟩ := List.any_eq_true.mp b
  split at e
  · obtain ⟨e1, e2⟩ := ba e
    have := of_decide_eq_true e1
    have := of_decide_eq_true e2
    subst_vars
    exact He.noat_ok (mem_facts c hf)
  · cases e
theorem meth_has (c : He.SaysD fa fn K) {x g : Str} (b : hasMeth fa x g = true) : Meth K (He.ga K x) g (He.ma K (He.ga K x) g) := by
  obtain ⟨f, hf, e⟩ := List.any_eq_true.mp b
  split at e
  · obtain ⟨e1, e2⟩ := ba e
    have := of_decide_eq_true e1
    have := of_decide_eq_true e2
    subst_vars
    exact He.meth_ok (mem_facts c hf)
  · cases e
theorem hasS_ok {l : List Str} {x : Str} (h : hasS l x = true) : x ∈ l := by
  obtain ⟨y, hy, e⟩ := List.any_eq_true.mp h
  rw [← of_decide_eq_true e]; exact hy
/-- a method's class -/
theorem key_ok (hk : P.kl.all (klB P fa) = true) {y m key : Str} (h : keyOf P y m = some key) : ∃ fs ms, (y, fs, ms) ∈ P.kl ∧ hasCls fa y = true ∧ hasGlo fa y = true ∧ hasMkr fa y = true ∧ hasMeth fa y m = true ∧ atOf P key = (y, some m) := by
  unfold keyOf at h
  split at h
  · rename_i fs ms e
    have hm := lookup_mem e
    have hb := List.all_eq_true.mp hk _ hm
    unfold klB at hb
    obtain ⟨hb, b5⟩ := ba hb
    obtain ⟨hb, b4⟩ := ba hb
    obtain ⟨hb, b3⟩ := ba hb
    obtain ⟨b1, b2⟩ := ba hb
    obtain ⟨c1, c2⟩ := ba (List.all_eq_true.mp b5 _ (lookup_mem h))
    exact ⟨fs, ms, hm, b2, b1, b3, c1, eqAt_ok c2⟩
  · cases h
theorem tab_ok : ∀ {ps : List (Str × Def)} {ds : List He.DefD}, tabB P ps ds = true → ∀ p ∈ ps, ∃ d ∈ ds, d.at_ = atOf P p.1 ∧ defB P p.2 d = true
  | [], _, _, p, hp => by cases hp
  | q :: ps, [], e, p, hp => by cases e
  | q :: ps, d :: ds, e, p, hp => by
    unfold tabB at e
    split at e
    · rename_i ha
      obtain ⟨e1, e2⟩ := ba e
      rcases List.mem_cons.mp hp with rfl | hp
      · exact ⟨d, List.mem_cons_self .., eqAt_ok ha, e1⟩
      · obtain ⟨d', hd, r⟩ := tab_ok e2 p hp
        exact ⟨d', List.mem_cons_of_mem _ hd, r⟩
    · obtain ⟨d', hd, r⟩ := tab_ok e p hp
      exact ⟨d', List.mem_cons_of_mem _ hd, r⟩
theorem zip_look : ∀ {ps : List Str} {us : List Value}, ps.Nodup → us.length = ps.length → ∀ n ∈ ps, ∃ u, (ps.zip us).lookup n = some u
  | [], _, _, _, n, h => by cases h
  | p :: ps, [], _, hl, n, h => by simp at hl
  | p :: ps, u :: us, nd, hl, n, h => by
    rw [List.zip_cons_cons, List.lookup_cons]
    by_cases e : n = p
    · subst e; simp
    · have e2 : (n == p) = false := by simpa using e
      rw [e2]
      refine zip_look (List.nodup_cons.mp nd).2 (by simpa using hl) n ?_
      rcases List.mem_cons.mp h with h | h
      · exact absurd h e
      · exact h
theorem fm_congr {α β : Type} {f g : α → Option β} : ∀ {l : List α}, (∀ x ∈ l, f x = g x) → l.filterMap f = l.filterMap g
  | [], _ => rfl
  | x :: l, h => by
    rw [List.filterMap_cons, List.filterMap_cons, h x (List.mem_cons_self ..), fm_congr fun y hy => h y (List.mem_cons_of_mem _ hy)]
theorem zip_all : ∀ {ps : List Str} {us : List Value}, ps.Nodup → us.length = ps.length → ps.filterMap (fun n => ((ps.zip us).lookup n).map (n, ·)) = ps.zip us
  | [], _, _, _ => by simp
  | p :: ps, [], _, hl => by simp at hl
  | p :: ps, u :: us, nd, hl => by
    have nd1 := List.nodup_cons.mp nd
    rw [List.zip_cons_cons, List.filterMap_cons]
    simp only [List.lookup_cons, beq_self_eq_true, Option.map_some]
    congr 1
    refine Eq.trans ?_ (zip_all nd1.2 (by simpa using hl))
    refine fm_congr fun n hn => ?_
    have e2 : (n == p) = false := by
      have : n ≠ p := fun e => nd1.1 (e ▸ hn)
      simpa using this
    show Option.map _ (match n == p with | true => some u | false => _) = _
    rw [e2]
theorem plain_binds {x qual : Str} {params : Arguments} {body : List Stmt} {sc : Scope} {ps : List Str} (e : plainA params ps = true) (nd : ps.Nodup) (kV doc pm : Value) (an : Option Addr) (cdv ct : Value) (us : List Value) (hl : us.length = ps.length) :
    bindArgs (PySem.W.fnOf x qual params body sc .none kV doc pm an cdv ct) ⟨us, []⟩ = pure (ps.zip us) := by
  unfold plainA at e
  obtain ⟨e, e6⟩ := ba e
  obtain ⟨e, e5⟩ := ba e
  obtain ⟨e, e4⟩ := ba e
  obtain ⟨e, e3⟩ := ba e
  obtain ⟨e1, e2⟩ := ba e
  obtain ⟨po, ar, va, ko, kd, ka, df⟩ := params
  have h5 := of_decide_eq_true e5
  have h6 := of_decide_eq_true e6
  clear e5 e6
  simp only at e1 e2 e3 e4 h5
  cases po with
  | cons _ _ => cases e1
  | nil =>
  cases va with
  | some _ => cases e2
  | none =>
  cases ko with
  | cons _ _ => cases e3
  | nil =>
  cases ka with
  | some _ => cases e4
  | none =>
  have hp : (ar.map (·.arg)).Nodup := h5 ▸ nd
  subst h5
  have e0 : seqItems? Value.none = pure none := rfl
  have hz := zip_look hp hl
  have hf := zip_all hp hl
  simp only [List.length_map] at hl
  have hm : ∀ j, ((ar.map (·.arg)).take j).filter (fun n => (((ar.map (·.arg)).zip us).lookup n).isNone) = [] := fun j => by
    rw [List.filter_eq_nil_iff]
    intro n hn
    obtain ⟨u, e⟩ := hz n (List.mem_of_mem_take hn)
    rw [e]
    simp
  rw [List.filterMap_map] at hf
  unfold bindArgs PySem.W.fnOf
  simp [e0, hl]
  rw [if_neg]
  · rw [hf]
  · simp only [List.map_nil, List.nil_append]
    rw [hm]
    simp
theorem zip_look2 : ∀ {ps : List Str} {us : List Value}, ps.Nodup → ∀ (i : Nat) (n : Str), ps[i]? = some n → (ps.zip us).lookup n = us[i]?
  | [], _, _, i, n, h => by simp at h
  | p :: ps, [], _, i, n, h => by simp
  | p :: ps, u :: us, nd, i, n, h => by
    have nd1 := List.nodup_cons.mp nd
    rw [List.zip_cons_cons, List.lookup_cons]
    cases i with
    | zero => simp at h; subst h; simp
    | succ i =>
      simp at h
      have e2 : (n == p) = false := by
        have : n ≠ p := fun e => nd1.1 (e ▸ List.mem_of_getElem? h)
        simpa using this
      rw [e2]
      simpa using zip_look2 nd1.2 i n h
theorem plain_binds1 {x qual : Str} {params : Arguments} {body : List Stmt} {sc : Scope} {ps : List Str} (e : plainA params ps = true) (nd : ps.Nodup) (T : Addr) (kV doc pm : Value) (an : Option Addr) (cdv ct : Value) (us its : List Value) (j : Nat) (hj : j ≤ 1) (hp : 1 ≤ ps.length) (h1 : its.length = 1) (hl : us.length + (1 - j) = ps.length) :
    ∃ k, bindArgs (PySem.W.fnOf x qual params body sc (.ref T) kV doc pm an cdv ct) ⟨us, []⟩ = seqItems? (.ref T) >>= k ∧ k (some its.toArray) = pure (ps.zip (us ++ its.drop j)) := by
  unfold plainA at e
  obtain ⟨e, e6⟩ := ba e
  obtain ⟨e, e5⟩ := ba e
  obtain ⟨e, e4⟩ := ba e
  obtain ⟨e, e3⟩ := ba e
  obtain ⟨e1, e2⟩ := ba e
  obtain ⟨po, ar, va, ko, kd, ka, df⟩ := params
  have h5 := of_decide_eq_true e5
  clear e5 e6
  simp only at e1 e2 e3 e4 h5
  cases po with
  | cons _ _ => cases e1
  | nil =>
  cases va with
  | some _ => cases e2
  | none =>
  cases ko with
  | cons _ _ => cases e3
  | nil =>
  cases ka with
  | some _ => cases e4
  | none =>
  obtain ⟨d, rfl⟩ : ∃ d, its = [d] := by
    cases its with
    | nil => cases h1
    | cons d r => cases r with
      | nil => exact ⟨d, rfl⟩
      | cons _ _ => simp at h1
  clear e1 e2 e3 e4 h1
  subst h5
  unfold bindArgs PySem.W.fnOf
  simp
  refine ⟨_, rfl, ?_⟩
  have hz := zip_look2 (ps := ar.map (·.arg)) (us := us) nd
  have hla : ¬ ar.length < us.length := by simp at hl; omega
  have hg : (ar.map (·.arg)).length - 1 ≤ us.length := by omega
  rw [if_neg hla]
  simp
  simp only [List.length_map] at hp hl hg
  have q1 : 1 - ar.length = 0 := by omega
  have q2 : ar.length - (1 - (1 - ar.length)) = ar.length - 1 := by omega
  have hf : List.filter (fun n => (List.lookup n ((List.map (fun x => x.arg) ar).zip us)).isNone) (List.take (ar.length - 1) (List.map (fun x => x.arg) ar)) = [] := by
    rw [List.filter_eq_nil_iff]
    intro n hn
    obtain ⟨i, hi, e⟩ := List.getElem_of_mem hn
    simp at hi
    have e3 : (List.map (fun x => x.arg) ar)[i]? = some n := by
      rw [← e, List.getElem_take]
      simp [show i < ar.length by omega]
    rw [hz i n e3]
    simp [show i < us.length by omega]
  have hfm : ∀ ws : List Value, ws.length = ar.length → ar.filterMap ((fun n => Option.map (fun x => (n, x)) (List.lookup n ((List.map (fun x => x.arg) ar).zip ws))) ∘ fun x => x.arg) = (List.map (fun x => x.arg) ar).zip ws := fun ws hw => by
    have := zip_all (ps := List.map (fun x => x.arg) ar) (us := ws) nd (by simpa using hw)
    rw [List.filterMap_map] at this
    exact this
  simp only [q1, q2, List.map_nil, List.nil_append, List.length_map, List.length_drop, List.size_toArray, List.length_cons, List.length_nil, Nat.zero_add, List.drop_zero]
  simp only [Nat.sub_zero, hf]
  simp
  obtain ⟨N0, z, hN⟩ : ∃ N0 z, List.map (fun x : Arg => x.arg) ar = N0 ++ [z] := by
    refine ⟨(List.map (fun x : Arg => x.arg) ar).dropLast, (List.map (fun x : Arg => x.arg) ar).getLast (by intro e; simp at e; subst e; simp at hp), ?_⟩
    rw [List.dropLast_concat_getLast]
  have hN0 : N0.length = ar.length - 1 := by
    have := congrArg List.length hN
    simp at this; omega
  have hzl := hz (ar.length - 1) z (by rw [hN, ← hN0]; simp)
  have hd : List.drop (ar.length - 1) (List.map (fun x : Arg => x.arg) ar) = [z] := by
    rw [hN, ← hN0]; simp
  rw [hd]
  simp only [List.zip_cons_cons, List.zip_nil_right, List.forIn_cons, List.forIn_nil, hzl]
  by_cases hj0 : j = 0
  · subst hj0
    have hlu : us.length = ar.length - 1 := by omega
    have e1 : us[ar.length - 1]? = none := by simp; omega
    simp only [e1]
    have e2 : (List.map (fun x : Arg => x.arg) ar).zip us ++ [(z, d)] = (List.map (fun x : Arg => x.arg) ar).zip (us ++ [d]) := by
      rw [hN, List.zip_append (by omega)]
      have : (N0 ++ [z]).zip us = N0.zip us := by
        have h2 := List.zip_append (l₁ := N0) (l₂ := us) (r₁ := [z]) (r₂ := ([] : List Value)) (by omega)
        rw [List.append_nil] at h2
        rw [h2]; simp
      rw [this]; rfl
    simp [e2, hfm (us ++ [d]) (by simp; omega)]
  · have hj1 : j = 1 := by omega
    subst hj1
    have hlu : us.length = ar.length := by omega
    have e1 : us[ar.length - 1]? = some us[ar.length - 1] := by simp
    simp only [e1]
    simp [hfm us hlu]
theorem dvB_ok {K : PySem.W.Frag} {x : D} {y : He.Dv} (h : dvB x y = true) (L : List Addr) (H : Hp) : RelD K L H x (y.v K) := by
  unfold dvB at h
  split at h
  · have := of_decide_eq_true h; subst this; simp [RelD, He.Dv.v]
  · have := eq_of_beq h; subst this; simp [RelD, He.Dv.v]
  · simp [RelD, He.Dv.v]
  · have := of_decide_eq_true h; subst this; simp [RelD, He.Dv.v]
  · cases h
/-- what stands for the left out arguments -/
theorem binds_of {K : PySem.W.Frag} {m : Def} {d : He.DefD} {f : Addr} {fd : FuncData} (F : FunD K d.name d.qual d.params d.body d.scope (d.dvs K) (d.kws K) f fd) (hd : dflM m d = true) (hp : plainA d.params m.ps = true) (nd : m.ps.Nodup) (n : Nat) (hn : okN m n = true) :
    ∃ (ds : List Value) (dvs : List V), Binds K fd m.ps ds ∧ Vals dvs ds ∧ ∀ L H, RelDs K L H (m.dfl.drop (m.dfl.length - (m.ps.length - n))) dvs := by
  obtain ⟨n1, n2⟩ := ba hn
  have n1 := of_decide_eq_true n1
  have n2 := of_decide_eq_true n2
  unfold dflM at hd
  split at hd
  · rename_i e1 e2
    rw [e1] at n2
    have e3 : d.dvs K = [] := by unfold He.DefD.dvs; rw [e2]; rfl
    rw [e3] at F
    refine ⟨[], [], FunD.bindsN F fun kV doc pm an cdv ct us hl => plain_binds hp nd kV doc pm an cdv ct us hl, .nil, fun L H => ?_⟩
    rw [e1, List.drop_nil]
    exact RelDs.nil
  · rename_i x y e1 e2
    obtain ⟨hd1, hd2⟩ := ba hd
    have hd2 := of_decide_eq_true hd2
    rw [e1] at n2
    simp at n2
    have e3 : d.dvs K = [y.v K] := by unfold He.DefD.dvs; rw [e2]; rfl
    rw [e3] at F
    have key : ∀ j, j ≤ 1 → n + (1 - j) = m.ps.length → ∃ ds, Vals ([y.v K].drop j) ds ∧ Binds K fd m.ps ds := fun j hj hnj => by
      refine FunD.binds1 F n j (by simp) (by simpa using hnj) fun T kV doc pm an cdv ct us its hl1 hl2 => ?_
      exact plain_binds1 hp nd T kV doc pm an cdv ct us its j hj hd2 (by simpa using hl2) (by rw [hl1]; exact hnj)
    rw [e1]
    by_cases hE : n = m.ps.length
    · obtain ⟨ds, v, b⟩ := key 1 (Nat.le_refl _) (by omega)
      refine ⟨ds, _, b, v, fun L H => ?_⟩
      have : [x].length - (m.ps.length - n) = 1 := by simp; omega
      rw [this]
      exact RelDs.nil
    · obtain ⟨ds, v, b⟩ := key 0 (by decide) (by omega)
      refine ⟨ds, _, b, v, fun L H => ?_⟩
      have : [x].length - (m.ps.length - n) = 0 := by simp; omega
      rw [this]
      exact RelDs.cons (dvB_ok hd1 L H) RelDs.nil
  · cases hd
theorem padD_len {m : Def} {xs : List D} (h : okN m xs.length = true) : (padD m xs).length = m.ps.length := by
  obtain ⟨n1, n2⟩ := ba h
  have n1 := of_decide_eq_true n1
  have n2 := of_decide_eq_true n2
  unfold padD
  simp
  omega
theorem callN_pad {P : Prog} {fuel k : Nat} {g : Str} {m : Def} {xs : List D} {S : Store} (e : P.defs.lookup g = some m) (h : okN m xs.length = true) : callN P fuel k g xs S = callN P fuel k g (padD m xs) S := by
  cases k with
  | zero => rfl
  | succ k =>
    have h1 := padD_len h
    have h2 : padD m (padD m xs) = padD m xs := by
      generalize padD m xs = ys at *
      unfold padD
      rw [h1]; simp
    unfold callN
    rw [e]
    simp only [h2]
/-- what a def of the table promises at level k -/
def spF (CA : Str → Addr) (K : PySem.W.Frag) (P : Prog) (fuel k : Nat) (f : Str) (n : Nat) : Sp := fun vs H Q E => vs.length = n ∧ ∃ S L ds, Good K CA S L H ∧ RelDs K L H ds vs ∧
  Aft K CA (fun c d _ H' => E c d H') [] L H (callN P fuel k f ds S) fun d _ L' H' => ∀ v, RelD K L' H' d v → Q v H'
theorem envR_start {N : List Str} {ds : List D} {vs : List V} {L : List Addr} {H : Hp} (r : RelDs K L H ds vs) : EnvR K none L H (ds.map some ++ List.replicate (N.length - ds.length) none) (L2.start N vs) := by
  have hl := r.length
  unfold L2.start
  refine ⟨by simp [hl], fun i d hi => ?_, fun j a o h => by cases h⟩
  by_cases h : i < ds.length
  · rw [List.getElem?_append_left (by simpa using h), List.getElem?_map] at hi
    cases e : ds[i]? with
    | none => rw [e] at hi; cases hi
    | some d' =>
      rw [e] at hi
      cases hi
      obtain ⟨v, e1, r1⟩ := r.get e
      exact ⟨v, by rw [List.getElem?_append_left (by rw [List.length_map, hl]; exact h), List.getElem?_map, e1]; rfl, r1⟩
  · rw [List.getElem?_append_right (by simpa using h)] at hi
    rw [List.getElem?_replicate] at hi
    split at hi <;> cases hi
theorem sub2_exm {p : Str × List (Str × Bool)} (h : sub2B K p = true) : ∀ y b, (y, b) ∈ p.2 → PySem.W.exmOne K (.ref (He.ga K p.1)) (.ref (He.ga K y)) = some b := by
  intro y b hm
  obtain ⟨_, h⟩ := ba h
  obtain ⟨_, h⟩ := ba h
  obtain ⟨_, h⟩ := ba h
  obtain ⟨_, h⟩ := ba h
  obtain ⟨_, h⟩ := ba h
  obtain ⟨_, h⟩ := ba h
  obtain ⟨_, h⟩ := ba h
  obtain ⟨_, h⟩ := ba h
  exact of_decide_eq_true (List.all_eq_true.mp h (y, b) hm)
theorem xi_ok {Xc : Cx} (X : K.In h) (G : h.Ns mainGlobals mg) (c : He.SaysD fa fn K) (bx : P.isx.all (isxF fa) = true) (hXi : P.isx.all (isxB K) = true) {x y : Str} {b : Bool} (hx : ((P.isx.lookup x).bind fun l => l.lookup y) = some b) (hK : Xc.K = K := by rfl) (hm : Xc.mg = mg := by rfl) :
    ExcC Xc.K (He.ga K x) ∧ ∃ cv, ClsV Xc (He.ga K) y cv ∧ PySem.W.kitOne Xc.K (.ref (He.ga K x)) cv = some b := by
  subst hK hm
  cases e2 : P.isx.lookup x with
  | none => rw [e2] at hx; cases hx
  | some l =>
    rw [e2] at hx
    have hl := lookup_mem (show l.lookup y = some b from hx)
    have e4 := List.all_eq_true.mp hXi (x, l) (lookup_mem e2)
    have e5 := List.all_eq_true.mp (List.all_eq_true.mp bx (x, l) (lookup_mem e2)) (y, b) hl
    obtain ⟨f1, e4⟩ := ba e4
    obtain ⟨f2, e4⟩ := ba e4
    obtain ⟨f3, f4⟩ := ba e4
    have f5 := List.all_eq_true.mp f4 (y, b) hl
    refine ⟨excCB_ok f1, ?_⟩
    unfold clsB at f5
    by_cases hy : y = ("ValueError" : Str)
    · simp only [hy, if_true] at f5 e5
      exact ⟨_, .inr ⟨by rw [hy]; exact free_has X G c e5, hy, rfl⟩, of_decide_eq_true f5⟩
    · simp only [if_neg hy] at f5 e5
      exact ⟨_, .inl ⟨glo_has X G c e5, rfl⟩, of_decide_eq_true f5⟩
theorem visS_ok {sc : Scope} {x : Str} (h : visS sc x = true) : Vis sc x := by
  unfold visS at h
  split at h
  · exact .inl (by assumption)
  · exact .inr (.inl (by assumption))
  · exact .inr (.inr (by assumption))
  · cases h
theorem xo_ok {Xc : Cx} (X : K.In h) (G : h.Ns mainGlobals mg) (c : He.SaysD fa fn K) {p : Str × List (Str × Bool)} (b1 : sub2F fa fn p = true) (b2 : sub2B K p = true) (hKb : K.In Xc.base) (hGb : Xc.base.Ns mainGlobals mg) (hr : Room 2 Xc.A) (hK : Xc.K = K := by rfl) (hm : Xc.mg = mg := by rfl) : XoOk Xc (He.ga K) p.1 := by
  subst hK hm
  obtain ⟨g1, g2⟩ := ba b1
  obtain ⟨d, hd, g3⟩ := List.any_eq_true.mp g2
  obtain ⟨g4, g5⟩ := ba g3
  have hat := eqAt_ok g4
  obtain ⟨f1, b2⟩ := ba b2
  obtain ⟨f2, b2⟩ := ba b2
  obtain ⟨f3, b2⟩ := ba b2
  obtain ⟨f4, b2⟩ := ba b2
  obtain ⟨f5, b2⟩ := ba b2
  obtain ⟨f6, b2⟩ := ba b2
  obtain ⟨f7, b2⟩ := ba b2
  obtain ⟨f8, f9⟩ := ba b2
  have T : OexC Xc.K (He.ga Xc.K p.1) := ⟨oexB_ok f1, of_decide_eq_true f2, of_decide_eq_true f3, of_decide_eq_true f4, f5⟩
  unfold initB at g5
  obtain ⟨g5, g6⟩ := ba g5
  obtain ⟨g7, g8⟩ := ba g5
  split at g6
  · rename_i a b hab
    obtain ⟨g6, g9⟩ := ba g6
    obtain ⟨g10, g11⟩ := ba g6
    obtain ⟨fd, F⟩ := mem_defs c hd
    rw [hat] at F
    have e1 : d.dvs Xc.K = [] := by unfold He.DefD.dvs; rw [List.isEmpty_iff.mp g7]; rfl
    rw [e1] at F
    have sc := sc_ok g11
    have ndP : [a, b].Nodup := sc.nd
    obtain ⟨ds, dvs, hb1, hv1, hr1⟩ := (⟨[], [], FunD.bindsN F fun kV doc pm an cdv ct us hl => plain_binds g10 ndP kV doc pm an cdv ct us hl, .nil, trivial⟩ : ∃ (ds : List Value) (dvs : List V), Binds Xc.K fd [a, b] [] ∧ Vals dvs ds ∧ True)
    refine ⟨He.fAd Xc.K (p.1, some "__init__"), 1, fd, [a, b], fun vs H Q E => ∃ (q : Addr) (v : V), vs = [.ref q, v] ∧ H q = some (exo q (He.ga Xc.K p.1) none) ∧ ∀ dx H', H dx = none → dx ≠ q → H' = upd (upd H dx (exd dx [("at", v)])) q (exo q (He.ga Xc.K p.1) (some dx)) → Q .non H', T, of_decide_eq_true f6, of_decide_eq_true f7, ?_, hr, hb1, glo_has X G c g1, fun q v H Q E h1 h2 => ⟨q, v, rfl, h1, h2⟩⟩
    refine FunD.ok (k := 0) F sc (fun vs H Q E ⟨q, v, e, _⟩ => by rw [e]; rfl) fun cdv A outer s H vs Q E hr2 ⟨q, v, e, h1, h2⟩ => ?_
    subst e
    unfold initS at g9
    split at g9
    · rename_i x p1 f p2 y p3 p4 hbd
      obtain ⟨g9, i7⟩ := ba g9
      obtain ⟨g9, i6⟩ := ba g9
      obtain ⟨g9, i5⟩ := ba g9
      obtain ⟨g9, i4⟩ := ba g9
      obtain ⟨g9, i3⟩ := ba g9
      obtain ⟨i1, i2⟩ := ba g9
      have i1 := of_decide_eq_true i1
      have i2 := of_decide_eq_true i2
      have i3 := of_decide_eq_true i3
      subst i1 i2 i3
      rw [hbd]
      obtain ⟨j1, j2⟩ := nm_of i6
      obtain ⟨j3, j4⟩ := nm_of i7
      refine ⟨_, pss_cons (ps_ost (pe_var (i := 0) rfl (visS_ok i4) j1 j2) (pe_var (i := 1) rfl (visS_ok i5) j3 j4)) pss_nil, ?_⟩
      exact ⟨v, rfl, .ref q, rfl, q, _, rfl, T, of_decide_eq_true f8, .inl ⟨h1, fun dx n ne => h2 dx _ n ne rfl⟩⟩
    · cases g9
  · cases g6
theorem xf_ok (hXi : P.isx.all (isxB K) = true) {x y : Str} {b : Bool} (hx : ((P.isx.lookup x).bind fun l => l.lookup y) = some b) : XfC K (He.ga K x) ∧ PySem.W.findIn K (.ref (He.ga K x)) "at" = some none := by
  cases e2 : P.isx.lookup x with
  | none => rw [e2] at hx; cases hx
  | some l =>
    have e4 := List.all_eq_true.mp hXi (x, l) (lookup_mem e2)
    obtain ⟨f1, e4⟩ := ba e4
    obtain ⟨f2, e4⟩ := ba e4
    obtain ⟨f3, f4⟩ := ba e4
    exact ⟨xfB_ok f2, of_decide_eq_true f3⟩
theorem xcl_ok {Xc : Cx} {fuel : Nat} {cl : Str → List D → Store → R D} (X : K.In h) (G : h.Ns mainGlobals mg) (c : He.SaysD fa fn K) (bx : P.isx.all (isxF fa) = true) (hXi : P.isx.all (isxB K) = true) (b3 : bltN.all (hasFree fa) = true) {f : Str} {m : Def} (b : xdB fa fn (f, m) = true) (e : P.xdefs.lookup f = some m) (hr : Room 1 Xc.A) (hK : Xc.K = K := by rfl) (hm : Xc.mg = mg := by rfl) : XclOk Xc (He.ga K) (P.cx fuel cl) f := by
  subst hK hm
  obtain ⟨g1, g2⟩ := ba b
  obtain ⟨d, hd, g3⟩ := List.any_eq_true.mp g2
  obtain ⟨g4, g5⟩ := ba g3
  have hat := eqAt_ok g4
  unfold xdB1 at g5
  obtain ⟨g5, g11⟩ := ba g5
  obtain ⟨g5, g10⟩ := ba g5
  obtain ⟨g5, g9⟩ := ba g5
  obtain ⟨g5, g8⟩ := ba g5
  obtain ⟨g6, g7⟩ := ba g5
  have g6 : m.ps.length = 1 := of_decide_eq_true g6
  obtain ⟨fd, F⟩ := mem_defs c hd
  rw [hat] at F
  have e1 : d.dvs Xc.K = [] := by unfold He.DefD.dvs; rw [List.isEmpty_iff.mp g7]; rfl
  rw [e1] at F
  have sc : FnScope m.ns m.ps d.scope := sc_ok g10
  have ndP : m.ps.Nodup := by rw [← sc.pre]; exact sc.nd.sublist (List.take_sublist _ _)
  have hb := FunD.bindsN F fun kV doc pm an cdv ct us hl => plain_binds g9 ndP kV doc pm an cdv ct us hl
  have hkp := F.kp
  have hns : 1 ≤ m.ns.length := by
    have := congrArg List.length sc.pre
    rw [List.length_take] at this
    omega
  obtain ⟨oc, od, dV, kV, doc, pm, an, cdv, ct, osl, rfl, lk, hcd, _, _⟩ := F.ex
  refine ⟨He.ga Xc.K f, _, m.ps, 1, fun p vs H Q E => ∃ (c : Exc) (o : Option (Addr × D)) (S : Store) (L : List Addr) (W : WX) (σ : Sl), vs = [.ref p.1] ∧ Zc (.ref (He.ga Xc.K c.cls)) (o.map (·.1)) p.2 ∧ c.at_ = o.map (·.2) ∧ Good Xc.K (He.ga Xc.K) S L H ∧ (∀ x d, o = some (x, d) → ∃ v, H x = some (.xd [("at", v)]) ∧ RelD Xc.K L H d v) ∧ Aft Xc.K (He.ga Xc.K) W σ L H (P.clx f c S) (fun d _ L' H' => ∀ v, RelD Xc.K L' H' d v → Q v H'),
    fn_ofE (k := 0) lk hcd sc (fun p vs H Q E z => ?_) (fun A outer s H vs Q E p hf hr2 z => ?_), L2H.roomH_of hr, glo_has X G c g1, hkp, hb, fun a oe c' o S L H Q E σ W z1 z2 z3 z4 z5 => ⟨c', o, S, L, W, σ, rfl, z1, z2, z3, z4, z5⟩⟩
  · obtain ⟨_, _, _, _, _, _, rfl, _⟩ := z
    exact g6.symm
  · obtain ⟨cx, o, S, L, W, σ, rfl, hz, hat2, g, ho, q⟩ := z
    let X0 := cxOf (L2.CX Xc.prog Xc.w) Xc.prog Xc.w Xc.K Xc.mg Xc.base m.ns d.qual d.scope (He.fAd Xc.K (f, none)) cdv A outer s H E
    let W1 : WX := fun c d _ H' => E c d H'
    have tk : Takes X0 W1 := takes_of rfl rfl rfl rfl
    have ok0 : Ok X0 (He.ga Xc.K) ⟨{ P.xc cx with exc := none }, none⟩ W1 (mcX m d.scope) := by
      refine ⟨fun _ => rfl, rfl, sc.nd, rfl, sc.kind, tk, ?_, fun _ => passes_of rfl, fun x hx => free_has X G c (List.all_eq_true.mp b3 x hx), fun _ _ => rfl, fun x dd hx => ?_, fun g n hg => ?_, fun y f hy => ?_, fun y m' key n hy => ?_, fun y key n hy => ?_, fun x hx => ?_, fun x y b hx => ?_, fun _ => rfl, fun _ => rfl, fun x hx => ?_, fun x y b hx => ?_, fun x y b hx => ?_, fun _ => rfl, fun _ _ => rfl, fun _ _ => rfl, rfl, fun f' hf' => ?_, fun i a o h => by cases h⟩
      · exact Nat.lt_of_le_of_lt (Nat.add_le_add (Nat.le_add_right _ _) (by decide)) hr2.un
      · cases hx
      · cases hg
      · cases hy
      · cases hy
      · cases hy
      · cases hx
      · cases hx
      · cases hx
      · exact xi_ok X G c bx hXi hx
      · exact xf_ok hXi hx
      · cases hf'
    have oks := ok0.suite 0 p.1 p.2 [] cx o hz hf hat2
    refine ⟨_, sB m.body oks g11, S, L, List.replicate m.ns.length none, g, ⟨?_, fun i d hi => ?_, fun j a o' hj => ?_⟩, ?_⟩
    · simp [L2.start]; omega
    · rw [List.getElem?_replicate] at hi
      split at hi <;> cases hi
    · cases hj
      refine ⟨rfl, ?_, ho⟩
      rw [List.getElem?_replicate, if_pos (by omega)]
    · unfold Prog.clx at q
      rw [e] at q
      simp only at q
      revert q
      show Aft Xc.K (He.ga Xc.K) _ _ L H (endX (exB (P.xc cx) m.body _ S)) _ → AftS Xc.K (He.ga Xc.K) _ W0 L H (exB (P.xc cx) m.body _ S) _
      cases exB (P.xc cx) m.body (List.replicate m.ns.length none) S with
      | nx e2 S2 => exact fun q σ' L' H' st g' er => q L' H' st g' .non (by simp [RelD])
      | ret d2 S2 => exact fun q v L' H' st g' rv => q L' H' st g' v rv
      | brk e2 S2 => exact fun q => q.elim
      | exc c2 e2 S2 => exact fun q => q.elim
      | bad => exact fun q => q.elim
/-- all defs of the table keep their promises -/
theorem defs_ok {Pr : Program} {w : World} {fuel : Nat} (hB : allB P fa fn = true) (hX : exP P K = true) (X : K.In h) (G : h.Ns mainGlobals mg) (c : He.SaysD fa fn K) :
    ∀ (k : Nat) (f : Str) (m : Def), P.defs.lookup f = some m → ∃ fd : FuncData, (m.dfl = [] → ∀ (s : Shared) (us : List Value), us.length = m.ps.length → BindsTo s fd ⟨us, []⟩ (m.ps.zip us)) ∧ (∀ n, okN m n = true → ∃ (ds : List Value) (dvs : List V), Binds K fd m.ps ds ∧ Vals dvs ds ∧ ∀ L H, RelDs K L H (m.dfl.drop (m.dfl.length - (m.ps.length - n))) dvs) ∧ PySem.W.keepIn K (.ref (He.fAd K (atOf P f))) = true ∧ (hasGlo fa f = true → mg f = some (.ref (He.ga K f))) ∧
      ∀ base : Heap, K.In base → base.Ns mainGlobals mg → FnOk Pr w K mg base (L2.CX Pr w) (2 * k + 1) (He.fAd K (atOf P f)) fd m.ps (spF (He.ga K) K P fuel k f m.ps.length) := by
  unfold allB at hB
  obtain ⟨hB0, hB⟩ := ba hB
  obtain ⟨bx, by2⟩ := ba hB0
  obtain ⟨by2, by3⟩ := ba by2
  unfold exP at hX
  obtain ⟨hX, hX2⟩ := ba hX
  obtain ⟨hXi, hXs⟩ := ba hX2
  obtain ⟨hB, b5⟩ := ba hB
  obtain ⟨hB, b4⟩ := ba hB
  obtain ⟨hB, b3⟩ := ba hB
  obtain ⟨hB, b6⟩ := ba hB
  obtain ⟨b1, b2⟩ := ba hB
  intro k
  induction k with
  | zero =>
    intro f m e
    obtain ⟨d, hd, ha, hb⟩ := tab_ok b1 (f, m) (lookup_mem e)
    unfold defB at hb
    obtain ⟨hb, c5⟩ := ba hb
    obtain ⟨hb, c4⟩ := ba hb
    obtain ⟨hb, c3⟩ := ba hb
    obtain ⟨c1, c2⟩ := ba hb
    obtain ⟨fd, F⟩ := mem_defs c hd
    rw [ha] at F
    have sc := sc_ok c4
    have ndP : m.ps.Nodup := by rw [← sc.pre]; exact sc.nd.sublist (List.take_sublist _ _)
    refine ⟨fd, fun hm0 => by
      have e1 : d.dvs K = [] := by
        unfold dflM at c1
        rw [hm0] at c1
        split at c1
        · rename_i e2; unfold He.DefD.dvs; rw [e2]; rfl
        · rename_i e2 _; cases e2
        · cases c1
      rw [e1] at F
      exact FunD.bindsA F fun kV doc pm an cdv ct us hl => plain_binds c3 ndP kV doc pm an cdv ct us hl, binds_of F c1 c3 ndP, F.kp, fun hg => glo_has X G c hg, fun base _ _ => ?_⟩
    refine ⟨fun vs H Q E q => q.1, fun A outer s H args us vs Q E hr he hb' hv q => ?_⟩
    obtain ⟨_, S, L, ds, _, _, q⟩ := q
    exact q.elim
  | succ k ih =>
    intro f m e
    obtain ⟨d, hd, ha, hb⟩ := tab_ok b1 (f, m) (lookup_mem e)
    unfold defB at hb
    obtain ⟨hb, c5⟩ := ba hb
    obtain ⟨hb, c4⟩ := ba hb
    obtain ⟨hb, c3⟩ := ba hb
    obtain ⟨c1, c2⟩ := ba hb
    obtain ⟨fd, F⟩ := mem_defs c hd
    rw [ha] at F
    have sc := sc_ok c4
    have ndP : m.ps.Nodup := by rw [← sc.pre]; exact sc.nd.sublist (List.take_sublist _ _)
    refine ⟨fd, fun hm0 => by
      have e1 : d.dvs K = [] := by
        unfold dflM at c1
        rw [hm0] at c1
        split at c1
        · rename_i e2; unfold He.DefD.dvs; rw [e2]; rfl
        · rename_i e2 _; cases e2
        · cases c1
      rw [e1] at F
      exact FunD.bindsA F fun kV doc pm an cdv ct us hl => plain_binds c3 ndP kV doc pm an cdv ct us hl, binds_of F c1 c3 ndP, F.kp, fun hg => glo_has X G c hg, fun base hKb hGb => ?_⟩
    refine FunD.ok (k := 2 * k + 2) F sc (fun vs H Q E q => q.1) fun cdv A outer s H vs Q E hr q => ?_
    obtain ⟨hl, S, L, ds, g, r, q⟩ := q
    let Xc := cxOf (L2.CX Pr w) Pr w K mg base m.ns d.qual d.scope (He.fAd K (atOf P f)) cdv A outer s H E
    let W : WX := fun c d _ H' => E c d H'
    have tk : Takes Xc W := takes_of rfl rfl rfl rfl
    -- a promise, as the rules want it
    have prom : ∀ (g : Str) (n : Nat) (xs : List D) (vs : List V) (S : Store) (L : List Addr) (H : Hp) (σ : Sl) (Q : VK) (E : XK), Good K (He.ga K) S L H → RelDs K L H xs vs → xs.length = n →
        Aft K (He.ga K) (fun c d _ H' => E c d H') σ L H ((P.cx fuel (callN P fuel k)).cl g xs S) (fun d _ L' H' => ∀ v, RelD K L' H' d v → Q v H') → spF (He.ga K) K P fuel k g n vs H Q E := fun g n xs vs S L H σ Q E g' r' hn' q' => by
      refine ⟨by rw [r'.length]; omega, S, L, xs, g', r', ?_⟩
      revert q'
      show Aft K (He.ga K) _ σ L H (callN P fuel k g xs S) _ → Aft K (He.ga K) _ [] L H (callN P fuel k g xs S) _
      cases callN P fuel k g xs S with
      | ok a S' => exact fun q' => q'
      | exc c S' => exact fun q' => q'
      | bad => exact fun q' => q'
    have ok : Ok Xc (He.ga K) ⟨P.cx fuel (callN P fuel k), none⟩ W ⟨m.ns, d.scope, true, fsOf P, xsOf P, flOf P, msOf P, mksOf P, xoOf P, none, xqOf P⟩ := by
      refine ⟨fun _ => rfl, rfl, sc.nd, rfl, sc.kind, tk, ?_, fun _ => passes_of rfl, fun x hx => free_has X G c (List.all_eq_true.mp b3 x hx), fun _ _ => rfl, fun x dd hx => ?_, fun g n hg => ?_, fun y f hy => ?_, fun y m' key n hy => ?_, fun y key n hy => ?_, fun x hx => ?_, fun x y b hx => ?_, fun _ => rfl, fun _ => rfl, fun x hx => ?_, fun x y b hx => ?_, fun x y b hx => ?_, fun _ => rfl, fun _ _ => rfl, fun _ _ => rfl, rfl, fun f' hf' => ?_, fun i a o h => by cases h⟩
      · exact Nat.lt_of_le_of_lt (Nat.add_le_add (Nat.le_add_right _ _) (by decide)) hr.un
      · refine gloB1_ok X G c (List.all_eq_true.mp b4 (x, dd) (lookup_mem hx)) fun xs e => ?_
        have := List.all_eq_true.mp (show (P.glob.all fun q => match q.2 with
          | .frt xs => tupB K (He.ga K q.1) xs
          | _ => true) = true from hX) (x, dd) (lookup_mem hx)
        simp only at e
        subst e
        exact this
      · have hg : fsOf P g n = true := hg
        unfold fsOf at hg
        obtain ⟨hg0, hg⟩ := ba hg
        split at hg
        · rename_i m' e'
          obtain ⟨fd', hA, hBn, hkp, hmg, hF⟩ := ih g m' e'
          obtain ⟨dsv, dvs, hb1, hv1, hr1⟩ := hBn n hg
          have hat : atOf P g = (g, none) := eqAt_ok hg0
          rw [hat] at hF hkp
          have hgl : hasGlo fa g = true := by
            have := List.all_eq_true.mp b2 (g, m') (lookup_mem e')
            rw [hat] at this
            simpa using this
          exact ⟨He.ga K g, fd', m'.ps, dsv, dvs, 2 * k + 1, _, hF base hKb hGb, hr.mono (Nat.le_succ _), hmg hgl, hkp, hb1, hv1, fun vs xs S L H σ Q E' g' r' hn' q' => by
            have hok : okN m' xs.length = true := by rw [hn']; exact hg
            refine prom g m'.ps.length (padD m' xs) (vs ++ dvs) S L H σ Q E' g' ?_ (padD_len hok) ?_
            · unfold padD
              rw [hn']
              exact RelDs.append r' (hr1 L H)
            · show Aft K (He.ga K) _ _ L H (callN P fuel k g (padD m' xs) S) _
              rw [← show callN P fuel k g xs S = callN P fuel k g (padD m' xs) S from callN_pad e' hok]
              exact q'⟩
        · cases hg
      · have hy : flOf P y f = true := hy
        unfold flOf at hy
        split at hy
        · rename_i fs ms e'
          have hb := List.all_eq_true.mp b6 _ (lookup_mem e')
          unfold klB at hb
          obtain ⟨hb, d5⟩ := ba hb
          obtain ⟨hb, d4⟩ := ba hb
          obtain ⟨hb, d3⟩ := ba hb
          obtain ⟨d1, d2⟩ := ba hb
          exact ⟨cls_has c d2, noat_has c (List.all_eq_true.mp d4 f (hasS_ok hy))⟩
        · cases hy
      · have hy : msOf P y m' key n = true := hy
        unfold msOf at hy
        obtain ⟨y1, y2⟩ := ba hy
        obtain ⟨fs, ms, hm, k1, k2, k3, k4, k5⟩ := key_ok b6 (of_decide_eq_true y1)
        unfold arityN at y2
        split at y2
        · rename_i m2 e'
          obtain ⟨fd', hA, hBn, hkp, hmg, hF⟩ := ih key m2 e'
          obtain ⟨dsv, dvs, hb1, hv1, hr1⟩ := hBn (n + 1) y2
          rw [k5] at hF
          exact ⟨He.ma K (He.ga K y) m', fd', m2.ps, dsv, dvs, 2 * k + 1, _, cls_has c k1, meth_has c k4, hF base hKb hGb, hr.mono (Nat.le_succ _), hb1, hv1, fun vs xs S L H σ Q E' g' r' hn' q' => by
            have hok : okN m2 xs.length = true := by rw [hn']; exact y2
            refine prom key m2.ps.length (padD m2 xs) (vs ++ dvs) S L H σ Q E' g' ?_ (padD_len hok) ?_
            · unfold padD
              rw [hn']
              exact RelDs.append r' (hr1 L H)
            · show Aft K (He.ga K) _ _ L H (callN P fuel k key (padD m2 xs) S) _
              rw [← show callN P fuel k key xs S = callN P fuel k key (padD m2 xs) S from callN_pad e' hok]
              exact q'⟩
        · cases y2
      · have hy : mksOf P y key n = true := hy
        unfold mksOf at hy
        obtain ⟨y1, y2⟩ := ba hy
        obtain ⟨fs, ms, hm, k1, k2, k3, k4, k5⟩ := key_ok b6 (of_decide_eq_true y1)
        unfold arity at y2
        split at y2
        · rename_i m2 e'
          have hn := of_decide_eq_true y2
          obtain ⟨fd', hA, hBn, hkp, hmg, hF⟩ := ih key m2 e'
          have hok2 : okN m2 m2.ps.length = true := by unfold okN; simp
          obtain ⟨dsv, dvs, hb1, hv1, hr1⟩ := hBn _ hok2
          have ed : dvs = [] := by
            have := (hr1 [] (fun _ => none)).length
            simp at this
            exact this
          subst ed
          have ed2 : dsv = [] := by cases hv1; rfl
          subst ed2
          rw [k5] at hF
          exact ⟨He.ma K (He.ga K y) "__init__", fd', m2.ps, 2 * k + 1, _, mkr_has c k3, glo_has X G c k2, hF base hKb hGb, hr, hb1, fun vs xs S L H σ Q E' g' r' hn' q' => by rw [hn]; exact prom key (n + 1) xs vs S L H σ Q E' g' r' hn' q'⟩
        · cases y2
      · obtain ⟨p, hp, e2⟩ := List.any_eq_true.mp (show (P.subs.any fun p => decide (p.1 = x)) = true from hx)
        have e3 := of_decide_eq_true e2
        have e4 := List.all_eq_true.mp b5 p hp
        unfold subB at e4
        obtain ⟨e4, e6⟩ := ba e4
        obtain ⟨e4, e5⟩ := ba e4
        rw [e3] at e4 e5
        have q := exc_has c e5
        have q2 : (PySem.W.excIn K (He.ga K x) He.veBase "ValueError.__new__" && (PySem.W.keepIn K (.ref (He.ga K x)) && (decide (PySem.W.subIn K (.ref (He.ga K x)) (.type "BaseException") = some true) && decide (PySem.W.typeIn K (.ref (He.ga K x)) = some (.type "type"))))) = true := q
        obtain ⟨q3, q4⟩ := ba q2
        obtain ⟨q5, q6⟩ := ba q4
        obtain ⟨q7, q8⟩ := ba q6
        exact ⟨glo_has X G c e4, q3, q5, raises_own (of_decide_eq_true q7) (of_decide_eq_true q8)⟩
      · have hx : (((P.subs.lookup x).or (P.sub2.lookup x)).bind fun l => l.lookup y) = some b := hx
        cases e2 : P.subs.lookup x with
        | none =>
          rw [e2] at hx
          cases e3 : P.sub2.lookup x with
          | none => rw [e3] at hx; cases hx
          | some l =>
            rw [e3] at hx
            have e4 := List.all_eq_true.mp hXs (x, l) (lookup_mem e3)
            exact sub2_exm e4 _ _ (lookup_mem hx)
        | some l =>
          rw [e2] at hx
          have e4 := List.all_eq_true.mp b5 (x, l) (lookup_mem e2)
          unfold subB at e4
          obtain ⟨e4, e6⟩ := ba e4
          exact exm_has c (List.all_eq_true.mp e6 (y, b) (lookup_mem hx))
      · obtain ⟨p, hp, e2⟩ := List.any_eq_true.mp (show (P.sub2.any fun p => decide (p.1 = x)) = true from hx)
        have e3 := of_decide_eq_true e2
        subst e3
        exact xo_ok X G c (List.all_eq_true.mp by2 p hp) (List.all_eq_true.mp hXs p hp) hKb hGb (hr.mono (by omega))
      · exact xi_ok X G c bx hXi hx
      · have hx : ((P.isx.lookup x).bind fun l => l.lookup y) = some b := hx
        cases e2 : P.isx.lookup x with
        | none => rw [e2] at hx; cases hx
        | some l =>
          have e4 := List.all_eq_true.mp hXi (x, l) (lookup_mem e2)
          obtain ⟨f1, e4⟩ := ba e4
          obtain ⟨f2, e4⟩ := ba e4
          obtain ⟨f3, f4⟩ := ba e4
          exact ⟨xfB_ok f2, of_decide_eq_true f3⟩
      · have hf' : (P.xdefs.lookup f').isSome = true := hf'
        obtain ⟨m', e'⟩ := Option.isSome_iff_exists.mp hf'
        exact xcl_ok X G c bx hXi b3 (List.all_eq_true.mp by3 (f', m') (lookup_mem e')) e' (hr.mono (by omega))
    refine ⟨_, sB m.body ok c5, S, L, ds.map some ++ List.replicate (m.ns.length - ds.length) none, g, envR_start r, ?_⟩
    unfold callN at q
    rw [e] at q
    simp only at q
    rw [show padD m ds = ds from by unfold padD; rw [show ds.length = m.ps.length by rw [← r.length]; exact hl]; simp] at q
    rw [if_pos (by rw [← r.length]; exact hl)] at q
    revert q
    show Aft K (He.ga K) _ _ L H (endR (exB (P.cx fuel (callN P fuel k)) m.body _ S)) _ → AftS K (He.ga K) none W L H (exB (P.cx fuel (callN P fuel k)) m.body _ S) _
    cases exB (P.cx fuel (callN P fuel k)) m.body (ds.map some ++ List.replicate (m.ns.length - ds.length) none) S with
    | nx e2 S2 => exact fun q σ' L' H' st g' er => q L' H' st g' .non (by simp [RelD])
    | ret d2 S2 => exact fun q v L' H' st g' rv => q L' H' st g' v rv
    | brk e2 S2 => exact fun q => q.elim
    | exc c2 e2 S2 => exact fun q σ' cls dd L' H' st g' er x => q cls dd L' H' st g' x
    | bad => exact fun q => q.elim
theorem sqF_of {H : Hp} {a : Addr} {vs : List V} (o : Only H) (s : SqL K H a vs) : SqF K H a vs := by
  rcases s with (e | ⟨ob, e⟩) | e
  · rcases o a with z | ⟨ob, xs, z⟩
    · rw [z] at e; cases e
    · rw [z] at e; cases e
  · exact .inl ⟨ob, e⟩
  · exact .inr e
/-- a law's end -/
theorem lt_end {l : PySem.W.OpenLaw} {q : Program} {loose : List Str} {XP : (Str → Option Value) → Heap → Prop} {d : DefRec} {x : Str} {k fuel : Nat} {m : Def}
    (hn : l.most = some 63) (hdf : d.params.defaults = []) (hr : Room (2 * k + 1) callerA) (hat : atOf P ("law" : Str) = (("law" : Str), none)) (hglo : hasGlo fa ("law" : Str) = true) (hname : d.name = ("law" : Str)) (hB : allB P fa fn = true) (hlaw : P.defs.lookup ("law" : Str) = some m) (hps : m.ps = [x]) (hdf0 : m.dfl = [])
    (hsp : ∀ ns : List Int, ns.length ≤ 63 → (∀ z ∈ ns, Builtin.Int.intBits z ≤ 1048576) → ∃ S', callN P fuel k "law" [.frl (ns.map .int)] [] = .ok (.bl true) S') :
    PySem.W.WalkO q loose XP (fun _ h => ∃ K : PySem.W.Frag, K.In h ∧ He.SaysD fa fn K ∧ exP P K = true) l.row.toRowW d [] (fun f vs => PySem.call f vs) := by
  refine Att.attach_callB hn hdf fun w s₀ s₁ mg mb fo o pm cd doc a vs ns G Y ho hd hcd hmg hobj hints hlen hbits hg => ?_
  obtain ⟨K, KX, c, cX⟩ := Y
  obtain ⟨fd, hA, _, _, hm2, hF⟩ := defs_ok (Pr := l.prog) (w := w) (fuel := fuel) hB cX KX G.T.g c k "law" m hlaw
  have hA := hA hdf0
  rw [hname] at hmg
  have e := hmg.symm.trans (hm2 hglo)
  cases e
  rw [hat] at hF
  rw [hps] at hA hF
  refine law_call (CX := L2.CX l.prog w) KX G.T.g G.T.b G.T.builtins G.T.nolimit hg hobj hints (Nat.le_trans hlen (by rw [sizeLine_eq]; decide)) hr hF (fun s u => hA s [u] rfl) (fun H hO hS => ?_) ?_
  · obtain ⟨S', e'⟩ := hsp ns hlen hbits
    refine ⟨rfl, [], [], [.frl (ns.map .int)], ⟨rfl, List.nodup_nil, fun n c a h _ => by simp at h⟩, RelDs.cons ?_ RelDs.nil, ?_⟩
    · simp only [RelD]
      exact ⟨a, _, rfl, sqF_of hO hS, RelDs.ints⟩
    · rw [e']
      intro L' H' _ _ v r
      simpa [RelD] using r
  · rintro H e s' ⟨_, _, _, _, _, _, _, _, _, _, _, _, z⟩
    exact z
end
end Lt
namespace Lt
open PySem (Str)
end Lt
namespace LawT
open Lt
open PySem (Str)
def a__law_cell : Def := ⟨["_law_script", "_law_place"], ["_law_script", "_law_place", "_law_seed", "_law_cell_here"], [], [
  (.ite (.cmp .lt (.var 1) (.bi .len [(.var 0)])) [(.ret (.idx (.var 0) (.var 1)))] []),
  (.asg (.name 2) (.int 5)),
  (.forS (.name 3) (.seq (.slT (.var 0) (.int 63))) [(.asg (.name 2) (.bin .mod (.bin .add (.bin .add (.bin .mul (.var 2) (.int 48271)) (.bin .mod (.var 3) (.int 1000003))) (.int 1)) (.int 2147483647)))]),
  (.ret (.bin .mod (.bin .add (.var 2) (.bin .mul (.int 7919) (.var 1))) (.int 1000003)))]⟩
def a__law_mix : Def := ⟨["_law_cell_here", "_law_k"], ["_law_cell_here", "_law_k", "_law_one", "_law_two"], [], [
  (.asg (.name 2) (.bin .mod (.bin .pow (.bin .add (.bin .add (.bin .mod (.var 0) (.int 2147483629)) (.bin .mul (.int 1013) (.var 1))) (.int 7919)) (.int 3)) (.int 2147483647))),
  (.asg (.name 3) (.bin .mod (.bin .add (.bin .add (.bin .mul (.var 2) (.int 40699)) (.bin .mul (.bin .mul (.int 3793) (.var 1)) (.var 1))) (.int 11)) (.int 2147483399))),
  (.ret (.bin .fdiv (.var 3) (.int 101)))]⟩
def a__law_row : Def := ⟨["_law_script", "_law_place", "_law_sizes"], ["_law_script", "_law_place", "_law_sizes", "_law_cell_here", "_law_left", "_law_some", "_law_k", "_law_other"], [], [
  (.asg (.name 3) (.call "_law_cell" [(.var 0), (.var 1)])),
  (.asg (.name 4) (.var 3)),
  (.asg (.name 5) (.lst [])),
  (.forS (.name 6) (.rng (.bi .len [(.var 2)])) [(.ite (.cmp .lt (.var 3) (.bin .pow (.int 10) (.int 18))) [(.exp (.app (.var 5) (.bin .mod (.call "_law_mix" [(.var 3), (.var 6)]) (.idx (.var 2) (.var 6)))))] [(.ite (.cmp .gt (.var 4) (.int 0)) [(.exp (.app (.var 5) (.bin .mod (.var 4) (.idx (.var 2) (.var 6))))), (.asg (.name 4) (.bin .fdiv (.var 4) (.idx (.var 2) (.var 6))))] [(.asg (.name 7) (.call "_law_cell" [(.var 0), (.bin .mod (.bin .add (.bin .add (.var 1) (.int 1)) (.var 6)) (.int 63))])), (.exp (.app (.var 5) (.bin .mod (.call "_law_mix" [(.var 7), (.var 6)]) (.idx (.var 2) (.var 6)))))])])]),
  (.ret (.var 5))]⟩
end LawT
namespace LawT
open Lt
open PySem (Str)
def a__law_ratio : Def := ⟨["_law_top", "_law_bottom"], ["_law_top", "_law_bottom", "_law_one", "_law_two"], [], [
  (.par 2 3 (.bi .abs [(.var 0)]) (.var 1)),
  (.whl (.cmp .gt (.var 3) (.int 0)) [(.par 2 3 (.var 3) (.bin .mod (.var 2) (.var 3)))]),
  (.ret (.tup [(.bin .fdiv (.var 0) (.var 2)), (.bin .fdiv (.var 1) (.var 2))]))]⟩
def a__law_is_ratio : Def := ⟨["_law_one"], ["_law_one", "_law_part"], [], [
  (.ite (.or (.not (.isI (.var 0) .tuple)) (.cmp .ne (.bi .len [(.var 0)]) (.int 2))) [(.ret (.bl false))] []),
  (.forS (.name 1) (.seq (.var 0)) [(.ite (.or (.isI (.var 1) .bool) (.not (.isI (.var 1) .int))) [(.ret (.bl false))] [])]),
  (.ret (.and (.cmp .ge (.idx (.var 0) (.int 1)) (.int 1)) (.cmp .eq (.call "_law_ratio" [(.idx (.var 0) (.int 0)), (.idx (.var 0) (.int 1))]) (.var 0))))]⟩
end LawT
namespace LawT
open Lt
open PySem (Str)
def a_order : Def := ⟨["one", "other"], ["one", "other", "left", "right"], [], [
  (.asg (.name 2) (.bin .mul (.idx (.var 0) (.int 0)) (.idx (.var 1) (.int 1)))),
  (.asg (.name 3) (.bin .mul (.idx (.var 1) (.int 0)) (.idx (.var 0) (.int 1)))),
  (.ite (.cmp .lt (.var 2) (.var 3)) [(.ret (.neg (.int 1)))] []),
  (.ite (.cmp .gt (.var 2) (.var 3)) [(.ret (.int 1))] []),
  (.ret (.int 0))]⟩
def a_size : Def := ⟨["one"], ["one"], [], [
  (.ret (.tup [(.bi .abs [(.idx (.var 0) (.int 0))]), (.idx (.var 0) (.int 1))]))]⟩
end LawT
namespace LawT
open Lt
open PySem (Str)
def a_common : Def := ⟨["one", "other"], ["one", "other"], [], [
  (.par 0 1 (.bi .abs [(.var 0)]) (.bi .abs [(.var 1)])),
  (.whl (.cmp .gt (.var 1) (.int 0)) [(.par 0 1 (.var 1) (.bin .mod (.var 0) (.var 1)))]),
  (.ret (.var 0))]⟩
def a_ratio : Def := ⟨["top", "bottom"], ["top", "bottom", "part"], [], [
  (.ite (.cmp .eq (.var 1) (.int 0)) [(.rai "NoRatio")] []),
  (.asg (.name 2) (.call "common" [(.var 0), (.var 1)])),
  (.ite (.cmp .lt (.var 1) (.int 0)) [(.asg (.name 2) (.neg (.var 2)))] []),
  (.ret (.tup [(.bin .fdiv (.var 0) (.var 2)), (.bin .fdiv (.var 1) (.var 2))]))]⟩
def a_plus : Def := ⟨["one", "other"], ["one", "other"], [], [
  (.ret (.call "ratio" [(.bin .add (.bin .mul (.idx (.var 0) (.int 0)) (.idx (.var 1) (.int 1))) (.bin .mul (.idx (.var 1) (.int 0)) (.idx (.var 0) (.int 1)))), (.bin .mul (.idx (.var 0) (.int 1)) (.idx (.var 1) (.int 1)))]))]⟩
def a_minus : Def := ⟨["one", "other"], ["one", "other"], [], [
  (.ret (.call "ratio" [(.bin .sub (.bin .mul (.idx (.var 0) (.int 0)) (.idx (.var 1) (.int 1))) (.bin .mul (.idx (.var 1) (.int 0)) (.idx (.var 0) (.int 1)))), (.bin .mul (.idx (.var 0) (.int 1)) (.idx (.var 1) (.int 1)))]))]⟩
def a_times : Def := ⟨["one", "other"], ["one", "other"], [], [
  (.ret (.call "ratio" [(.bin .mul (.idx (.var 0) (.int 0)) (.idx (.var 1) (.int 0))), (.bin .mul (.idx (.var 0) (.int 1)) (.idx (.var 1) (.int 1)))]))]⟩
def a_over : Def := ⟨["one", "other"], ["one", "other"], [], [
  (.ret (.call "ratio" [(.bin .mul (.idx (.var 0) (.int 0)) (.idx (.var 1) (.int 1))), (.bin .mul (.idx (.var 0) (.int 1)) (.idx (.var 1) (.int 0)))]))]⟩
end LawT
namespace LawT
open Lt
open PySem (Str)
def a__law_less : Def := ⟨["_law_one", "_law_other"], ["_law_one", "_law_other"], [], [
  (.ret (.cmp .lt (.bin .mul (.idx (.var 0) (.int 0)) (.idx (.var 1) (.int 1))) (.bin .mul (.idx (.var 1) (.int 0)) (.idx (.var 0) (.int 1)))))]⟩
end LawT
namespace LawT
open Lt
open PySem (Str)
end LawT
namespace LawT
open Lt
open PySem (Str)
end LawT
namespace LawT
open Lt
open PySem (Str)
def a_runs : Def := ⟨["row"], ["row", "told", "now", "entry"], [], [
  (.asg (.name 1) (.lst [])),
  (.asg (.name 2) (.lst [])),
  (.forS (.name 3) (.seq (.var 0)) [(.ite (.ntN (.idx (.var 3) (.int 1))) [(.exp (.app (.var 2) (.var 3)))] [(.ite (.cmp .gt (.bi .len [(.var 2)]) (.int 0)) [(.exp (.app (.var 1) (.var 2))), (.asg (.name 2) (.lst []))] [])])]),
  (.ite (.cmp .gt (.bi .len [(.var 2)]) (.int 0)) [(.exp (.app (.var 1) (.var 2)))] []),
  (.ret (.var 1))]⟩
end LawT
namespace LawT
open Lt
open PySem (Str)
def b__law_shaped : List St := [
  (.asg (.name 3) (.idx (.lst [(.neg (.int 1)), (.neg (.int 5)), (.int 1000003), (.neg (.bin .pow (.int 10) (.int 12)))]) (.idx (.var 0) (.int 1)))),
  (.asg (.name 4) (.int 0)),
  (.asg (.name 5) (.int 0)),
  (.asg (.name 6) (.lst [])),
  (.forS (.name 7) (.rng (.idx (.var 0) (.int 0))) [(.asg (.name 8) (.bin .add (.bin .mul (.int 3) (.var 7)) (.int 13))), (.asg (.name 3) (.bin .add (.bin .add (.var 3) (.int 1)) (.bin .mul (.idx (.var 0) (.var 8)) (.idx (.lst [(.int 1), (.int 1), (.int 1009)]) (.idx (.var 0) (.int 4)))))), (.asg (.name 9) (.bin .sub (.idx (.var 0) (.bin .add (.var 8) (.int 2))) (.int 12))), (.ite (.cmp .eq (.idx (.var 0) (.int 5)) (.int 0)) [(.asg (.name 4) (.var 9))] []), (.ite (.cmp .eq (.idx (.var 0) (.int 5)) (.int 1)) [(.asg (.name 5) (.bin .sub (.bin .add (.var 5) (.bin .mod (.var 9) (.int 5))) (.int 1))), (.asg (.name 4) (.bin .add (.var 4) (.var 5)))] []), (.ite (.cmp .eq (.idx (.var 0) (.int 5)) (.int 2)) [(.asg (.name 4) (.bin .add (.var 4) (.var 9)))] []), (.ite (.cmp .eq (.idx (.var 0) (.int 5)) (.int 3)) [(.asg (.name 4) (.bin .mod (.var 9) (.int 3)))] []), (.ite (.cmp .lt (.idx (.var 0) (.bin .add (.var 8) (.int 1))) (.idx (.lst [(.int 0), (.int 1), (.int 3)]) (.idx (.var 0) (.int 12)))) [(.exp (.app (.var 6) (.tup [(.var 3), .non])))] [(.asg (.name 10) (.bin .add (.bin .mul (.idx (.var 2) (.int 0)) (.var 3)) (.idx (.var 2) (.int 1)))), (.exp (.app (.var 6) (.tup [(.var 3), (.bin .add (.bin .mul (.var 4) (.var 1)) (.var 10))])))])]),
  (.ret (.var 6))]
def b__law_times : List St := [
  (.asg (.name 2) (.lst [])),
  (.forS (.tup [3, 4]) (.seq (.var 0)) [(.ite (.isN (.var 4)) [(.exp (.app (.var 2) (.tup [(.var 3), .non])))] [(.exp (.app (.var 2) (.tup [(.var 3), (.bin .mul (.var 4) (.var 1))])))])]),
  (.ret (.var 2))]
def b__law_picked : List St := [
  (.asg (.name 2) (.lst [])),
  (.forS (.name 3) (.rng2 (.int 8) (.int 11)) [(.exp (.app (.var 2) (.bin .mod (.idx (.var 1) (.var 3)) (.bi .len [(.var 0)]))))]),
  (.asg (.name 2) (.bi .sorted [(.var 2)])),
  (.ret (.lc [4] (.name 4) (.seq (.var 2)) (.idx (.var 0) (.var 4))))]
def b__law_drawn_v2 : List St := [
  (.asg (.name 4) (.lst [(.bin .add (.var 2) (.int 1)), (.int 4), (.int 5), (.int 12), (.int 3), (.int 4), (.int 7), (.int 3), (.int 40), (.int 40), (.int 40), (.int 4), (.int 3)])),
  (.asg (.name 5) (.call "_law_row" [(.var 0), (.var 1), (.bin .add (.var 4) (.bin .mul (.lst [(.int 3), (.int 9), (.int 25)]) (.var 2)))])),
  (.asg (.name 6) (.idx (.lst [(.int 1), (.int 2), (.int 3), (.int 4), (.int 5), (.int 6), (.int 12), (.int 30), (.int 60), (.int 1001), (.int 9699690), (.bin .add (.bin .pow (.int 10) (.int 9)) (.int 7))]) (.idx (.var 5) (.int 3)))),
  (.asg (.name 7) (.idx (.lst [(.int 1), (.int 1), (.int 7), (.bin .pow (.int 10) (.int 6)), (.bin .add (.bin .pow (.int 10) (.int 12)) (.int 39))]) (.idx (.var 5) (.int 2)))),
  (.asg (.name 8) (.tup [(.int 0), (.int 0)])),
  (.ite (.cmp .gt (.var 3) (.int 0)) [(.asg (.name 11) (.bin .sub (.neg (.bin .pow (.int 10) (.int 9))) (.int 7))), (.asg (.name 8) (.idx (.lst [(.tup [(.int 0), (.int 0)]), (.tup [(.int 0), (.int 0)]), (.tup [(.int 7), (.neg (.int 3))]), (.tup [(.var 11), (.bin .pow (.int 10) (.int 12))])]) (.idx (.var 5) (.int 11))))] []),
  (.asg (.name 9) (.call "_law_shaped" [(.var 5), (.var 7), (.var 8)])),
  (.asg (.name 10) (.lcI [12] (.name 12) (.seq (.var 9)) (.ntN (.idx (.var 12) (.int 1))) (.var 12))),
  (.ite (.and (.cmp .gt (.var 3) (.int 0)) (.and (.cmp .eq (.idx (.var 5) (.int 7)) (.int 0)) (.cmp .gt (.bi .len [(.var 10)]) (.int 2)))) [(.asg (.tup [12, 13, 14]) (.call "_law_picked" [(.var 10), (.var 5)])), (.ite (.chn .lt .lt (.idx (.var 12) (.int 0)) (.idx (.var 13) (.int 0)) (.idx (.var 14) (.int 0))) [(.asg (.name 15) (.bin .sub (.idx (.var 14) (.int 0)) (.idx (.var 12) (.int 0)))), (.asg (.name 16) (.bin .sub (.bin .mul (.idx (.var 13) (.int 1)) (.var 15)) (.bin .mul (.idx (.var 12) (.int 1)) (.bin .sub (.idx (.var 14) (.int 0)) (.idx (.var 13) (.int 0)))))), (.asg (.name 16) (.bi .abs [(.bin .sub (.var 16) (.bin .mul (.idx (.var 14) (.int 1)) (.bin .sub (.idx (.var 13) (.int 0)) (.idx (.var 12) (.int 0)))))])), (.asg (.name 17) (.bin .mul (.var 3) (.var 15))), (.ret (.tup [(.call "_law_times" [(.var 9), (.var 17)]), (.bin .mul (.var 6) (.var 17)), (.var 16)]))] [])] []),
  (.ret (.tup [(.var 9), (.var 6), (.bin .mul (.idx (.var 5) (.int 6)) (.var 7))]))]
end LawT
namespace LawT
open Lt
open PySem (Str)
end LawT
namespace LawT
open Lt
open PySem (Str)
end LawT
namespace LawT
open Lt
open PySem (Str)
end LawT
namespace LawT
open Lt
open PySem (Str)
def b__law_handed : List St := [
  (.asg (.name 2) (.lst [])),
  (.forS (.tup [3, 4]) (.seq (.var 0)) [(.ite (.isN (.var 4)) [(.exp (.app (.var 2) (.tup [(.var 3), .non])))] [(.exp (.app (.var 2) (.tup [(.var 3), (.call "_law_ratio" [(.var 4), (.var 1)])])))])]),
  (.ret (.var 2))]
end LawT
namespace LawT
open Lt
open PySem (Str)
end LawT
namespace LawT
open Lt
open PySem (Str)
end LawT
namespace LawT
open Lt
open PySem (Str)
end LawT
namespace LawT
open Lt
open PySem (Str)
def b__law_runs : List St := [
  (.asg (.name 1) (.lst [(.lst [])])),
  (.forS (.name 2) (.seq (.var 0)) [(.ite (.isN (.idx (.var 2) (.int 1))) [(.exp (.app (.var 1) (.lst [])))] [(.exp (.app (.idx (.var 1) (.neg (.int 1))) (.var 2)))])]),
  (.ret (.lcI [3] (.name 3) (.seq (.var 1)) (.cmp .gt (.bi .len [(.var 3)]) (.int 0)) (.var 3)))]
end LawT
namespace LawT
open Lt
open PySem (Str)
end LawT
namespace LawT
open Lt
open PySem (Str)
end LawT
namespace LawT
open Lt
open PySem (Str)
end LawT
namespace LawT
open Lt
open PySem (Str)
def b__law_height : List St := [
  (.asg (.tup [6, 7, 8, 9]) (.var 0)),
  (.asg (.name 2) (.bin .sub (.bin .mul (.idx (.var 8) (.int 0)) (.idx (.var 6) (.int 1))) (.bin .mul (.idx (.var 6) (.int 0)) (.idx (.var 8) (.int 1))))),
  (.asg (.name 3) (.bin .mul (.bin .sub (.bin .mul (.var 1) (.idx (.var 6) (.int 1))) (.idx (.var 6) (.int 0))) (.idx (.var 8) (.int 1)))),
  (.asg (.name 4) (.bin .sub (.bin .mul (.idx (.var 9) (.int 0)) (.idx (.var 7) (.int 1))) (.bin .mul (.idx (.var 7) (.int 0)) (.idx (.var 9) (.int 1))))),
  (.asg (.name 5) (.bin .add (.bin .mul (.bin .mul (.idx (.var 7) (.int 0)) (.idx (.var 9) (.int 1))) (.var 2)) (.bin .mul (.var 4) (.var 3)))),
  (.ret (.tup [(.var 5), (.bin .mul (.bin .mul (.idx (.var 7) (.int 1)) (.idx (.var 9) (.int 1))) (.var 2))]))]
end LawT
namespace LawT
open Lt
open PySem (Str)
end LawT
namespace LawT
open Lt
open PySem (Str)
end LawT
namespace LawT
open Lt
open PySem (Str)
end LawT
namespace LawT
open Lt
open PySem (Str)
end LawT
namespace LawT
open Lt
open PySem (Str)
end LawT
namespace LawT
open Lt
open PySem (Str)
end LawT
namespace LawT
open Lt
open PySem (Str)
end LawT
namespace LawT
open Lt
open PySem (Str)
end LawT
namespace LawT
open Lt
open PySem (Str)
end LawT
namespace LawT
open Lt
open PySem (Str)
end LawT
namespace LawT
open Lt
open PySem (Str)
end LawT
namespace LawT
open Lt
open PySem (Str)
def b_place_at : List St := [
  (.forS (.tup [2, 3]) (.enm (.var 0)) [(.ite (.cmp .eq (.var 1) (.tup [(.idx (.var 3) (.int 0)), (.int 1)])) [(.ret (.var 2))] [])]),
  (.ret (.neg (.int 1)))]
def b_height_of : List St := [
  (.asg (.tup [3, 4, 5, 6]) (.var 0)),
  (.ite (.cmp .eq (.var 3) (.var 5)) [(.ret (.var 4))] []),
  (.asg (.name 2) (.call "over" [(.call "minus" [(.var 1), (.var 3)]), (.call "minus" [(.var 5), (.var 3)])])),
  (.ret (.call "plus" [(.var 4), (.call "times" [(.call "minus" [(.var 6), (.var 4)]), (.var 2)])]))]
def b_on_samples : List St := [
  (.asg (.name 2) (.lc [7, 8] (.tup [7, 8]) (.seq (.var 0)) (.tup [(.tup [(.var 7), (.int 1)]), (.var 8)]))),
  (.forS (.tup [3, 4, 5, 6]) (.seq (.var 1)) [(.ite (.or (.cmp .notin (.tup [(.var 3), (.var 4)]) (.var 2)) (.cmp .notin (.tup [(.var 5), (.var 6)]) (.var 2))) [(.ret (.bl false))] [])]),
  (.ret (.bl true))]
def b_run_miss : List St := [
  (.asg (.name 2) (.tup [(.int 0), (.int 1)])),
  (.asg (.name 3) (.int 0)),
  (.forS (.tup [4, 5]) (.seq (.var 0)) [(.asg (.name 6) (.tup [(.var 4), (.int 1)])), (.whl (.cmp .lt (.call "order" [(.idx (.idx (.var 1) (.var 3)) (.int 2)), (.var 6)]) (.int 0)) [(.asg (.name 3) (.bin .add (.var 3) (.int 1)))]), (.asg (.name 7) (.call "size" [(.call "minus" [(.var 5), (.call "height_of" [(.idx (.var 1) (.var 3)), (.var 6)])])])), (.ite (.cmp .gt (.call "order" [(.var 7), (.var 2)]) (.int 0)) [(.asg (.name 2) (.var 7))] [])]),
  (.ret (.var 2))]
end LawT
namespace LawT
open Lt
open PySem (Str)
def b_behind_apart : List St := [
  (.asg (.name 3) (.int 0)),
  (.whl (.cmp .lt (.var 3) (.bi .len [(.var 0)])) [(.ite (.cmp .ge (.var 2) (.bi .len [(.var 1)])) [(.ret .non)] []), (.asg (.tup [5, 6, 7, 8]) (.idx (.var 1) (.var 2))), (.asg (.name 4) (.call "place_at" [(.var 0), (.var 7)])), (.ite (.or (.cmp .ne (.var 5) (.tup [(.idx (.idx (.var 0) (.var 3)) (.int 0)), (.int 1)])) (.cmp .lt (.var 4) (.var 3))) [(.ret .non)] []), (.ite (.and (.cmp .eq (.var 5) (.var 7)) (.cmp .ne (.var 6) (.var 8))) [(.ret .non)] []), (.asg (.name 3) (.bin .add (.var 4) (.int 1))), (.asg (.name 2) (.bin .add (.var 2) (.int 1)))]),
  (.ret (.var 2))]
def b_behind_joined : List St := [
  (.asg (.name 3) (.tup [(.idx (.idx (.var 0) (.int 0)) (.int 0)), (.int 1)])),
  (.asg (.name 4) (.tup [(.idx (.idx (.var 0) (.neg (.int 1))) (.int 0)), (.int 1)])),
  (.asg (.name 5) .non),
  (.whl (.cmp .lt (.var 2) (.bi .len [(.var 1)])) [(.asg (.tup [6, 7, 8, 9]) (.idx (.var 1) (.var 2))), (.asg (.name 2) (.bin .add (.var 2) (.int 1))), (.ite (.or (.cmp .ne (.var 6) (.var 3)) (.and (.ntN (.var 5)) (.cmp .ne (.var 7) (.var 5)))) [(.ret .non)] []), (.ite (.cmp .eq (.bi .len [(.var 0)]) (.int 1)) [(.ret (.ife (.and (.cmp .eq (.var 8) (.var 3)) (.cmp .eq (.var 7) (.var 9))) (.var 2) .non))] []), (.ite (.or (.cmp .le (.call "order" [(.var 8), (.var 6)]) (.int 0)) (.cmp .gt (.call "order" [(.var 8), (.var 4)]) (.int 0))) [(.ret .non)] []), (.ite (.cmp .eq (.var 8) (.var 4)) [(.ret (.var 2))] []), (.asg (.name 3) (.var 8)), (.asg (.name 5) (.var 9))]),
  (.ret .non)]
def b_miss : List St := [
  (.asg (.name 3) (.tup [(.int 0), (.int 1)])),
  (.asg (.name 4) (.int 0)),
  (.forS (.name 5) (.seq (.call "runs" [(.var 0)])) [(.ite (.cmp .isin (.var 1) (.tup [(.str "apart"), (.str "spans")])) [(.asg (.name 8) (.call "behind_apart" [(.var 5), (.var 2), (.var 4)]))] [(.asg (.name 8) (.call "behind_joined" [(.var 5), (.var 2), (.var 4)]))]), (.ite (.isN (.var 8)) [(.ret .non)] []), (.asg (.name 6) (.slB (.var 2) (.var 4) (.var 8))), (.ite (.and (.cmp .isin (.var 1) (.tup [(.str "spans"), (.str "chain")])) (.not (.call "on_samples" [(.var 5), (.var 6)]))) [(.ret .non)] []), (.asg (.name 7) (.call "run_miss" [(.var 5), (.var 6)])), (.ite (.cmp .gt (.call "order" [(.var 7), (.var 3)]) (.int 0)) [(.asg (.name 3) (.var 7))] []), (.asg (.name 4) (.var 8))]),
  (.ret (.ife (.cmp .eq (.var 4) (.bi .len [(.var 2)])) (.var 3) .non))]
def b_fits : List St := [
  (.asg (.name 4) (.call "miss" [(.var 0), (.var 1), (.var 3)])),
  (.ret (.and (.ntN (.var 4)) (.cmp .le (.call "order" [(.var 4), (.var 2)]) (.int 0))))]
end LawT
set_option maxRecDepth 100000
set_option maxHeartbeats 0
namespace LawT
open Lt
open PySem (Str)
def d_place_at : Def := ⟨["run", "when"], ["run", "when", "place", "sample"], [], b_place_at⟩
def d_behind_apart : Def := ⟨["run", "telling", "at"], ["run", "telling", "at", "place", "stop", "start", "first", "end", "last"], [], b_behind_apart⟩
def d_behind_joined : Def := ⟨["run", "telling", "at"], ["run", "telling", "at", "here", "goal", "tall", "start", "first", "end", "last"], [], b_behind_joined⟩
def d_on_samples : Def := ⟨["run", "pieces"], ["run", "pieces", "spots", "start", "first", "end", "last", "moment", "value"], [], b_on_samples⟩
def d_height_of : Def := ⟨["piece", "when"], ["piece", "when", "part", "start", "first", "end", "last"], [], b_height_of⟩
def d_run_miss : Def := ⟨["run", "pieces"], ["run", "pieces", "worst", "at", "moment", "value", "when", "far"], [], b_run_miss⟩
def d_miss : Def := ⟨["row", "way", "telling"], ["row", "way", "telling", "worst", "at", "run", "pieces", "far", "behind"], [], b_miss⟩
def d_fits : Def := ⟨["row", "way", "bound", "telling"], ["row", "way", "bound", "telling", "far"], [], b_fits⟩
def d__law_shaped : Def := ⟨["_law_some", "_law_scale", "_law_tilt"], ["_law_some", "_law_scale", "_law_tilt", "_law_moment", "_law_up", "_law_rise", "_law_row_here", "_law_k", "_law_at", "_law_high_here", "_law_lean"], [], b__law_shaped⟩
def d__law_times : Def := ⟨["_law_row_here", "_law_by"], ["_law_row_here", "_law_by", "_law_some", "_law_moment", "_law_number"], [], b__law_times⟩
def d__law_picked : Def := ⟨["_law_held", "_law_some"], ["_law_held", "_law_some", "_law_places", "_law_k", "_law_at"], [], b__law_picked⟩
def d__law_drawn : Def := ⟨["_law_script", "_law_place", "_law_most", "_law_share"], ["_law_script", "_law_place", "_law_most", "_law_share", "_law_sizes", "_law_some", "_law_bottom", "_law_scale", "_law_tilt", "_law_row_here", "_law_held", "_law_far", "_law_one", "_law_mid", "_law_last", "_law_span", "_law_stood", "_law_by"], [], b__law_drawn_v2⟩
def d__law_handed : Def := ⟨["_law_row_here", "_law_bottom"], ["_law_row_here", "_law_bottom", "_law_handed_here", "_law_moment", "_law_number"], [], b__law_handed⟩
def d__law_runs : Def := ⟨["_law_row_here"], ["_law_row_here", "_law_parts", "_law_one", "_law_part"], [], b__law_runs⟩
def d__law_height : Def := ⟨["_law_some", "_law_moment"], ["_law_some", "_law_moment", "_law_span", "_law_way", "_law_rise", "_law_top", "_law_start", "_law_first", "_law_end", "_law_last"], [], b__law_height⟩
def d__law_put : Def := ⟨["_law_number", "_law_up", "_law_bound", "_law_bottom"], ["_law_number", "_law_up", "_law_bound", "_law_bottom"], [], [
  (.ret (.call "_law_ratio" [(.bin .add (.bin .mul (.var 0) (.int 8)) (.bin .mul (.bin .sub (.var 1) (.int 3)) (.bin .add (.var 2) (.int 1)))), (.bin .mul (.int 8) (.var 3))]))]⟩
def d__law_lone : Def := ⟨["_law_part", "_law_draw", "_law_bound", "_law_bottom"], ["_law_part", "_law_draw", "_law_bound", "_law_bottom", "_law_there", "_law_high_here"], [], [
  (.asg (.name 4) (.tup [(.idx (.idx (.var 0) (.int 0)) (.int 0)), (.int 1)])),
  (.asg (.name 5) (.call "_law_put" [(.idx (.idx (.var 0) (.int 0)) (.int 1)), (.idx (.var 1) (.int 1)), (.var 2), (.var 3)])),
  (.ret (.lst [(.tup [(.var 4), (.var 5), (.var 4), (.var 5)])]))]⟩
def d__law_loose : Def := ⟨["_law_part", "_law_draws", "_law_bound", "_law_bottom"], ["_law_part", "_law_draws", "_law_bound", "_law_bottom", "_law_some", "_law_start", "_law_at", "_law_first", "_law_end", "_law_one", "_law_last"], [], [
  (.asg (.name 4) (.lst [])),
  (.asg (.name 5) (.int 0)),
  (.forS (.name 6) (.rng (.bi .len [(.var 0)])) [(.ite (.or (.cmp .eq (.var 6) (.bin .sub (.bi .len [(.var 0)]) (.int 1))) (.cmp .eq (.idx (.idx (.var 1) (.var 6)) (.int 0)) (.int 0))) [(.par 9 10 (.idx (.var 0) (.var 5)) (.idx (.var 0) (.var 6))), (.asg (.name 7) (.call "_law_put" [(.idx (.var 9) (.int 1)), (.idx (.idx (.var 1) (.var 6)) (.int 1)), (.var 2), (.var 3)])), (.asg (.name 8) (.call "_law_put" [(.idx (.var 10) (.int 1)), (.idx (.idx (.var 1) (.var 6)) (.int 2)), (.var 2), (.var 3)])), (.ite (.cmp .eq (.var 5) (.var 6)) [(.asg (.name 8) (.var 7))] []), (.exp (.app (.var 4) (.tup [(.tup [(.idx (.var 9) (.int 0)), (.int 1)]), (.var 7), (.tup [(.idx (.var 10) (.int 0)), (.int 1)]), (.var 8)]))), (.asg (.name 5) (.bin .add (.var 6) (.int 1)))] [])]),
  (.ret (.var 4))]⟩
def d__law_node : Def := ⟨["_law_part", "_law_at", "_law_draw", "_law_bound", "_law_bottom", "_law_tied"], ["_law_part", "_law_at", "_law_draw", "_law_bound", "_law_bottom", "_law_tied", "_law_share", "_law_gap", "_law_when"], [], [
  (.asg (.name 6) (.bin .add (.idx (.var 2) (.int 3)) (.int 1))),
  (.ite (.var 5) [(.asg (.name 6) (.int 7))] []),
  (.asg (.name 7) (.bin .sub (.idx (.idx (.var 0) (.var 1)) (.int 0)) (.idx (.idx (.var 0) (.bin .sub (.var 1) (.int 1))) (.int 0)))),
  (.asg (.name 8) (.call "_law_ratio" [(.bin .add (.bin .mul (.idx (.idx (.var 0) (.bin .sub (.var 1) (.int 1))) (.int 0)) (.int 7)) (.bin .mul (.var 7) (.var 6))), (.int 7)])),
  (.ret (.tup [(.var 8), (.call "_law_put" [(.idx (.idx (.var 0) (.var 1)) (.int 1)), (.idx (.var 2) (.int 1)), (.var 3), (.var 4)])]))]⟩
def d__law_hung : Def := ⟨["_law_part", "_law_draws", "_law_bound", "_law_bottom", "_law_tied"], ["_law_part", "_law_draws", "_law_bound", "_law_bottom", "_law_tied", "_law_start", "_law_nodes", "_law_at", "_law_end", "_law_inner", "_law_k", "_law_twin"], [], [
  (.ite (.cmp .eq (.bi .len [(.var 0)]) (.int 1)) [(.ret (.call "_law_lone" [(.var 0), (.idx (.var 1) (.int 0)), (.var 2), (.var 3)]))] []),
  (.asg (.name 5) (.tup [(.idx (.idx (.var 0) (.int 0)) (.int 0)), (.int 1)])),
  (.asg (.name 6) (.lst [(.tup [(.var 5), (.call "_law_put" [(.idx (.idx (.var 0) (.int 0)) (.int 1)), (.idx (.idx (.var 1) (.int 0)) (.int 2)), (.var 2), (.var 3)])])])),
  (.forS (.name 7) (.rng2 (.int 1) (.bi .len [(.var 0)])) [(.asg (.name 9) (.or (.cmp .lt (.var 7) (.bin .sub (.bi .len [(.var 0)]) (.int 1))) (.and (.not (.var 4)) (.cmp .lt (.idx (.idx (.var 1) (.var 7)) (.int 3)) (.int 6))))), (.ite (.and (.var 9) (.cmp .eq (.idx (.idx (.var 1) (.var 7)) (.int 0)) (.int 0))) [(.exp (.app (.var 6) (.call "_law_node" [(.var 0), (.var 7), (.idx (.var 1) (.var 7)), (.var 2), (.var 3), (.var 4)]))), (.ite (.and (.not (.var 4)) (.and (.cmp .lt (.idx (.idx (.var 1) (.var 7)) (.int 3)) (.int 5)) (.cmp .lt (.idx (.idx (.var 1) (.var 7)) (.int 2)) (.int 4)))) [(.asg (.name 11) (.lst [(.int 0), (.idx (.idx (.var 1) (.var 7)) (.int 2)), (.int 0), (.bin .add (.idx (.idx (.var 1) (.var 7)) (.int 3)) (.int 1))])), (.exp (.app (.var 6) (.call "_law_node" [(.var 0), (.var 7), (.var 11), (.var 2), (.var 3), (.var 4)])))] [])] [])]),
  (.asg (.name 8) (.tup [(.idx (.idx (.var 0) (.neg (.int 1))) (.int 0)), (.int 1)])),
  (.exp (.app (.var 6) (.tup [(.var 8), (.call "_law_put" [(.idx (.idx (.var 0) (.neg (.int 1))) (.int 1)), (.idx (.idx (.var 1) (.neg (.int 1))) (.int 2)), (.var 2), (.var 3)])]))),
  (.ret (.lc [10] (.name 10) (.rng (.bin .sub (.bi .len [(.var 6)]) (.int 1))) (.bin .add (.idx (.var 6) (.var 10)) (.idx (.var 6) (.bin .add (.var 10) (.int 1))))))]⟩
def d__law_own_telling : Def := ⟨["_law_script", "_law_place", "_law_parts", "_law_way", "_law_bound", "_law_bottom"], ["_law_script", "_law_place", "_law_parts", "_law_way", "_law_bound", "_law_bottom", "_law_some", "_law_pieces", "_law_k", "_law_part", "_law_draws", "_law_one", "_law_draw"], [], [
  (.asg (.name 6) (.call "_law_row" [(.var 0), (.var 1), (.bin .add (.lst [(.int 3)]) (.bin .mul (.lst [(.int 3), (.int 7), (.int 7), (.int 7)]) (.int 12)))])),
  (.asg (.name 7) (.lst [])),
  (.asg (.name 8) (.int 0)),
  (.forS (.name 9) (.seq (.var 2)) [(.asg (.name 10) (.lst [])), (.forS (.name 11) (.seq (.var 9)) [(.asg (.name 12) (.slB (.var 6) (.bin .add (.bin .mul (.int 4) (.var 8)) (.int 1)) (.bin .add (.bin .mul (.int 4) (.var 8)) (.int 5)))), (.ite (.cmp .isin (.var 3) (.tup [(.str "spans"), (.str "chain")])) [(.sub (.var 12) (.int 1) (.int 3)), (.sub (.var 12) (.int 2) (.int 3))] []), (.ite (.cmp .eq (.idx (.var 6) (.int 0)) (.int 0)) [(.sub (.var 12) (.int 0) (.int 1))] []), (.ite (.cmp .eq (.idx (.var 6) (.int 0)) (.int 1)) [(.sub (.var 12) (.int 0) (.bin .fdiv (.idx (.var 12) (.int 0)) (.int 2)))] []), (.exp (.app (.var 10) (.var 12))), (.asg (.name 8) (.bin .add (.var 8) (.int 1)))]), (.ite (.cmp .isin (.var 3) (.tup [(.str "apart"), (.str "spans")])) [(.exp (.ext (.var 7) (.call "_law_loose" [(.var 9), (.var 10), (.var 4), (.var 5)])))] [(.exp (.ext (.var 7) (.call "_law_hung" [(.var 9), (.var 10), (.var 4), (.var 5), (.cmp .eq (.var 3) (.str "chain"))])))])]),
  (.ret (.var 7))]⟩
def d__law_high : Def := ⟨["_law_some", "_law_moment"], ["_law_some", "_law_moment"], [], [
  (.ite (.cmp .eq (.idx (.var 0) (.int 0)) (.idx (.var 0) (.int 2))) [(.ret (.idx (.var 0) (.int 1)))] []),
  (.ret (.call "_law_height" [(.var 0), (.var 1)]))]⟩
def d__law_has : Def := ⟨["_law_some", "_law_moment"], ["_law_some", "_law_moment", "_law_start", "_law_first", "_law_end", "_law_last"], [], [
  (.asg (.tup [2, 3, 4, 5]) (.var 0)),
  (.ret (.and (.cmp .le (.idx (.var 2) (.int 0)) (.bin .mul (.var 1) (.idx (.var 2) (.int 1)))) (.cmp .le (.bin .mul (.var 1) (.idx (.var 4) (.int 1))) (.idx (.var 4) (.int 0)))))]⟩
def d__law_own_miss : Def := ⟨["_law_parts", "_law_pieces", "_law_bottom"], ["_law_parts", "_law_pieces", "_law_bottom", "_law_most", "_law_part", "_law_moment", "_law_number", "_law_one", "_law_high_here", "_law_far", "_law_some"], [], [
  (.asg (.name 3) (.tup [(.int 0), (.int 1)])),
  (.forS (.name 4) (.seq (.var 0)) [(.forS (.tup [5, 6]) (.seq (.var 4)) [(.asg (.name 7) (.lcI [10] (.name 10) (.seq (.var 1)) (.call "_law_has" [(.var 10), (.var 5)]) (.var 10))), (.asg (.name 8) (.call "_law_high" [(.idx (.var 7) (.int 0)), (.var 5)])), (.asg (.name 9) (.bi .abs [(.bin .sub (.bin .mul (.idx (.var 8) (.int 0)) (.var 2)) (.bin .mul (.var 6) (.idx (.var 8) (.int 1))))])), (.ite (.call "_law_less" [(.var 3), (.tup [(.var 9), (.bin .mul (.idx (.var 8) (.int 1)) (.var 2))])]) [(.asg (.name 3) (.tup [(.var 9), (.bin .mul (.idx (.var 8) (.int 1)) (.var 2))]))] [])])]),
  (.ret (.call "_law_ratio" [(.idx (.var 3) (.int 0)), (.idx (.var 3) (.int 1))]))]⟩
def d__law_looked : Def := ⟨["_law_row_here", "_law_bottom", "_law_way", "_law_pieces", "_law_due"], ["_law_row_here", "_law_bottom", "_law_way", "_law_pieces", "_law_due", "_law_handed_here", "_law_told", "_law_found", "_law_near", "_law_above", "_law_under"], [], [
  (.asg (.name 5) (.call "_law_handed" [(.var 0), (.var 1)])),
  (.asg (.name 6) (.bi .list [(.var 3)])),
  (.asg (.name 7) (.call "miss" [(.var 5), (.var 2), (.var 6)])),
  (.ite (.or (.not (.call "_law_is_ratio" [(.var 7)])) (.cmp .ne (.var 7) (.var 4))) [(.ret (.bl false))] []),
  (.asg (.name 8) (.call "_law_ratio" [(.bin .mul (.idx (.var 4) (.int 0)) (.bin .sub (.bin .pow (.int 10) (.int 9)) (.int 1))), (.bin .mul (.idx (.var 4) (.int 1)) (.bin .pow (.int 10) (.int 9)))])),
  (.asg (.name 9) (.call "_law_ratio" [(.bin .add (.bin .mul (.idx (.var 4) (.int 0)) (.bin .pow (.int 10) (.int 9))) (.idx (.var 4) (.int 1))), (.bin .mul (.idx (.var 4) (.int 1)) (.bin .pow (.int 10) (.int 9)))])),
  (.ite (.or (.ntB (.call "fits" [(.var 5), (.var 2), (.var 4), (.var 6)]) true) (.ntB (.call "fits" [(.var 5), (.var 2), (.var 9), (.var 6)]) true)) [(.ret (.bl false))] []),
  (.asg (.name 10) (.call "fits" [(.var 5), (.var 2), (.var 8), (.var 6)])),
  (.ite (.or (.not (.isI (.var 10) .bool)) (.cmp .ne (.var 10) (.cmp .eq (.idx (.var 4) (.int 0)) (.int 0)))) [(.ret (.bl false))] []),
  (.ret (.and (.cmp .eq (.var 5) (.call "_law_handed" [(.var 0), (.var 1)])) (.cmp .eq (.var 6) (.var 3))))]⟩
def d_law : Def := ⟨["_law_script"], ["_law_script", "_law_parts", "_law_asked", "_law_k", "_law_row_here", "_law_bottom", "_law_bound", "_law_pieces", "_law_due", "_law_way", "_law_other"], [], [
  (.asg (.tup [4, 5, 6]) (.call "_law_drawn" [(.var 0), (.int 0), (.int 12), (.int 2)])),
  (.asg (.name 1) (.call "_law_runs" [(.var 4)])),
  (.asg (.name 2) (.lst [(.tup [(.str "apart"), (.str "apart")]), (.tup [(.str "joined"), (.str "joined")]), (.tup [(.str "spans"), (.str "apart")]), (.tup [(.str "chain"), (.str "joined")])])),
  (.forS (.name 3) (.rng (.int 4)) [(.asg (.tup [9, 10]) (.idx (.var 2) (.var 3))), (.asg (.name 7) (.call "_law_own_telling" [(.var 0), (.bin .add (.var 3) (.int 1)), (.var 1), (.var 9), (.var 6), (.var 5)])), (.asg (.name 8) (.call "_law_own_miss" [(.var 1), (.var 7), (.var 5)])), (.ite (.not (.call "_law_looked" [(.var 4), (.var 5), (.var 9), (.var 7), (.var 8)])) [(.ret (.bl false))] []), (.ite (.not (.call "_law_looked" [(.var 4), (.var 5), (.var 10), (.var 7), (.var 8)])) [(.ret (.bl false))] [])]),
  (.ret (.bl true))]⟩
def prog : Prog := ⟨([("common", a_common), ("ratio", a_ratio), ("plus", a_plus), ("minus", a_minus), ("times", a_times), ("over", a_over), ("order", a_order), ("size", a_size), ("runs", a_runs), ("place_at", d_place_at), ("behind_apart", d_behind_apart), ("behind_joined", d_behind_joined), ("on_samples", d_on_samples), ("height_of", d_height_of), ("run_miss", d_run_miss), ("miss", d_miss), ("fits", d_fits), ("_law_cell", a__law_cell), ("_law_mix", a__law_mix), ("_law_row", a__law_row)] : List (Str × Def)) ++ ([("_law_ratio", a__law_ratio), ("_law_shaped", d__law_shaped), ("_law_times", d__law_times), ("_law_picked", d__law_picked), ("_law_drawn", d__law_drawn), ("_law_is_ratio", a__law_is_ratio), ("_law_handed", d__law_handed), ("_law_runs", d__law_runs), ("_law_less", a__law_less), ("_law_height", d__law_height), ("_law_put", d__law_put), ("_law_lone", d__law_lone), ("_law_loose", d__law_loose), ("_law_node", d__law_node), ("_law_hung", d__law_hung), ("_law_own_telling", d__law_own_telling), ("_law_high", d__law_high), ("_law_has", d__law_has), ("_law_own_miss", d__law_own_miss), ("_law_looked", d__law_looked)] : List (Str × Def)) ++ ([("law", d_law)] : List (Str × Def)), ([] : List (Str × D)), ([("NoRatio", [("NoRatio", true)])] : List (Str × List (Str × Bool))), ([] : List (Str × List Str × List (Str × Str))), ([] : List (Str × List (Str × Bool))), ([] : List (Str × List (Str × Bool))), ([] : List (Str × Def))⟩
theorem lk_common : prog.defs.lookup ("common" : Str) = some a_common := by kernel_rfl
theorem lk_ratio : prog.defs.lookup ("ratio" : Str) = some a_ratio := by kernel_rfl
theorem lk_plus : prog.defs.lookup ("plus" : Str) = some a_plus := by kernel_rfl
theorem lk_minus : prog.defs.lookup ("minus" : Str) = some a_minus := by kernel_rfl
theorem lk_times : prog.defs.lookup ("times" : Str) = some a_times := by kernel_rfl
theorem lk_over : prog.defs.lookup ("over" : Str) = some a_over := by kernel_rfl
theorem lk_order : prog.defs.lookup ("order" : Str) = some a_order := by kernel_rfl
theorem lk_size : prog.defs.lookup ("size" : Str) = some a_size := by kernel_rfl
theorem lk_runs : prog.defs.lookup ("runs" : Str) = some a_runs := by kernel_rfl
theorem lk_place_at : prog.defs.lookup ("place_at" : Str) = some d_place_at := by kernel_rfl
theorem lk_behind_apart : prog.defs.lookup ("behind_apart" : Str) = some d_behind_apart := by kernel_rfl
theorem lk_behind_joined : prog.defs.lookup ("behind_joined" : Str) = some d_behind_joined := by kernel_rfl
theorem lk_on_samples : prog.defs.lookup ("on_samples" : Str) = some d_on_samples := by kernel_rfl
theorem lk_height_of : prog.defs.lookup ("height_of" : Str) = some d_height_of := by kernel_rfl
theorem lk_run_miss : prog.defs.lookup ("run_miss" : Str) = some d_run_miss := by kernel_rfl
theorem lk_miss : prog.defs.lookup ("miss" : Str) = some d_miss := by kernel_rfl
theorem lk_fits : prog.defs.lookup ("fits" : Str) = some d_fits := by kernel_rfl
theorem lk__law_cell : prog.defs.lookup ("_law_cell" : Str) = some a__law_cell := by kernel_rfl
theorem lk__law_mix : prog.defs.lookup ("_law_mix" : Str) = some a__law_mix := by kernel_rfl
theorem lk__law_row : prog.defs.lookup ("_law_row" : Str) = some a__law_row := by kernel_rfl
theorem lk__law_ratio : prog.defs.lookup ("_law_ratio" : Str) = some a__law_ratio := by kernel_rfl
theorem lk__law_shaped : prog.defs.lookup ("_law_shaped" : Str) = some d__law_shaped := by kernel_rfl
theorem lk__law_times : prog.defs.lookup ("_law_times" : Str) = some d__law_times := by kernel_rfl
theorem lk__law_picked : prog.defs.lookup ("_law_picked" : Str) = some d__law_picked := by kernel_rfl
theorem lk__law_drawn : prog.defs.lookup ("_law_drawn" : Str) = some d__law_drawn := by kernel_rfl
theorem lk__law_is_ratio : prog.defs.lookup ("_law_is_ratio" : Str) = some a__law_is_ratio := by kernel_rfl
theorem lk__law_handed : prog.defs.lookup ("_law_handed" : Str) = some d__law_handed := by kernel_rfl
theorem lk__law_runs : prog.defs.lookup ("_law_runs" : Str) = some d__law_runs := by kernel_rfl
theorem lk__law_less : prog.defs.lookup ("_law_less" : Str) = some a__law_less := by kernel_rfl
theorem lk__law_height : prog.defs.lookup ("_law_height" : Str) = some d__law_height := by kernel_rfl
theorem lk__law_put : prog.defs.lookup ("_law_put" : Str) = some d__law_put := by kernel_rfl
theorem lk__law_lone : prog.defs.lookup ("_law_lone" : Str) = some d__law_lone := by kernel_rfl
theorem lk__law_loose : prog.defs.lookup ("_law_loose" : Str) = some d__law_loose := by kernel_rfl
theorem lk__law_node : prog.defs.lookup ("_law_node" : Str) = some d__law_node := by kernel_rfl
theorem lk__law_hung : prog.defs.lookup ("_law_hung" : Str) = some d__law_hung := by kernel_rfl
theorem lk__law_own_telling : prog.defs.lookup ("_law_own_telling" : Str) = some d__law_own_telling := by kernel_rfl
theorem lk__law_high : prog.defs.lookup ("_law_high" : Str) = some d__law_high := by kernel_rfl
theorem lk__law_has : prog.defs.lookup ("_law_has" : Str) = some d__law_has := by kernel_rfl
theorem lk__law_own_miss : prog.defs.lookup ("_law_own_miss" : Str) = some d__law_own_miss := by kernel_rfl
theorem lk__law_looked : prog.defs.lookup ("_law_looked" : Str) = some d__law_looked := by kernel_rfl
theorem lk_law : prog.defs.lookup ("law" : Str) = some d_law := by kernel_rfl
end LawT
namespace LawH
open PySem PySem.Spec PyProof.Rows L2
def top (i : Nat) : Stmt := PySem.Challenge.pw_lath_k62_tellings_looked_at.main.body.getD i (.Pass ⟨0, 0, 0, 0⟩)
def fn : List He.DefD := ([⟨("common", none), "common", "common", defArgs (top 4), defBody (top 4), defScope (top 4), [], []⟩, ⟨("ratio", none), "ratio", "ratio", defArgs (top 5), defBody (top 5), defScope (top 5), [], []⟩, ⟨("plus", none), "plus", "plus", defArgs (top 6), defBody (top 6), defScope (top 6), [], []⟩, ⟨("minus", none), "minus", "minus", defArgs (top 7), defBody (top 7), defScope (top 7), [], []⟩, ⟨("times", none), "times", "times", defArgs (top 8), defBody (top 8), defScope (top 8), [], []⟩, ⟨("over", none), "over", "over", defArgs (top 9), defBody (top 9), defScope (top 9), [], []⟩, ⟨("order", none), "order", "order", defArgs (top 10), defBody (top 10), defScope (top 10), [], []⟩, ⟨("size", none), "size", "size", defArgs (top 11), defBody (top 11), defScope (top 11), [], []⟩, ⟨("runs", none), "runs", "runs", defArgs (top 13), defBody (top 13), defScope (top 13), [], []⟩, ⟨("place_at", none), "place_at", "place_at", defArgs (top 15), defBody (top 15), defScope (top 15), [], []⟩, ⟨("behind_apart", none), "behind_apart", "behind_apart", defArgs (top 16), defBody (top 16), defScope (top 16), [], []⟩, ⟨("behind_joined", none), "behind_joined", "behind_joined", defArgs (top 17), defBody (top 17), defScope (top 17), [], []⟩, ⟨("on_samples", none), "on_samples", "on_samples", defArgs (top 18), defBody (top 18), defScope (top 18), [], []⟩, ⟨("height_of", none), "height_of", "height_of", defArgs (top 19), defBody (top 19), defScope (top 19), [], []⟩, ⟨("run_miss", none), "run_miss", "run_miss", defArgs (top 20), defBody (top 20), defScope (top 20), [], []⟩, ⟨("miss", none), "miss", "miss", defArgs (top 21), defBody (top 21), defScope (top 21), [], []⟩, ⟨("fits", none), "fits", "fits", defArgs (top 22), defBody (top 22), defScope (top 22), [], []⟩, ⟨("_law_cell", none), "_law_cell", "_law_cell", defArgs (top 24), defBody (top 24), defScope (top 24), [], []⟩, ⟨("_law_mix", none), "_law_mix", "_law_mix", defArgs (top 25), defBody (top 25), defScope (top 25), [], []⟩, ⟨("_law_row", none), "_law_row", "_law_row", defArgs (top 26), defBody (top 26), defScope (top 26), [], []⟩] : List He.DefD) ++ ([⟨("_law_ratio", none), "_law_ratio", "_law_ratio", defArgs (top 27), defBody (top 27), defScope (top 27), [], []⟩, ⟨("_law_shaped", none), "_law_shaped", "_law_shaped", defArgs (top 28), defBody (top 28), defScope (top 28), [], []⟩, ⟨("_law_times", none), "_law_times", "_law_times", defArgs (top 29), defBody (top 29), defScope (top 29), [], []⟩, ⟨("_law_picked", none), "_law_picked", "_law_picked", defArgs (top 30), defBody (top 30), defScope (top 30), [], []⟩, ⟨("_law_drawn", none), "_law_drawn", "_law_drawn", defArgs (top 31), defBody (top 31), defScope (top 31), [], []⟩, ⟨("_law_is_ratio", none), "_law_is_ratio", "_law_is_ratio", defArgs (top 32), defBody (top 32), defScope (top 32), [], []⟩, ⟨("_law_handed", none), "_law_handed", "_law_handed", defArgs (top 33), defBody (top 33), defScope (top 33), [], []⟩, ⟨("_law_runs", none), "_law_runs", "_law_runs", defArgs (top 34), defBody (top 34), defScope (top 34), [], []⟩, ⟨("_law_less", none), "_law_less", "_law_less", defArgs (top 35), defBody (top 35), defScope (top 35), [], []⟩, ⟨("_law_height", none), "_law_height", "_law_height", defArgs (top 36), defBody (top 36), defScope (top 36), [], []⟩, ⟨("_law_put", none), "_law_put", "_law_put", defArgs (top 37), defBody (top 37), defScope (top 37), [], []⟩, ⟨("_law_lone", none), "_law_lone", "_law_lone", defArgs (top 38), defBody (top 38), defScope (top 38), [], []⟩, ⟨("_law_loose", none), "_law_loose", "_law_loose", defArgs (top 39), defBody (top 39), defScope (top 39), [], []⟩, ⟨("_law_node", none), "_law_node", "_law_node", defArgs (top 40), defBody (top 40), defScope (top 40), [], []⟩, ⟨("_law_hung", none), "_law_hung", "_law_hung", defArgs (top 41), defBody (top 41), defScope (top 41), [], []⟩, ⟨("_law_own_telling", none), "_law_own_telling", "_law_own_telling", defArgs (top 42), defBody (top 42), defScope (top 42), [], []⟩, ⟨("_law_high", none), "_law_high", "_law_high", defArgs (top 43), defBody (top 43), defScope (top 43), [], []⟩, ⟨("_law_has", none), "_law_has", "_law_has", defArgs (top 44), defBody (top 44), defScope (top 44), [], []⟩, ⟨("_law_own_miss", none), "_law_own_miss", "_law_own_miss", defArgs (top 45), defBody (top 45), defScope (top 45), [], []⟩, ⟨("_law_looked", none), "_law_looked", "_law_looked", defArgs (top 46), defBody (top 46), defScope (top 46), [], []⟩] : List He.DefD) ++ ([⟨("law", none), "law", "law", defArgs (top 47), defBody (top 47), defScope (top 47), [], []⟩] : List He.DefD)
def fa : List He.Fa := ([.glo "common", .glo "ratio", .glo "plus", .glo "minus", .glo "times", .glo "over", .glo "order", .glo "size", .glo "runs", .glo "place_at", .glo "behind_apart", .glo "behind_joined", .glo "on_samples", .glo "height_of", .glo "run_miss", .glo "miss", .glo "fits", .glo "_law_cell", .glo "_law_mix", .glo "_law_row"] : List He.Fa) ++ ([.glo "_law_ratio", .glo "_law_shaped", .glo "_law_times", .glo "_law_picked", .glo "_law_drawn", .glo "_law_is_ratio", .glo "_law_handed", .glo "_law_runs", .glo "_law_less", .glo "_law_height", .glo "_law_put", .glo "_law_lone", .glo "_law_loose", .glo "_law_node", .glo "_law_hung", .glo "_law_own_telling", .glo "_law_high", .glo "_law_has", .glo "_law_own_miss", .glo "_law_looked"] : List He.Fa) ++ ([.glo "law", .free "abs", .free "len", .free "isinstance", .free "range", .free "int", .free "bool", .free "str", .free "tuple", .free "list", .free "sorted", .free "max", .free "min", .free "enumerate", .free "zip", .free "reversed", .glo "NoRatio", .exc "NoRatio", .exm "NoRatio" "NoRatio" true] : List He.Fa)
abbrev R : PySem.W.OpenRow := PySem.W.OpenLaw.row PySem.Challenge.rw_lath_k62_tellings_looked_at
abbrev hk : PySem.W.Hook := Lt.hookL 4 fa fn (Lt.exP LawT.prog)
def ob (s : PySem.W.SharedT) : Lt.AlL := Lt.obsL 4 fa fn (Lt.exP LawT.prog) (HandSHeadRun.getT s)
theorem ob_eq (s : PySem.W.SharedT) : ob s = hk.obs s.abs := Lt.obsL_eq (HandSHeadRun.getT_eq s)
def names : List Str := (["LathError", "NoRatio", "common", "ratio", "plus", "minus", "times", "over", "order", "size", "runs", "place_at", "behind_apart", "behind_joined", "on_samples", "height_of", "run_miss", "miss", "fits", "_law_cell"] : List Str) ++ (["_law_mix", "_law_row", "_law_ratio", "_law_shaped", "_law_times", "_law_picked", "_law_drawn", "_law_is_ratio", "_law_handed", "_law_runs", "_law_less", "_law_height", "_law_put", "_law_lone", "_law_loose", "_law_node", "_law_hung", "_law_own_telling", "_law_high", "_law_has"] : List Str) ++ (["_law_own_miss", "_law_looked"] : List Str)
theorem run (w : World) : HandSHeadRun.RunEq R (PySem.W.view R.prog [47]) hk ob 4000 names w := by
  intro os
  kernel_rfl
theorem checks : Lt.allB LawT.prog fa fn = true := by kernel_rfl
end LawH
namespace Lt
open PySem (Str)
/-- what an ending must meet -/
structure Zs where
  nx : Env → Store → Prop
  rt : D → Store → Prop
  bk : Env → Store → Prop := fun _ _ => False
  ex : Exc → Env → Store → Prop := fun _ _ _ => False
abbrev XP := Exc → Store → Prop
@[irreducible] def Wp {α : Type} (r : R α) (E : XP) (Q : α → Store → Prop) : Prop := match r with
  | .ok a S => Q a S
  | .exc c S => E c S
  | .bad => False
@[irreducible] def WpS (r : SR) (Z : Zs) : Prop := match r with
  | .nx e S => Z.nx e S
  | .ret d S => Z.rt d S
  | .brk e S => Z.bk e S
  | .exc c e S => Z.ex c e S
  | .bad => False
section
variable {α β : Type} {r : R α} {E E' : XP} {Q Q' : α → Store → Prop} {Z Z' : Zs} {S S' : Store} {e e' : Env} {G : Cxt} {p : Prop} [Decidable p]
theorem wp_ok {a : α} : Wp (.ok a S) E Q = Q a S := by unfold Wp; rfl
theorem wp_exc {c : Exc} : Wp (.exc c S : R α) E Q = E c S := by unfold Wp; rfl
theorem wp_bad : Wp (.bad : R α) E Q = False := by unfold Wp; rfl
theorem Wp.mono (h : Wp r E Q) (m : ∀ a S, Q a S → Q' a S) (x : ∀ c S, E c S → E' c S) : Wp r E' Q' := by
  cases r with
  | ok a S => rw [wp_ok] at h ⊢; exact m a S h
  | exc c S => rw [wp_exc] at h ⊢; exact x c S h
  | bad => rw [wp_bad] at h; exact h.elim
theorem Wp.imp (h : Wp r E Q) (m : ∀ a S, Q a S → Q' a S) : Wp r E Q' := h.mono m fun _ _ h => h
theorem wpS_nx : WpS (.nx e S) Z = Z.nx e S := by unfold WpS; rfl
theorem wpS_ret {d : D} : WpS (.ret d S) Z = Z.rt d S := by unfold WpS; rfl
theorem wpS_brk : WpS (.brk e S) Z = Z.bk e S := by unfold WpS; rfl
theorem wpS_exc {c : Exc} : WpS (.exc c e S) Z = Z.ex c e S := by unfold WpS; rfl
theorem wpS_bad : WpS .bad Z = False := by unfold WpS; rfl
theorem WpS.mono {r : SR} (h : WpS r Z) (h1 : ∀ e S, Z.nx e S → Z'.nx e S) (h2 : ∀ d S, Z.rt d S → Z'.rt d S) (h3 : ∀ e S, Z.bk e S → Z'.bk e S) (h4 : ∀ c e S, Z.ex c e S → Z'.ex c e S) : WpS r Z' := by
  cases r with
  | nx e S => rw [wpS_nx] at h ⊢; exact h1 _ _ h
  | ret d S => rw [wpS_ret] at h ⊢; exact h2 _ _ h
  | brk e S => rw [wpS_brk] at h ⊢; exact h3 _ _ h
  | exc c e S => rw [wpS_exc] at h ⊢; exact h4 _ _ _ h
  | bad => rw [wpS_bad] at h; exact h.elim
theorem wp_bind {k : α → Store → R β} {Q : β → Store → Prop} : Wp (r.bind k) E Q = Wp r E fun a S => Wp (k a S) E Q := by
  cases r with
  | ok a S => rw [wp_ok]; rfl
  | exc c S => rw [wp_exc]; show Wp (.exc c S) E Q = _; rw [wp_exc]
  | bad => rw [wp_bad]; show Wp .bad E Q = _; rw [wp_bad]
theorem wp_ite {x y : R α} : Wp (if p then x else y) E Q = if p then Wp x E Q else Wp y E Q := by
  split <;> rfl
theorem wpS_ite {x y : SR} : WpS (if p then x else y) Z = if p then WpS x Z else WpS y Z := by
  split <;> rfl
theorem wpS_toS {k : α → Store → SR} : WpS (r.toS e k) Z = Wp r (fun c S => Z.ex c e S) fun a S => WpS (k a S) Z := by
  cases r with
  | ok a S => rw [wp_ok]; rfl
  | exc c S => rw [wp_exc]; show WpS (.exc c e S) Z = _; rw [wpS_exc]
  | bad => rw [wp_bad]; show WpS .bad Z = _; rw [wpS_bad]
def brR (x : D) (a b : R α) : R α := match x with
  | .bl true => a
  | .bl false => b
  | _ => .bad
def brS (x : D) (a b : SR) : SR := match x with
  | .bl true => a
  | .bl false => b
  | _ => .bad
def notR (x : D) (S : Store) : R D := match x with
  | .bl b => .ok (.bl (!b)) S
  | _ => .bad
def negR (x : D) (S : Store) : R D := match x with
  | .int i => .ok (.int (-i)) S
  | _ => .bad
theorem brR_bl {b : Bool} {x y : R α} : brR (.bl b) x y = if b = true then x else y := by cases b <;> rfl
theorem brS_bl {b : Bool} {x y : SR} : brS (.bl b) x y = if b = true then x else y := by cases b <;> rfl
theorem notR_bl {b : Bool} : notR (.bl b) S = .ok (.bl (!b)) S := rfl
theorem negR_int {i : Int} : negR (.int i) S = .ok (.int (-i)) S := rfl
theorem ev_int {i : Int} : ev G (.int i) e S = .ok (.int i) S := by simp only [ev]
theorem ev_str {s : Str} : ev G (.str s) e S = .ok (.str s) S := by simp only [ev]
theorem ev_bl {b : Bool} : ev G (.bl b) e S = .ok (.bl b) S := by simp only [ev]
theorem ev_non : ev G .non e S = .ok .non S := by simp only [ev]
def varR (x : Option (Option D)) (S : Store) : R D := match x with
  | some (some d) => .ok d S
  | _ => .bad
theorem ev_var {i : Nat} : ev G (.var i) e S = varR e[i]? S := by simp only [ev, varR]; try rfl
theorem varR_some {d : D} : varR (some (some d)) S = .ok d S := rfl
theorem ev_bin {o : Op} {a b : Ex} : ev G (.bin o a b) e S = (ev G a e S).bind fun x S => (ev G b e S).bind fun y S => binop o x y S := by simp only [ev]
theorem ev_neg {a : Ex} : ev G (.neg a) e S = (ev G a e S).bind negR := by
  simp only [ev]
  congr 1
theorem ev_not {a : Ex} : ev G (.not a) e S = (ev G a e S).bind notR := by
  simp only [ev]
  congr 1
theorem ev_and {a b : Ex} : ev G (.and a b) e S = (ev G a e S).bind fun x S => brR x (ev G b e S) (.ok (.bl false) S) := by
  simp only [ev]; rfl
theorem ev_or {a b : Ex} : ev G (.or a b) e S = (ev G a e S).bind fun x S => brR x (.ok (.bl true) S) (ev G b e S) := by
  simp only [ev]; rfl
theorem ev_cmp {o : Cm} {a b : Ex} : ev G (.cmp o a b) e S = (ev G a e S).bind fun x S => (ev G b e S).bind fun y S => cmpop o x y S := by simp only [ev]
theorem ev_chn4 {o1 o2 o3 : Cm} {a b c d : Ex} : ev G (.chn4 o1 o2 o3 a b c d) e S = (ev G a e S).bind fun x S => (ev G b e S).bind fun y S => (cmpop o1 x y S).bind fun k S => brR k ((ev G c e S).bind fun z S => (cmpop o2 y z S).bind fun k S => brR k ((ev G d e S).bind fun w S => cmpop o3 z w S) (.ok (.bl false) S)) (.ok (.bl false) S) := by
  simp only [ev]; rfl
theorem ev_chn {o1 o2 : Cm} {a b c : Ex} : ev G (.chn o1 o2 a b c) e S = (ev G a e S).bind fun x S => (ev G b e S).bind fun y S => (cmpop o1 x y S).bind fun k S => brR k ((ev G c e S).bind fun z S => cmpop o2 y z S) (.ok (.bl false) S) := by
  simp only [ev]; rfl
theorem ev_isN {a : Ex} : ev G (.isN a) e S = (ev G a e S).bind fun x S => .ok (.bl (isN x)) S := by simp only [ev]
theorem ev_ntN {a : Ex} : ev G (.ntN a) e S = (ev G a e S).bind fun x S => .ok (.bl (!isN x)) S := by simp only [ev]
theorem ev_ife {c a b : Ex} : ev G (.ife c a b) e S = (ev G c e S).bind fun x S => brR x (ev G a e S) (ev G b e S) := by
  simp only [ev]; rfl
theorem ev_tup {es : List Ex} : ev G (.tup es) e S = (evs G es e S).bind fun ds S => .ok (.tup ds) S := by simp only [ev]
theorem ev_lst {es : List Ex} : ev G (.lst es) e S = (evs G es e S).bind fun ds S => alloc (.lst ds) S := by simp only [ev]
theorem ev_idx {a i : Ex} : ev G (.idx a i) e S = (ev G a e S).bind fun x S => (ev G i e S).bind fun y S => item x y S := by simp only [ev]
theorem ev_slT {a b : Ex} : ev G (.slT a b) e S = (ev G a e S).bind fun x S => (ev G b e S).bind fun y S => slice x none (some y) S := by simp only [ev]
theorem ev_slF {a b : Ex} : ev G (.slF a b) e S = (ev G a e S).bind fun x S => (ev G b e S).bind fun y S => slice x (some y) none S := by simp only [ev]
theorem ev_slB {a b c : Ex} : ev G (.slB a b c) e S = (ev G a e S).bind fun x S => (ev G b e S).bind fun y S => if isInt y = true then (ev G c e S).bind fun z S => slice x (some y) (some z) S else .bad := by simp only [ev]
def revR (x : D) (S : Store) : R D := match lstOf S x with
  | some xs => alloc (.lst xs.reverse) S
  | none => .bad
theorem ev_rev {a : Ex} : ev G (.rev a) e S = (ev G a e S).bind revR := by
  simp only [ev]; congr 1
theorem ev_call {f : Str} {es : List Ex} : ev G (.call f es) e S = (evs G es e S).bind fun ds S => G.cl f ds S := by simp only [ev]
theorem ev_bi {b : Bi} {es : List Ex} : ev G (.bi b es) e S = (evs G es e S).bind fun ds S => biop b ds S := by simp only [ev]
def isIR (t : Ty) (x : D) (S : Store) : R D := match isTy S t x with
  | some b => .ok (.bl b) S
  | none => .bad
theorem ev_isI {a : Ex} {t : Ty} : ev G (.isI a t) e S = (ev G a e S).bind (isIR t) := by
  simp only [ev]; congr 1
theorem ev_app {o a : Ex} : ev G (.app o a) e S = (ev G o e S).bind fun x S => if isLst x S = true then (ev G a e S).bind fun y S => append x y S else .bad := by simp only [ev]
theorem ev_ext {o a : Ex} : ev G (.ext o a) e S = (ev G o e S).bind fun x S => if isLst x S = true then (ev G a e S).bind fun y S => extend x y S else .bad := by simp only [ev]
theorem ev_clr {o : Ex} : ev G (.clr o) e S = (ev G o e S).bind clear := by simp only [ev]
theorem ev_isB {a : Ex} {b : Bool} : ev G (.isB a b) e S = (ev G a e S).bind (isBR b) := by simp only [ev]
theorem ev_any : ev G .any e S = .bad := by simp only [ev]
theorem ev_chn5 {o1 o2 o3 o4 : Cm} {a b c d f : Ex} : ev G (.chn5 o1 o2 o3 o4 a b c d f) e S = (ev G a e S).bind fun x S => (ev G b e S).bind fun y S => (cmpop o1 x y S).bind fun k S => brR k ((ev G c e S).bind fun z S => (cmpop o2 y z S).bind fun k S => brR k ((ev G d e S).bind fun w S => (cmpop o3 z w S).bind fun k S => brR k ((ev G f e S).bind fun u S => cmpop o4 w u S) (.ok (.bl false) S)) (.ok (.bl false) S)) (.ok (.bl false) S) := by
  simp only [ev]; rfl
theorem ev_ntB {a : Ex} {b : Bool} : ev G (.ntB a b) e S = (ev G a e S).bind (ntBR b) := by simp only [ev]
theorem ntBR_bl {b c : Bool} : ntBR b (.bl c) S = .ok (.bl (!decide (c = b))) S := rfl
theorem ev_dicT : ev G (.dic true) e S = alloc (.dT []) S := by simp only [ev, if_true]
theorem ev_dicF : ev G (.dic false) e S = alloc (.dK []) S := by simp [ev]
theorem ev_dgt {o k : Ex} : ev G (.dgt o k) e S = (ev G o e S).bind fun x S => (ev G k e S).bind fun y S => dgtR x y S := by simp only [ev]
theorem ev_din {n : Bool} {o k : Ex} : ev G (.din n k o) e S = (ev G k e S).bind fun y S => (ev G o e S).bind fun x S => dinR n y x S := by simp only [ev]
theorem ev_get1 {o k : Ex} : ev G (.get1 o k) e S = (ev G o e S).bind fun x S => if isDct x S = true then (ev G k e S).bind fun y S => getR x y .non S else .bad := by simp only [ev]
theorem ev_get2 {o k d : Ex} : ev G (.get2 o k d) e S = (ev G o e S).bind fun x S => if isDct x S = true then (ev G k e S).bind fun y S => (ev G d e S).bind fun z S => getR x y z S else .bad := by simp only [ev]
theorem ev_dpop {o k : Ex} : ev G (.dpop o k) e S = (ev G o e S).bind fun x S => if isDct x S = true then (ev G k e S).bind fun y S => dpopR x y S else .bad := by simp only [ev]
theorem ev_ixo {o a : Ex} : ev G (.ixo o a) e S = (ev G o e S).bind fun x S => if isLst x S = true then (ev G a e S).bind fun y S => ixoR x y S else .bad := by simp only [ev]
theorem ev_ins {o i a : Ex} : ev G (.ins o i a) e S = (ev G o e S).bind fun x S => if isLst x S = true then (ev G i e S).bind fun j S => (ev G a e S).bind fun y S => insR x j y S else .bad := by simp only [ev]
theorem ev_pop0 {o : Ex} : ev G (.pop0 o) e S = (ev G o e S).bind pop0R := by simp only [ev]
theorem ev_pop1 {o i : Ex} : ev G (.pop1 o i) e S = (ev G o e S).bind fun x S => if isLst x S = true then (ev G i e S).bind fun j S => pop1R x j S else .bad := by simp only [ev]
theorem isBR_bl {b c : Bool} : isBR b (.bl c) S = .ok (.bl (decide (c = b))) S := rfl
theorem ev_fld {a : Ex} {C f : Str} : ev G (.fld a C f) e S = (ev G a e S).bind (fldR C f) := by simp only [ev]
theorem ev_mth {o : Ex} {C m key : Str} {es : List Ex} : ev G (.mth o C m key es) e S = (ev G o e S).bind fun x S => if insOk C m x S = true then (evs G es e S).bind fun ds S => G.cl key (x :: ds) S else .bad := by simp only [ev]
theorem ev_mk {C key : Str} {es : List Ex} : ev G (.mk C key es) e S = (evs G es e S).bind fun ds S => (G.cl key (.ref S.length :: ds) (S ++ [.ins C []])).bind (madeR S.length) := by simp only [ev]
theorem madeR_non {n : Nat} : madeR n .non S = .ok (.ref n) S := rfl
theorem ev_xis {i : Nat} {C : Str} : ev G (.xis i C) e S = xisR G.exc (fun x => G.isc x C) S := by simp only [ev]
theorem ev_xcl {i : Nat} {f : Str} : ev G (.xcl i f) e S = xclR G.exc (fun c => G.clx f c S) := by simp only [ev]
theorem xclR_some {c : Exc} {g : Exc → R D} : xclR (some c) g = g c := rfl
theorem ev_xat {i : Nat} : ev G (.xat i) e S = xatR G.exc (fun x => (G.isc x x).isSome) S := by simp only [ev]
theorem ev_dsp {es : List Ex} : ev G (.dsp es) e S = (evs G es e S).bind dspR := by simp only [ev]
theorem ev_lc {own : List Nat} {t : Tg} {it : It} {el : Ex} : ev G (.lc own t it el) e S = (evI G it e S).bind fun j S => (lcGo t j none (ev G el) (wipeE e own) j.n 0 [] S).bind fun ds S => alloc (.lst ds) S := by simp only [ev]
theorem ev_lcI {own : List Nat} {t : Tg} {it : It} {c el : Ex} : ev G (.lcI own t it c el) e S = (evI G it e S).bind fun j S => (lcGo t j (some (ev G c)) (ev G el) (wipeE e own) j.n 0 [] S).bind fun ds S => alloc (.lst ds) S := by simp only [ev]
theorem evs_nil : evs G [] e S = .ok [] S := by simp only [evs]
theorem evs_cons {a : Ex} {l : List Ex} : evs G (a :: l) e S = (ev G a e S).bind fun x S => (evs G l e S).bind fun xs S => .ok (x :: xs) S := by simp only [evs]
def optR (x : Option α) (S : Store) : R α := match x with
  | some j => .ok j S
  | none => .bad
theorem optR_some {a : α} : optR (some a) S = .ok a S := rfl
theorem evI_seq {a : Ex} : evI G (.seq a) e S = (ev G a e S).bind fun x S => optR (seqItr x S) S := by
  simp only [evI]
  congr 1; funext x S
  cases seqItr x S <;> rfl
def rngR (x y : D) (S : Store) : R Itr := match x, y with
  | .int i, .int j => optR (rngItr i j) S
  | _, _ => .bad
theorem rngR_int {i j : Int} : rngR (.int i) (.int j) S = optR (rngItr i j) S := rfl
theorem evI_rng {a : Ex} : evI G (.rng a) e S = (ev G a e S).bind fun x S => rngR (.int 0) x S := by
  simp only [evI]
  congr 1
  funext x S
  cases x with
  | int i => show _ = optR (rngItr 0 i) S; simp only; cases rngItr 0 i <;> rfl
  | _ => rfl
theorem evI_rng2 {a b : Ex} : evI G (.rng2 a b) e S = (ev G a e S).bind fun x S => (ev G b e S).bind fun y S => rngR x y S := by
  simp only [evI]
  congr 1; funext x S
  congr 1; funext y S
  cases x with
  | int i => cases y with
    | int j => show _ = optR (rngItr i j) S; simp only; cases rngItr i j <;> rfl
    | _ => rfl
  | _ => rfl
theorem evI_enm {a : Ex} : evI G (.enm a) e S = (ev G a e S).bind fun x S => optR (lstItr x S (fun _ i => i) fun i d => .tup [.int i, d]) S := by
  simp only [evI]
  congr 1; funext x S
  cases lstItr x S (fun _ i => i) (fun i d => .tup [.int i, d]) <;> rfl
theorem evI_rvd {a : Ex} : evI G (.rvd a) e S = (ev G a e S).bind fun x S => optR (lstItr x S (fun n i => n - 1 - i) fun _ d => d) S := by
  simp only [evI]
  congr 1; funext x S
  cases lstItr x S (fun n i => n - 1 - i) (fun _ d => d) <;> rfl
theorem evI_zip {a b : Ex} : evI G (.zip a b) e S = (ev G a e S).bind fun x S => (ev G b e S).bind fun y S => optR (zipItr x y S) S := by
  simp only [evI]
  congr 1; funext x S
  congr 1; funext y S
  cases zipItr x y S <;> rfl
def bindS (t : Tg) (d : D) (e : Env) (S : Store) : SR := match bindT t d e S with
  | some e1 => .nx e1 S
  | none => .bad
theorem exS_asg {t : Tg} {a : Ex} : exS G (.asg t a) e S = (ev G a e S).toS e fun d S => bindS t d e S := by
  simp only [exS]; rfl
theorem bindS_name {i : Nat} {d : D} : bindS (.name i) d e S = if i < e.length then .nx (e.set i (some d)) S else .bad := by
  unfold bindS
  simp only [bindT]
  by_cases h : i < e.length
  · rw [if_pos h, if_pos h]
  · rw [if_neg h, if_neg h]
def unpR (is : List Nat) (x : Option (List D)) (e : Env) (S : Store) : SR := match x with
  | some xs => if xs.length = is.length then (match setAll is xs e with
    | some e1 => .nx e1 S
    | none => .bad) else .bad
  | none => .bad
theorem bindS_tup {is : List Nat} {d : D} : bindS (.tup is) d e S = unpR is (seqOf S d) e S := by
  unfold bindS unpR
  simp only [bindT]
  cases seqOf S d with
  | none => rfl
  | some xs =>
    simp only
    by_cases h : xs.length = is.length
    · rw [if_pos h, if_pos h]
    · rw [if_neg h, if_neg h]
theorem unpR_2 {i j : Nat} {x y : D} (h : i < e.length ∧ j < e.length) : unpR [i, j] (some [x, y]) e S = .nx ((e.set i (some x)).set j (some y)) S := by
  unfold unpR
  simp [setAll, h.1, h.2]
theorem unpR_3 {i j k : Nat} {x y z : D} (h : i < e.length ∧ j < e.length ∧ k < e.length) : unpR [i, j, k] (some [x, y, z]) e S = .nx (((e.set i (some x)).set j (some y)).set k (some z)) S := by
  unfold unpR
  simp [setAll, h.1, h.2.1, h.2.2]
theorem unpR_4 {i j k l : Nat} {x y z w : D} (h : i < e.length ∧ j < e.length ∧ k < e.length ∧ l < e.length) : unpR [i, j, k, l] (some [x, y, z, w]) e S = .nx ((((e.set i (some x)).set j (some y)).set k (some z)).set l (some w)) S := by
  unfold unpR
  simp [setAll, h.1, h.2.1, h.2.2.1, h.2.2.2]
theorem exS_par {i j : Nat} {a b : Ex} : exS G (.par i j a b) e S = (ev G a e S).toS e fun x S1 => (ev G b e S1).toS e fun y S2 => if i < e.length ∧ j < e.length then .nx ((e.set i (some x)).set j (some y)) S2 else .bad := by simp only [exS]
theorem exS_sub {o i a : Ex} : exS G (.sub o i a) e S = (ev G a e S).toS e fun v S1 => (ev G o e S1).toS e fun x S2 => (ev G i e S2).toS e fun k S3 => (setItem x k v S3).toS e fun _ S4 => .nx e S4 := by simp only [exS]
theorem exS_exp {a : Ex} : exS G (.exp a) e S = (ev G a e S).toS e fun _ S1 => .nx e S1 := by simp only [exS]
theorem exS_ite {c : Ex} {a b : List St} : exS G (.ite c a b) e S = (ev G c e S).toS e fun x S1 => brS x (exB G a e S1) (exB G b e S1) := by
  simp only [exS]; rfl
theorem exS_for {t : Tg} {it : It} {b : List St} : exS G (.forS t it b) e S = (evI G it e S).toS e fun j S1 => forGo t j (exB G b) j.n 0 e S1 := by simp only [exS]
theorem exS_whl {c : Ex} {b : List St} : exS G (.whl c b) e S = whGo (ev G c) (exB G b) G.fuel e S := by simp only [exS]
theorem exS_ret {a : Ex} : exS G (.ret a) e S = (ev G a e S).toS e fun d S1 => .ret d S1 := by simp only [exS]
theorem exS_retN : exS G .retN e S = .ret .non S := by simp only [exS]
theorem exS_brk : exS G .brk e S = .brk e S := by simp only [exS]
theorem exS_pass : exS G .pass e S = .nx e S := by simp only [exS]
theorem exS_stf {o a : Ex} {C f : Str} : exS G (.stf o C f a) e S = (ev G a e S).toS e fun v S1 => (ev G o e S1).toS e fun x S2 => (stfR C f x v S2).toS e fun _ S3 => .nx e S3 := by simp only [exS]
theorem exS_any : exS G .any e S = .bad := by simp only [exS]
theorem exS_dst {o k a : Ex} : exS G (.dst o k a) e S = (ev G a e S).toS e fun v S1 => (ev G o e S1).toS e fun x S2 => (ev G k e S2).toS e fun y S3 => (dstR x y v S3).toS e fun _ S4 => .nx e S4 := by simp only [exS]
theorem exS_rai {C : Str} : exS G (.rai C) e S = .exc ⟨C, none⟩ e S := by simp only [exS]
theorem wp_try {b : List St} {C : Str} {a : Ex} : WpS (exS G (.tryC b C a) e S) Z = WpS (exB G b e S) { Z with ex := fun c e1 S1 => (G.sub c.cls C = some true ∧ Wp (ev G a e1 S1) (fun _ _ => False) Z.rt) ∨ (G.sub c.cls C = some false ∧ Z.ex c e1 S1) } := by
  simp only [exS]
  cases exB G b e S with
  | nx e S => simp only [wpS_nx]
  | ret d S => simp only [wpS_ret]
  | brk e S => simp only [wpS_brk]
  | bad => simp only [wpS_bad]
  | exc c e1 S1 =>
    simp only [wpS_exc]
    cases G.sub c.cls C with
    | none => simp only [wpS_bad]; simp
    | some x =>
      cases x with
      | false => simp [wpS_exc]
      | true => cases ev G a e1 S1 <;> simp [wp_ok, wp_exc, wp_bad, wpS_ret, wpS_bad]
theorem exS_raiA {C : Str} {a : Ex} : exS G (.raiA C a) e S = (ev G a e S).toS e fun d S1 => .exc ⟨C, some d⟩ e S1 := by simp only [exS]
theorem exS_par3 {i j l : Nat} {a b c : Ex} : exS G (.par3 i j l a b c) e S = (ev G a e S).toS e fun x S1 => (ev G b e S1).toS e fun y S2 => (ev G c e S2).toS e fun z S3 => if i < e.length ∧ j < e.length ∧ l < e.length then .nx (((e.set i (some x)).set j (some y)).set l (some z)) S3 else .bad := by simp only [exS]
theorem exB_nil : exB G [] e S = .nx e S := by simp only [exB]
theorem wp_cons {s : St} {l : List St} : WpS (exB G (s :: l) e S) Z = WpS (exS G s e S) { Z with nx := fun e S => WpS (exB G l e S) Z } := by
  rw [exB]
  cases exS G s e S with
  | nx e S => simp only [wpS_nx]
  | ret d S => simp only [wpS_ret]
  | brk e S => simp only [wpS_brk]
  | exc c e S => simp only [wpS_exc]
  | bad => simp only [wpS_bad]
theorem wp_app {l1 l2 : List St} : WpS (exB G (l1 ++ l2) e S) Z = WpS (exB G l1 e S) { Z with nx := fun e S => WpS (exB G l2 e S) Z } := by
  induction l1 generalizing e S with
  | nil => rw [List.nil_append, exB_nil, wpS_nx]
  | cons a l ih =>
    rw [List.cons_append, wp_cons, wp_cons]
    congr 2
    funext e S
    exact ih
theorem padD_all {m : Def} {ds : List D} (h : ds.length = m.ps.length) : padD m ds = ds := by
  unfold padD
  rw [h]
  simp
theorem wp_callD {P : Prog} {F k : Nat} {f : Str} {m : Def} {ds es : List D} {Q : D → Store → Prop} (h : P.defs.lookup f = some m) (hp : padD m ds = es) (hl : es.length = m.ps.length)
    (w : WpS (exB (P.cx F (callN P F k)) m.body (es.map some ++ List.replicate (m.ns.length - es.length) none) S) { nx := fun _ S => Q .non S, rt := Q, ex := fun c _ S => E c S }) : Wp (callN P F (k + 1) f ds S) E Q := by
  rw [callN, h]
  simp only
  rw [hp, if_pos hl]
  revert w
  cases exB (P.cx F (callN P F k)) m.body (es.map some ++ List.replicate (m.ns.length - es.length) none) S 
  · rw [wpS_nx]; exact fun w => by show Wp (.ok .non _) E Q; rw [wp_ok]; exact w
  · rw [wpS_ret]; exact fun w => by show Wp (.ok _ _) E Q; rw [wp_ok]; exact w
  · rw [wpS_brk]; exact fun w => w.elim
  · rw [wpS_exc]; exact fun w => by show Wp (.exc _ _) E Q; rw [wp_exc]; exact w
  · rw [wpS_bad]; exact fun w => w.elim
theorem wp_callN {P : Prog} {F k : Nat} {f : Str} {m : Def} {ds : List D} {Q : D → Store → Prop} (h : P.defs.lookup f = some m) (hl : ds.length = m.ps.length)
    (w : WpS (exB (P.cx F (callN P F k)) m.body (ds.map some ++ List.replicate (m.ns.length - ds.length) none) S) { nx := fun _ S => Q .non S, rt := Q, ex := fun c _ S => E c S }) : Wp (callN P F (k + 1) f ds S) E Q := wp_callD h (padD_all hl) hl w
theorem cx_cl {P : Prog} {F : Nat} {c : Str → List D → Store → R D} : (P.cx F c).cl = c := rfl
theorem cx_clx {P : Prog} {F : Nat} {c : Str → List D → Store → R D} : (P.cx F c).clx = P.clx := rfl
theorem cx_fuel {P : Prog} {F : Nat} {c : Str → List D → Store → R D} : (P.cx F c).fuel = F := rfl
theorem wh_rule {c : Env → Store → R D} {b : Env → Store → SR} (I : Env → Store → Prop) (m : Env → Store → Nat)
    (h : ∀ e S, I e S → Wp (c e S) (fun c S => Z.ex c e S) fun d S1 => (d = .bl true ∧ WpS (b e S1) { nx := fun e' S' => I e' S' ∧ m e' S' < m e S, rt := Z.rt, bk := Z.nx, ex := Z.ex }) ∨ (d = .bl false ∧ Z.nx e S1)) :
    ∀ (n : Nat) (e : Env) (S : Store), I e S → m e S < n → WpS (whGo c b n e S) Z
  | 0, _, _, _, hn => absurd hn (Nat.not_lt_zero _)
  | n + 1, e, S, i, hn => by
    unfold whGo
    rw [wpS_toS]
    refine (h e S i).imp fun d S1 h1 => ?_
    rcases h1 with ⟨rfl, h1⟩ | ⟨rfl, h1⟩
    · simp only
      cases hb : b e S1 with
      | nx e2 S2 =>
        rw [hb, wpS_nx] at h1
        exact wh_rule I m h n e2 S2 h1.1 (by omega)
      | ret d S2 => rw [hb, wpS_ret] at h1; rw [wpS_ret]; exact h1
      | brk e2 S2 => rw [hb, wpS_brk] at h1; rw [wpS_nx]; exact h1
      | exc c e2 S2 => rw [hb, wpS_exc] at h1; rw [wpS_exc]; exact h1
      | bad => rw [hb, wpS_bad] at h1; exact h1.elim
    · simp only; rw [wpS_nx]; exact h1
theorem for_rule {t : Tg} {it : Itr} {b : Env → Store → SR} (I : Nat → Env → Store → Prop) (N : Nat)
    (step : ∀ i e S, i < N → I i e S → ∃ d e1, it.at_ i S = some d ∧ bindT t d e S = some e1 ∧ WpS (b e1 S) { nx := I (i + 1), rt := Z.rt, bk := Z.nx, ex := Z.ex })
    (fin : ∀ e S, I N e S → it.fin S = true ∧ Z.nx e S) :
    ∀ (k i : Nat) (e : Env) (S : Store), i + k = N → I i e S → WpS (forGo t it b k i e S) Z
  | 0, i, e, S, hi, h => by
    have : i = N := by omega
    subst this
    unfold forGo
    obtain ⟨f1, f2⟩ := fin e S h
    rw [if_pos f1, wpS_nx]
    exact f2
  | k + 1, i, e, S, hi, h => by
    obtain ⟨d, e1, h1, h2, h3⟩ := step i e S (by omega) h
    unfold forGo
    rw [h1]
    simp only
    rw [h2]
    simp only
    cases hb : b e1 S with
    | nx e2 S2 =>
      rw [hb, wpS_nx] at h3
      exact for_rule I N step fin k (i + 1) e2 S2 (by omega) h3
    | ret d S2 => rw [hb, wpS_ret] at h3; simp only; rw [wpS_ret]; exact h3
    | brk e2 S2 => rw [hb, wpS_brk] at h3; simp only; rw [wpS_nx]; exact h3
    | exc c e2 S2 => rw [hb, wpS_exc] at h3; simp only; rw [wpS_exc]; exact h3
    | bad => rw [hb, wpS_bad] at h3; exact h3.elim
def Ext (S S' : Store) : Prop := ∃ T, S' = S ++ T
theorem Ext.refl : Ext S S := ⟨[], by simp⟩
theorem Ext.trans {S1 S2 S3 : Store} (a : Ext S1 S2) (b : Ext S2 S3) : Ext S1 S3 := by
  obtain ⟨T, rfl⟩ := a
  obtain ⟨T2, rfl⟩ := b
  exact ⟨T ++ T2, by simp⟩
theorem Ext.len (a : Ext S S') : S.length ≤ S'.length := by
  obtain ⟨T, rfl⟩ := a
  simp
theorem Ext.app {c : List Cell} (a : Ext S S') : Ext S (S' ++ c) := by
  obtain ⟨T, rfl⟩ := a
  exact ⟨T ++ c, by simp⟩
theorem Ext.one {c : List Cell} : Ext S (S ++ c) := ⟨c, rfl⟩
theorem Ext.set (a : Ext S S') {n : Nat} {c : Cell} (h : S.length ≤ n) : Ext S (S'.set n c) := by
  obtain ⟨T, rfl⟩ := a
  exact ⟨T.set (n - S.length) c, by rw [List.set_append_right _ _ h]⟩
theorem getL_lt {r : Nat} {xs : List D} (h : getL S r = some xs) : r < S.length := by
  unfold getL at h
  split at h
  · rename_i e; exact (List.getElem?_eq_some_iff.mp e).1
  · cases h
theorem Ext.getL (a : Ext S S') {r : Nat} {xs : List D} (h : getL S r = some xs) : getL S' r = some xs := by
  have hr := getL_lt h
  obtain ⟨T, rfl⟩ := a
  unfold Lt.getL at h ⊢
  rw [List.getElem?_append_left hr]
  exact h
theorem Ext.lstOf (a : Ext S S') {d : D} {xs : List D} (h : lstOf S d = some xs) : lstOf S' d = some xs := by
  unfold Lt.lstOf at h ⊢
  cases d <;> first | exact a.getL h | exact h
theorem Ext.seqOf (a : Ext S S') {d : D} {xs : List D} (h : seqOf S d = some xs) : seqOf S' d = some xs := by
  unfold Lt.seqOf at h ⊢
  cases d <;> first | exact a.getL h | exact h
theorem getL_new {xs : List D} : getL (S ++ [.lst xs]) S.length = some xs := by
  unfold getL; simp
theorem getL_set {r : Nat} {xs : List D} (h : r < S.length) : getL (S.set r (.lst xs)) r = some xs := by
  unfold getL; rw [List.getElem?_set_self h]
theorem getL_set_ne {r q : Nat} {c : Cell} (h : r ≠ q) : getL (S.set r c) q = getL S q := by
  unfold getL; rw [List.getElem?_set_ne h]
theorem lstOf_ref {n : Nat} : lstOf S (.ref n) = getL S n := rfl
theorem lstOf_frl {xs : List D} : lstOf S (.frl xs) = some xs := rfl
theorem seqOf_ref {n : Nat} : seqOf S (.ref n) = getL S n := rfl
theorem seqOf_frl {xs : List D} : seqOf S (.frl xs) = some xs := rfl
theorem seqOf_tup {xs : List D} : seqOf S (.tup xs) = some xs := rfl
theorem lst_seq {d : D} {xs : List D} (h : lstOf S d = some xs) : seqOf S d = some xs := by
  unfold lstOf at h
  unfold seqOf
  cases d <;> first | exact h | cases h
end
end Lt
namespace Lt
open PySem (Str)
section
variable {α β : Type} {r : R α} {E E' : XP} {Q Q' : α → Store → Prop} {Z Z' : Zs} {S S' : Store} {e e' : Env} {G : Cxt} {p : Prop} [Decidable p]
theorem bo_add {i j : Int} : binop .add (.int i) (.int j) S = .ok (.int (i + j)) S := rfl
theorem bo_sub {i j : Int} : binop .sub (.int i) (.int j) S = .ok (.int (i - j)) S := rfl
theorem bo_mul {i j : Int} : binop .mul (.int i) (.int j) S = if Sm i j then .ok (.int (i * j)) S else .bad := rfl
theorem bo_div {i j : Int} : binop .fdiv (.int i) (.int j) S = if j ≠ 0 ∧ j.natAbs.log2 < 9000 then .ok (.int (i.fdiv j)) S else .bad := rfl
theorem bo_mod {i j : Int} : binop .mod (.int i) (.int j) S = if j ≠ 0 then .ok (.int (i.fmod j)) S else .bad := rfl
theorem bo_pow {i j : Int} : binop .pow (.int i) (.int j) S = if 0 ≤ j ∧ j ≤ 1000000 ∧ i.natAbs < 2 ^ 64 then .ok (.int (i ^ j.toNat)) S else .bad := rfl
def catR (x y : Option (List D)) (S : Store) : R D := match x, y with
  | some xs, some ys => if xs.length + ys.length ≤ lim then alloc (.lst (xs ++ ys)) S else .bad
  | _, _ => .bad
theorem bo_cat {a b : Nat} : binop .add (.ref a) (.ref b) S = catR (getL S a) (getL S b) S := rfl
theorem catR_some {xs ys : List D} : catR (some xs) (some ys) S = if xs.length + ys.length ≤ lim then alloc (.lst (xs ++ ys)) S else .bad := rfl
theorem bo_catT {xs ys : List D} : binop .add (.tup xs) (.tup ys) S = if xs.length + ys.length ≤ lim then .ok (.tup (xs ++ ys)) S else .bad := rfl
def repR (x : Option (List D)) (j : Int) (S : Store) : R D := match x with
  | some xs => if 0 ≤ j ∧ j ≤ 100000 ∧ xs.length * j.toNat ≤ lim then alloc (.lst (List.replicate j.toNat xs).flatten) S else .bad
  | _ => .bad
theorem bo_rep {a : Nat} {j : Int} : binop .mul (.ref a) (.int j) S = repR (getL S a) j S := rfl
theorem repR_some {xs : List D} {j : Int} : repR (some xs) j S = if 0 ≤ j ∧ j ≤ 100000 ∧ xs.length * j.toNat ≤ lim then alloc (.lst (List.replicate j.toNat xs).flatten) S else .bad := rfl
theorem cm_lt {i j : Int} : cmpop .lt (.int i) (.int j) S = .ok (.bl (decide (i < j))) S := rfl
theorem cm_le {i j : Int} : cmpop .le (.int i) (.int j) S = .ok (.bl (decide (i ≤ j))) S := rfl
theorem cm_gt {i j : Int} : cmpop .gt (.int i) (.int j) S = .ok (.bl (decide (j < i))) S := rfl
theorem cm_ge {i j : Int} : cmpop .ge (.int i) (.int j) S = .ok (.bl (decide (j ≤ i))) S := rfl
def eqR (x : Option Bool) (S : Store) : R D := match x with
  | some b => .ok (.bl b) S
  | none => .bad
def neR (x : Option Bool) (S : Store) : R D := match x with
  | some b => .ok (.bl (!b)) S
  | none => .bad
theorem eqR_some {b : Bool} : eqR (some b) S = .ok (.bl b) S := rfl
theorem neR_some {b : Bool} : neR (some b) S = .ok (.bl (!b)) S := rfl
theorem cm_eq {x y : D} : cmpop .eq x y S = eqR (eqD S x y) S := by
  unfold cmpop eqR; cases eqD S x y <;> rfl
theorem cm_ne {x y : D} : cmpop .ne x y S = neR (eqD S x y) S := by
  unfold cmpop neR; cases eqD S x y <;> rfl
theorem eqD_int {i j : Int} : eqD S (.int i) (.int j) = some (decide (i = j)) := by
  unfold eqD
  simp [toP, PySem.PyData.eqv]
  try rfl
theorem eqD_str {s t : Str} (h1 : PySem.PyData.canLay0 (.str s) = true) (h2 : PySem.PyData.canLay0 (.str t) = true) : eqD S (.str s) (.str t) = some (decide (s = t)) := by
  unfold eqD
  simp [toP, h1, h2, PySem.PyData.eqv]
  try rfl
theorem eqD_pair {a b c d : Int} : eqD S (.tup [.int a, .int b]) (.tup [.int c, .int d]) = some (decide (a = c ∧ b = d)) := by
  unfold eqD
  simp only [toP, mapO, Option.map_some]
  congr 1
  simp only [PySem.PyData.eqv, PySem.PyData.eqvAll, Bool.and_true, Bool.decide_and]
  rfl
/-- an item of a row of known length -/
def itemR (x : Option (List D)) (i : Int) (S : Store) : R D := match x with
  | some xs => match L2.atI xs i with
    | some d => .ok d S
    | none => .bad
  | none => .bad
theorem item_eq {x : D} {i : Int} : item x (.int i) S = itemR (seqOf S x) i S := by
  unfold item itemR
  cases seqOf S x <;> rfl
theorem itemR_nat {xs : List D} {i : Nat} {d : D} (h : xs[i]? = some d) : itemR (some xs) (i : Int) S = .ok d S := by
  unfold itemR L2.atI L2.ixN
  have hi : i < xs.length := (List.getElem?_eq_some_iff.mp h).1
  have h9 : (if (0 : Int) ≤ i then if (i : Int) < xs.length then some (i : Int).toNat else none else if -(xs.length : Int) ≤ i then some ((i : Int) + xs.length).toNat else none) = some i := by
    rw [if_pos (by omega), if_pos (by omega)]; simp
  simp only [h9, Option.bind_some, h]
theorem itemR_int {xs : List D} {i : Int} {d : D} (h0 : 0 ≤ i) (h : xs[i.toNat]? = some d) : itemR (some xs) i S = .ok d S := by
  obtain ⟨n, rfl⟩ := Int.eq_ofNat_of_zero_le h0
  exact itemR_nat (by simpa using h)
theorem itemR_back {xs : List D} {i : Nat} {d : D} (hi : i < xs.length) (h : xs[xs.length - 1 - i]? = some d) : itemR (some xs) (-((i : Int) + 1)) S = .ok d S := by
  unfold itemR L2.atI L2.ixN
  have h1 : ¬ (0 : Int) ≤ -((i : Int) + 1) := by omega
  have h2 : -(xs.length : Int) ≤ -((i : Int) + 1) := by omega
  have h3 : (-((i : Int) + 1) + (xs.length : Int)).toNat = xs.length - 1 - i := by omega
  simp only [if_neg h1, if_pos h2, h3, Option.bind_some, h]
theorem itemR_c0 {x : D} {xs : List D} : itemR (some (x :: xs)) 0 S = .ok x S := itemR_nat (i := 0) rfl
theorem itemR_c1 {x y : D} {xs : List D} : itemR (some (x :: y :: xs)) 1 S = .ok y S := itemR_nat (i := 1) rfl
theorem itemR_c2 {x y z : D} {xs : List D} : itemR (some (x :: y :: z :: xs)) 2 S = .ok z S := itemR_nat (i := 2) rfl
theorem itemR_c3 {x y z w : D} {xs : List D} : itemR (some (x :: y :: z :: w :: xs)) 3 S = .ok w S := itemR_nat (i := 3) rfl
def sliceR (x : Option (List D)) (lo hi : Option Int) (S : Store) : R D := match x with
  | some xs => alloc (.lst (cutD xs lo hi)) S
  | none => .bad
def slcR (x : D) (lo hi : Option Int) (S : Store) : R D := match x with
  | .tup xs => .ok (.tup (cutD xs lo hi)) S
  | .str z => if z.length ≤ lim then .ok (.str (PySem.Txt.slice z lo hi)) S else .bad
  | x => sliceR (lstOf S x) lo hi S
theorem slcR_str {z : Str} {lo hi : Option Int} : slcR (.str z) lo hi S = if z.length ≤ lim then .ok (.str (PySem.Txt.slice z lo hi)) S else .bad := rfl
theorem slcR_ref {n : Nat} {lo hi : Option Int} : slcR (.ref n) lo hi S = sliceR (getL S n) lo hi S := rfl
theorem slcR_frl {xs : List D} {lo hi : Option Int} : slcR (.frl xs) lo hi S = sliceR (some xs) lo hi S := rfl
theorem slcR_tup {xs : List D} {lo hi : Option Int} : slcR (.tup xs) lo hi S = .ok (.tup (cutD xs lo hi)) S := rfl
theorem slcR_lst {d : D} {xs : List D} {lo hi : Option Int} (h : lstOf S d = some xs) : slcR d lo hi S = sliceR (some xs) lo hi S := by
  cases d with
  | ref n =>
    have h : getL S n = some xs := h
    show sliceR (getL S n) lo hi S = _; rw [h]
  | frl ys => cases h; rfl
  | _ => cases h
theorem slice_gen {x : D} {lo hi : Option D} {l h : Option Int} (e1 : intO lo = some l) (e2 : intO hi = some h) : slice x lo hi S = slcR x l h S := by
  have gen : ∀ o : Option (List D), (match o, intO lo, intO hi with
    | some xs, some l, some h => alloc (.lst (cutD xs l h)) S
    | _, _, _ => R.bad) = sliceR o l h S := fun o => by
    rw [e1, e2]; cases o <;> rfl
  cases x with
  | tup xs =>
    show (match intO lo, intO hi with
      | some l, some h => R.ok (D.tup (cutD xs l h)) S
      | _, _ => R.bad) = _
    rw [e1, e2]; rfl
  | str z =>
    show (match intO lo, intO hi with
      | some l, some h => if z.length ≤ lim then R.ok (D.str (PySem.Txt.slice z l h)) S else R.bad
      | _, _ => R.bad) = _
    rw [e1, e2]; rfl
  | ref n => exact gen (getL S n)
  | frl ys => exact gen (some ys)
  | _ => exact gen none
theorem slice_T {x : D} {i : Int} : slice x none (some (.int i)) S = slcR x none (some i) S := slice_gen rfl rfl
theorem slice_F {x : D} {i : Int} : slice x (some (.int i)) none S = slcR x (some i) none S := slice_gen rfl rfl
theorem slice_B {x : D} {i j : Int} : slice x (some (.int i)) (some (.int j)) S = slcR x (some i) (some j) S := slice_gen rfl rfl
theorem sliceR_some {xs : List D} {lo hi : Option Int} : sliceR (some xs) lo hi S = alloc (.lst (cutD xs lo hi)) S := rfl
theorem alloc_eq {c : Cell} : alloc c S = .ok (.ref S.length) (S ++ [c]) := rfl
theorem len_tup {xs : List D} : biop .len [.tup xs] S = .ok (.int xs.length) S := rfl
theorem len_frl {xs : List D} : biop .len [.frl xs] S = .ok (.int xs.length) S := rfl
def lenD (x : Option (List D)) (n : Nat) (S : Store) : R D := match x with
  | some xs => .ok (.int xs.length) S
  | none => biop .len [.ref n] S
theorem lenD_some {xs : List D} {n : Nat} : lenD (some xs) n S = .ok (.int xs.length) S := rfl
theorem len_ref {n : Nat} : biop .len [.ref n] S = lenD (getL S n) n S := by
  unfold lenD
  cases h : getL S n with
  | none => rfl
  | some xs =>
    unfold biop
    unfold getL at h
    split at h
    · rename_i ys e
      cases h
      simp only [lenO, e]
    · cases h
theorem bi_abs {i : Int} : biop .abs [.int i] S = .ok (.int i.natAbs) S := by
  unfold biop
  simp only
  congr 2
  split <;> omega
theorem bi_intI {i : Int} : biop .int [.int i] S = .ok (.int i) S := rfl
theorem bi_intB {b : Bool} : biop .int [.bl b] S = .ok (.int (if b = true then 1 else 0)) S := rfl
theorem bi_max {i j : Int} : biop .max [.int i, .int j] S = .ok (.int (if j > i then j else i)) S := rfl
theorem bi_min {i j : Int} : biop .min [.int i, .int j] S = .ok (.int (if j < i then j else i)) S := rfl
def listR (x : Option (List D)) (S : Store) : R D := match x with
  | some xs => alloc (.lst xs) S
  | none => .bad
def tupR (x : Option (List D)) (S : Store) : R D := match x with
  | some xs => .ok (.tup xs) S
  | none => .bad
theorem listR_some {xs : List D} : listR (some xs) S = alloc (.lst xs) S := rfl
theorem tupR_some {xs : List D} : tupR (some xs) S = .ok (.tup xs) S := rfl
theorem bi_list {x : D} : biop .list [x] S = listR (seqOf S x) S := by
  unfold biop listR; cases h : seqOf S x <;> simp [h]
theorem bi_tupleT {xs : List D} : biop .tuple [.tup xs] S = .ok (.tup xs) S := rfl
theorem bi_tupleF {xs : List D} : biop .tuple [.frl xs] S = .ok (.tup xs) S := rfl
theorem bi_tupleR {n : Nat} : biop .tuple [.ref n] S = tupR (getL S n) S := by
  unfold biop tupR
  simp only [lstOf]
  try (cases getL S n <;> rfl)
theorem isIR_non {t : Ty} : isIR t .non S = .ok (.bl false) S := rfl
variable {t : Ty}
theorem isIR_bl {b : Bool} : isIR t (.bl b) S = .ok (.bl (match t with | .bool => true | .int => true | _ => false)) S := rfl
theorem isIR_int {i : Int} : isIR t (.int i) S = .ok (.bl (match t with | .int => true | _ => false)) S := rfl
theorem isIR_str {s : Str} : isIR t (.str s) S = .ok (.bl (match t with | .str => true | _ => false)) S := rfl
theorem isIR_tup {xs : List D} : isIR t (.tup xs) S = .ok (.bl (match t with | .tuple => true | _ => false)) S := rfl
theorem isIR_frl {xs : List D} : isIR t (.frl xs) S = .ok (.bl (match t with | .list => true | _ => false)) S := rfl
def appR (x : Option (List D)) (r : Nat) (a : D) (S : Store) : R D := match x with
  | some xs => if xs.length < lim then .ok .non (S.set r (.lst (xs ++ [a]))) else .bad
  | none => .bad
theorem app_ref {r : Nat} {a : D} : append (.ref r) a S = appR (getL S r) r a S := by
  unfold append appR; cases h : getL S r <;> simp [h]
theorem appR_some {r : Nat} {a : D} {xs : List D} : appR (some xs) r a S = if xs.length < lim then .ok .non (S.set r (.lst (xs ++ [a]))) else .bad := rfl
theorem isLst_ref {n : Nat} : isLst (.ref n) S = (getL S n).isSome := rfl
theorem seqItr_some {d : D} {xs : List D} (h : seqOf S d = some xs) : ∃ j, seqItr d S = some j ∧ j.n = xs.length ∧ (∀ i S', seqOf S' d = some xs → j.at_ i S' = xs[i]?) ∧ (∀ S', seqOf S' d = some xs → j.fin S' = true) := by
  unfold seqItr
  rw [h]
  refine ⟨_, rfl, rfl, fun i S' h' => ?_, fun S' h' => ?_⟩
  · simp [h']
  · simp [h']
theorem rngItr_ok {i j : Int} (h1 : -(2 ^ 62) ≤ i) (h2 : i < 2 ^ 62) (h3 : -(2 ^ 62) ≤ j) (h4 : j < 2 ^ 62) : rngItr i j = some ⟨(j - i).toNat, fun k _ => some (.int (i + k)), fun _ => true⟩ := by
  unfold rngItr
  rw [if_pos ⟨h1, h2, h3, h4⟩]
end
/-- all that runs by rewriting -/
def wpx := And.intro @wp_ok <| And.intro @wp_exc <| And.intro @wp_bad <| And.intro @wp_bind <| And.intro @wp_ite <| And.intro @wpS_nx <| And.intro @wpS_ret <| And.intro @wpS_brk <| And.intro @wpS_exc <| And.intro @wpS_bad <| And.intro @wpS_ite <| And.intro @wpS_toS <| And.intro @ev_xis <| And.intro @ev_xcl <| And.intro @xclR_some <| And.intro @cx_clx <| And.intro @ev_xat <| And.intro @exS_raiA <| And.intro @ev_dsp <| And.intro @evI_zip <| And.intro @exS_par3 <|
  And.intro @brR_bl <| And.intro @brS_bl <| And.intro @notR_bl <| And.intro @negR_int <| And.intro @ev_int <| And.intro @ev_str <| And.intro @ev_bl <| And.intro @ev_non <| And.intro @ev_var <| And.intro @varR_some <| And.intro @ev_bin <| And.intro @ev_neg <| And.intro @ev_not <|
  And.intro @ev_and <| And.intro @ev_or <| And.intro @ev_cmp <| And.intro @ev_chn <| And.intro @ev_chn4 <| And.intro @ev_isN <| And.intro @ev_ntN <| And.intro @ev_ife <| And.intro @ev_tup <| And.intro @ev_lst <| And.intro @ev_idx <| And.intro @ev_slT <| And.intro @ev_slF <| And.intro @ev_slB <| And.intro @ev_rev <|
  And.intro @ev_call <| And.intro @ev_bi <| And.intro @ev_isI <| And.intro @ev_app <| And.intro @ev_ext <| And.intro @ev_clr <| And.intro @ev_isB <| And.intro @isBR_bl <| And.intro @ev_any <| And.intro @ev_chn5 <| And.intro @ev_ntB <| And.intro @ntBR_bl <| And.intro @ev_dicT <| And.intro @ev_dicF <| And.intro @ev_dgt <| And.intro @ev_din <| And.intro @ev_get1 <| And.intro @ev_get2 <| And.intro @ev_dpop <| And.intro @ev_ixo <| And.intro @ev_ins <| And.intro @ev_pop0 <| And.intro @ev_pop1 <| And.intro @exS_any <| And.intro @exS_dst <| And.intro @ev_fld <| And.intro @ev_mth <| And.intro @ev_mk <| And.intro @madeR_non <| And.intro @exS_stf <| And.intro @ev_lc <| And.intro @ev_lcI <| And.intro @evs_nil <| And.intro @evs_cons <| And.intro @optR_some <| And.intro @evI_seq <| And.intro @rngR_int <| And.intro @evI_rng <|
  And.intro @evI_rng2 <| And.intro @evI_enm <| And.intro @evI_rvd <| And.intro @exS_asg <| And.intro @bindS_name <| And.intro @bindS_tup <| And.intro @unpR_2 <| And.intro @unpR_3 <| And.intro @unpR_4 <| And.intro @exS_par <| And.intro @exS_sub <| And.intro @exS_exp <| And.intro @exS_ite <| And.intro @exS_for <| And.intro @exS_whl <| And.intro @exS_ret <| And.intro @exS_retN <| And.intro @exS_brk <|
  And.intro @exS_pass <| And.intro @exS_rai <| And.intro @wp_try <| And.intro @exB_nil <| And.intro @wp_cons <| And.intro @cx_cl <| @cx_fuel
def wpo := And.intro @bo_add <| And.intro @bo_sub <| And.intro @bo_mul <| And.intro @bo_div <| And.intro @bo_mod <| And.intro @bo_pow <| And.intro @bo_cat <| And.intro @bo_catT <| And.intro @catR_some <| And.intro @bo_rep <| And.intro @repR_some <| And.intro @cm_lt <| And.intro @cm_le <| And.intro @cm_gt <| And.intro @cm_ge <|
  And.intro @eqR_some <| And.intro @neR_some <| And.intro @cm_eq <| And.intro @cm_ne <| And.intro @eqD_int <| And.intro @eqD_pair <| And.intro @item_eq <| And.intro @itemR_c0 <| And.intro @itemR_c1 <| And.intro @itemR_c2 <| And.intro @itemR_c3 <| And.intro @slice_T <| And.intro @slice_F <| And.intro @slice_B <| And.intro @slcR_ref <| And.intro @slcR_frl <| And.intro @slcR_tup <| And.intro @slcR_str <|
  And.intro @sliceR_some <| And.intro @alloc_eq <| And.intro @lenD_some <| And.intro @len_tup <| And.intro @len_frl <| And.intro @len_ref <| And.intro @bi_abs <| And.intro @bi_intI <| And.intro @bi_intB <| And.intro @bi_max <| And.intro @bi_min <| And.intro @listR_some <| And.intro @tupR_some <| And.intro @bi_list <|
  And.intro @bi_tupleT <| And.intro @bi_tupleF <| And.intro @bi_tupleR <| And.intro @isIR_non <| And.intro @isIR_bl <| And.intro @isIR_int <| And.intro @isIR_str <| And.intro @isIR_tup <| And.intro @isIR_frl <| And.intro @app_ref <| And.intro @appR_some <| And.intro @isLst_ref <| And.intro @seqOf_tup <| And.intro @seqOf_frl <| And.intro @seqOf_ref <| And.intro @lstOf_ref <| And.intro @lstOf_frl <| @getL_new
end Lt
namespace Lt
open PySem (Str)
section
variable {α : Type} {S S' : Store} {e : Env} {E : XP} {Z : Zs}
/-- a loop over a sequence -/
theorem for_seq {t : Tg} {d : D} {xs : List D} {b : Env → Store → SR} {X : XP} (I : Nat → Env → Store → Prop) (h : seqOf S d = some xs) (h0 : I 0 e S)
    (step : ∀ i x e S, xs[i]? = some x → i < xs.length → I i e S → seqOf S d = some xs ∧ ∃ e1, bindT t x e S = some e1 ∧ WpS (b e1 S) { nx := I (i + 1), rt := Z.rt, bk := Z.nx, ex := Z.ex })
    (fin : ∀ e S, I xs.length e S → seqOf S d = some xs ∧ Z.nx e S) : Wp (optR (seqItr d S) S) X fun j S1 => WpS (forGo t j b j.n 0 e S1) Z := by
  obtain ⟨j, h1, h2, h3, h4⟩ := seqItr_some h
  rw [h1, optR_some, wp_ok]
  refine for_rule I xs.length (fun i e S hi hI => ?_) (fun e S hI => ?_) j.n 0 e S (by omega) h0
  · obtain ⟨g1, e1, g2, g3⟩ := step i xs[i] e S (by simp [hi]) hi hI
    exact ⟨xs[i], e1, by rw [h3 i S g1]; simp [hi], g2, g3⟩
  · obtain ⟨g1, g2⟩ := fin e S hI
    exact ⟨h4 S g1, g2⟩
/-- a loop over a range -/
theorem for_rng {t : Tg} {lo hi : Int} {b : Env → Store → SR} {X : XP} (I : Nat → Env → Store → Prop) (h1 : -(2 ^ 62) ≤ lo) (h2 : lo < 2 ^ 62) (h3 : -(2 ^ 62) ≤ hi) (h4 : hi < 2 ^ 62) (h0 : I 0 e S)
    (step : ∀ (i : Nat) e S, (i : Int) < hi - lo → I i e S → ∃ e1, bindT t (.int (lo + i)) e S = some e1 ∧ WpS (b e1 S) { nx := I (i + 1), rt := Z.rt, bk := Z.nx, ex := Z.ex })
    (fin : ∀ e S, I (hi - lo).toNat e S → Z.nx e S) : Wp (optR (rngItr lo hi) S) X fun j S1 => WpS (forGo t j b j.n 0 e S1) Z := by
  rw [rngItr_ok h1 h2 h3 h4, optR_some, wp_ok]
  refine for_rule I (hi - lo).toNat (fun i e S hi' hI => ?_) (fun e S hI => ?_) _ 0 e S (by simp) h0
  · obtain ⟨e1, g2, g3⟩ := step i e S (by omega) hI
    exact ⟨_, e1, rfl, g2, g3⟩
  · exact ⟨rfl, fin e S hI⟩
theorem wp_bindX {α β : Type} {r : R α} {k : α → Store → R β} {E : XP} {Q : β → Store → Prop} (h : Wp r (fun _ _ => False) fun a S => Wp (k a S) E Q) : Wp (r.bindX k) E Q := by
  cases r with
  | ok a S => rw [wp_ok] at h; exact h
  | exc c S => rw [wp_exc] at h; exact h.elim
  | bad => rw [wp_bad] at h; exact h.elim
/-- turns of a comprehension without a test -/
theorem lc_rule {t : Tg} {it : Itr} {el : Env → Store → R D} {X : XP} {Q : List D → Store → Prop} (I : Nat → List D → Store → Prop) (N : Nat)
    (step : ∀ i acc S, i < N → I i acc S → ∃ d e1, it.at_ i S = some d ∧ bindT t d e S = some e1 ∧ Wp (el e1 S) (fun _ _ => False) fun y S2 => acc.length < lim ∧ I (i + 1) (acc ++ [y]) S2)
    (fin : ∀ acc S, I N acc S → it.fin S = true ∧ Q acc S) :
    ∀ (k i : Nat) (acc : List D) (S : Store), i + k = N → I i acc S → Wp (lcGo t it none el e k i acc S) X Q
  | 0, i, acc, S, hi, h => by
    have : i = N := by omega
    subst this
    unfold lcGo
    obtain ⟨f1, f2⟩ := fin acc S h
    rw [if_pos f1, wp_ok]
    exact f2
  | k + 1, i, acc, S, hi, h => by
    obtain ⟨d, e1, h1, h2, h3⟩ := step i acc S (by omega) h
    unfold lcGo
    rw [h1]
    simp only
    rw [h2]
    simp only
    refine wp_bindX (h3.imp fun y S2 h4 => ?_)
    rw [if_pos h4.1]
    exact lc_rule I N step fin k (i + 1) _ S2 (by omega) h4.2
/-- turns of a comprehension with a test -/
theorem lcI_rule {t : Tg} {it : Itr} {c el : Env → Store → R D} {X : XP} {Q : List D → Store → Prop} (I : Nat → List D → Store → Prop) (N : Nat)
    (step : ∀ i acc S, i < N → I i acc S → ∃ d e1, it.at_ i S = some d ∧ bindT t d e S = some e1 ∧ Wp (c e1 S) (fun _ _ => False) fun b S1 => (b = .bl true ∧ Wp (el e1 S1) (fun _ _ => False) fun y S2 => acc.length < lim ∧ I (i + 1) (acc ++ [y]) S2) ∨ (b = .bl false ∧ I (i + 1) acc S1))
    (fin : ∀ acc S, I N acc S → it.fin S = true ∧ Q acc S) :
    ∀ (k i : Nat) (acc : List D) (S : Store), i + k = N → I i acc S → Wp (lcGo t it (some c) el e k i acc S) X Q
  | 0, i, acc, S, hi, h => by
    have : i = N := by omega
    subst this
    unfold lcGo
    obtain ⟨f1, f2⟩ := fin acc S h
    rw [if_pos f1, wp_ok]
    exact f2
  | k + 1, i, acc, S, hi, h => by
    obtain ⟨d, e1, h1, h2, h3⟩ := step i acc S (by omega) h
    unfold lcGo
    rw [h1]
    simp only
    rw [h2]
    simp only
    refine wp_bindX (h3.imp fun b S1 h4 => ?_)
    rcases h4 with ⟨rfl, h4⟩ | ⟨rfl, h4⟩
    · refine wp_bindX (h4.imp fun y S2 h5 => ?_)
      rw [if_pos h5.1]
      exact lcI_rule I N step fin k (i + 1) _ S2 (by omega) h5.2
    · exact lcI_rule I N step fin k (i + 1) _ S1 (by omega) h4
theorem lc_seq {t : Tg} {d : D} {xs : List D} {el : Env → Store → R D} {X X' : XP} {Q : List D → Store → Prop} (I : Nat → List D → Store → Prop) (h : seqOf S d = some xs) (h0 : I 0 [] S)
    (step : ∀ i x acc S, xs[i]? = some x → i < xs.length → I i acc S → seqOf S d = some xs ∧ ∃ e1, bindT t x e S = some e1 ∧ Wp (el e1 S) (fun _ _ => False) fun y S2 => acc.length < lim ∧ I (i + 1) (acc ++ [y]) S2)
    (fin : ∀ acc S, I xs.length acc S → seqOf S d = some xs ∧ Q acc S) : Wp (optR (seqItr d S) S) X fun j S1 => Wp (lcGo t j none el e j.n 0 [] S1) X' Q := by
  obtain ⟨j, h1, h2, h3, h4⟩ := seqItr_some h
  rw [h1, optR_some, wp_ok]
  refine lc_rule I xs.length (fun i acc S hi hI => ?_) (fun acc S hI => ?_) j.n 0 [] S (by omega) h0
  · obtain ⟨g1, e1, g2, g3⟩ := step i xs[i] acc S (by simp [hi]) hi hI
    exact ⟨xs[i], e1, by rw [h3 i S g1]; simp [hi], g2, g3⟩
  · obtain ⟨g1, g2⟩ := fin acc S hI
    exact ⟨h4 S g1, g2⟩
theorem lcI_seq {t : Tg} {d : D} {xs : List D} {c el : Env → Store → R D} {X X' : XP} {Q : List D → Store → Prop} (I : Nat → List D → Store → Prop) (h : seqOf S d = some xs) (h0 : I 0 [] S)
    (step : ∀ i x acc S, xs[i]? = some x → i < xs.length → I i acc S → seqOf S d = some xs ∧ ∃ e1, bindT t x e S = some e1 ∧ Wp (c e1 S) (fun _ _ => False) fun b S1 => (b = .bl true ∧ Wp (el e1 S1) (fun _ _ => False) fun y S2 => acc.length < lim ∧ I (i + 1) (acc ++ [y]) S2) ∨ (b = .bl false ∧ I (i + 1) acc S1))
    (fin : ∀ acc S, I xs.length acc S → seqOf S d = some xs ∧ Q acc S) : Wp (optR (seqItr d S) S) X fun j S1 => Wp (lcGo t j (some c) el e j.n 0 [] S1) X' Q := by
  obtain ⟨j, h1, h2, h3, h4⟩ := seqItr_some h
  rw [h1, optR_some, wp_ok]
  refine lcI_rule I xs.length (fun i acc S hi hI => ?_) (fun acc S hI => ?_) j.n 0 [] S (by omega) h0
  · obtain ⟨g1, e1, g2, g3⟩ := step i xs[i] acc S (by simp [hi]) hi hI
    exact ⟨xs[i], e1, by rw [h3 i S g1]; simp [hi], g2, g3⟩
  · obtain ⟨g1, g2⟩ := fin acc S hI
    exact ⟨h4 S g1, g2⟩
theorem lc_rng {t : Tg} {lo hi : Int} {el : Env → Store → R D} {X X' : XP} {Q : List D → Store → Prop} (I : Nat → List D → Store → Prop) (h1 : -(2 ^ 62) ≤ lo) (h2 : lo < 2 ^ 62) (h3 : -(2 ^ 62) ≤ hi) (h4 : hi < 2 ^ 62) (h0 : I 0 [] S)
    (step : ∀ (i : Nat) acc S, (i : Int) < hi - lo → I i acc S → ∃ e1, bindT t (.int (lo + i)) e S = some e1 ∧ Wp (el e1 S) (fun _ _ => False) fun y S2 => acc.length < lim ∧ I (i + 1) (acc ++ [y]) S2)
    (fin : ∀ acc S, I (hi - lo).toNat acc S → Q acc S) : Wp (optR (rngItr lo hi) S) X fun j S1 => Wp (lcGo t j none el e j.n 0 [] S1) X' Q := by
  rw [rngItr_ok h1 h2 h3 h4, optR_some, wp_ok]
  refine lc_rule I (hi - lo).toNat (fun i acc S hi' hI => ?_) (fun acc S hI => ?_) _ 0 [] S (by simp) h0
  · obtain ⟨e1, g2, g3⟩ := step i acc S (by omega) hI
    exact ⟨_, e1, rfl, g2, g3⟩
  · exact ⟨rfl, fin acc S hI⟩
theorem lstItr_some {d : D} {xs : List D} {f : Nat → Nat → Nat} {w : Nat → D → D} (h : lstOf S d = some xs) : ∃ j, lstItr d S f w = some j ∧ j.n = xs.length ∧ (∀ i S', lstOf S' d = some xs → j.at_ i S' = (xs[f xs.length i]?).map (w i)) ∧ (∀ S', lstOf S' d = some xs → j.fin S' = true) := by
  unfold lstItr
  rw [h]
  refine ⟨_, rfl, rfl, fun i S' h' => ?_, fun S' h' => ?_⟩
  · simp [h']
  · simp [h']
theorem for_lst {t : Tg} {d : D} {xs : List D} {f : Nat → Nat → Nat} {w : Nat → D → D} {b : Env → Store → SR} {X : XP} (I : Nat → Env → Store → Prop) (hf : ∀ i, i < xs.length → f xs.length i < xs.length) (h : lstOf S d = some xs) (h0 : I 0 e S)
    (step : ∀ i x e S, xs[f xs.length i]? = some x → i < xs.length → I i e S → lstOf S d = some xs ∧ ∃ e1, bindT t (w i x) e S = some e1 ∧ WpS (b e1 S) { nx := I (i + 1), rt := Z.rt, bk := Z.nx, ex := Z.ex })
    (fin : ∀ e S, I xs.length e S → lstOf S d = some xs ∧ Z.nx e S) : Wp (optR (lstItr d S f w) S) X fun j S1 => WpS (forGo t j b j.n 0 e S1) Z := by
  obtain ⟨j, h1, h2, h3, h4⟩ := lstItr_some (f := f) (w := w) h
  rw [h1, optR_some, wp_ok]
  refine for_rule I xs.length (fun i e S hi hI => ?_) (fun e S hI => ?_) j.n 0 e S (by omega) h0
  · have hfi := hf i hi
    have hx : xs[f xs.length i]? = some xs[f xs.length i] := by simp [hfi]
    obtain ⟨g1, e1, g2, g3⟩ := step i _ e S hx hi hI
    exact ⟨_, e1, by rw [h3 i S g1, hx]; rfl, g2, g3⟩
  · obtain ⟨g1, g2⟩ := fin e S hI
    exact ⟨h4 S g1, g2⟩
/-- behind an item's store -/
def setR (x : Option (List D)) (r : Nat) (i : Int) (v : D) (S : Store) : R D := match x with
  | some xs => match L2.ixN xs.length i with
    | some j => .ok .non (S.set r (.lst (xs.set j v)))
    | none => .bad
  | none => .bad
theorem set_ref {r : Nat} {i : Int} {v : D} : setItem (.ref r) (.int i) v S = setR (getL S r) r i v S := by
  unfold setItem setR
  cases h : getL S r with
  | none => simp [h]
  | some xs =>
    simp only [h]
    try (cases L2.ixN xs.length i <;> rfl)
theorem setR_nat {xs : List D} {r i : Nat} {v : D} (h : i < xs.length) : setR (some xs) r (i : Int) v S = .ok .non (S.set r (.lst (xs.set i v))) := by
  unfold setR L2.ixN
  simp [h]
theorem itemR_last {xs : List D} {d : D} (h : xs.getLast? = some d) : itemR (some xs) (-1) S = .ok d S := by
  have hl : 0 < xs.length := by
    cases xs with
    | nil => cases h
    | cons => simp
  refine itemR_back (i := 0) hl ?_
  rw [List.getLast?_eq_getElem?] at h
  simpa using h
theorem cutD_T {xs : List D} {j : Int} (h : 0 ≤ j) : cutD xs none (some j) = xs.take j.toNat := by
  obtain ⟨n, rfl⟩ := Int.eq_ofNat_of_zero_le h
  unfold cutD
  rw [HT.sIx_none, HT.sIx_nat]
  simp
theorem cutD_B {xs : List D} {i j : Int} (h : 0 ≤ i) (h' : 0 ≤ j) : cutD xs (some i) (some j) = (xs.drop i.toNat).take (j.toNat - i.toNat) := by
  obtain ⟨n, rfl⟩ := Int.eq_ofNat_of_zero_le h
  obtain ⟨m, rfl⟩ := Int.eq_ofNat_of_zero_le h'
  unfold cutD
  rw [HT.sIx_nat, HT.sIx_nat]
  simp only [Int.toNat_natCast]
  by_cases hn : n ≤ xs.length
  · rw [Nat.min_eq_left hn]
    rcases Nat.le_total m xs.length with hm | hm
    · rw [Nat.min_eq_left hm]
    · rw [Nat.min_eq_right hm, List.take_of_length_le (by simp), List.take_of_length_le (by simp; omega)]
  · have hn : xs.length ≤ n := by omega
    rw [Nat.min_eq_right hn, List.drop_of_length_le (Nat.le_refl _), List.drop_of_length_le hn]
    simp
theorem len_lst {d : D} {xs : List D} (h : lstOf S d = some xs) : biop .len [d] S = .ok (.int xs.length) S := by
  cases d with
  | ref n => rw [len_ref]; rw [lstOf_ref] at h; rw [h, lenD_some]
  | frl ys => cases h; rfl
  | _ => cases h
theorem log2_le {n a : Nat} (h : n < 2 ^ a) : n.log2 ≤ a := by
  by_cases h0 : n = 0
  · subst h0; simp
  · exact Nat.le_of_lt ((Nat.log2_lt h0).mpr h)
theorem sm_of {i j : Int} (a b : Nat) (hi : i.natAbs < 2 ^ a) (hj : j.natAbs < 2 ^ b) (h : a + b < 1000000) : Sm i j := by
  have h1 := log2_le hi
  have h2 := log2_le hj
  unfold Sm
  omega
theorem sm100 {i j : Int} (hi : i.natAbs < 2 ^ 100) (hj : j.natAbs < 2 ^ 100) : Sm i j := sm_of 100 100 hi hj (by decide)
theorem getL_app {T : Store} {n : Nat} : getL (S ++ T) (S.length + n) = getL T n := by
  unfold getL
  rw [List.getElem?_append_right (by omega), Nat.add_sub_cancel_left]
theorem getL_app0 {T : Store} : getL (S ++ T) S.length = getL T 0 := getL_app (n := 0)
theorem getL_app2 {T : Store} : getL (S ++ T) (S.length + 1 + 1) = getL T 2 := getL_app (n := 2)
theorem getL_app3 {T : Store} : getL (S ++ T) (S.length + 1 + 1 + 1) = getL T 3 := getL_app (n := 3)
theorem getL_app4 {T : Store} : getL (S ++ T) (S.length + 1 + 1 + 1 + 1) = getL T 4 := getL_app (n := 4)
theorem getL_c0 {xs : List D} {T : Store} : getL (.lst xs :: T) 0 = some xs := rfl
theorem getL_c1 {c : Cell} {T : Store} : getL (c :: T) 1 = getL T 0 := rfl
theorem getL_c2 {c : Cell} {T : Store} : getL (c :: T) 2 = getL T 1 := rfl
theorem getL_c3 {c : Cell} {T : Store} : getL (c :: T) 3 = getL T 2 := rfl
theorem getL_c4 {c : Cell} {T : Store} : getL (c :: T) 4 = getL T 3 := rfl
theorem map_get {α : Type} {f : α → D} {l : List α} {i : Nat} {x : D} (h : (l.map f)[i]? = some x) : ∃ c, l[i]? = some c ∧ x = f c := by
  rw [List.getElem?_map] at h
  cases e : l[i]? with
  | none => rw [e] at h; cases h
  | some c => rw [e] at h; cases h; exact ⟨c, rfl, rfl⟩
theorem dv_of {n : Nat} (h : n < 2 ^ 8000) : n.log2 < 9000 := Nat.lt_of_le_of_lt (log2_le h) (by decide)
theorem bind_two {i j : Nat} {x y : D} (h : i < e.length ∧ j < e.length) : bindT (.tup [i, j]) (.tup [x, y]) e S = some ((e.set i (some x)).set j (some y)) := by
  simp [bindT, seqOf, setAll, h.1, h.2]
theorem bind_name {i : Nat} {d : D} (h : i < e.length) : bindT (.name i) d e S = some (e.set i (some d)) := by
  simp only [bindT, if_pos h]
end
def wps := And.intro @set_ref <| And.intro @getL_app <| And.intro @getL_app0 <| And.intro @getL_app2 <| And.intro @getL_app3 <| And.intro @getL_app4 <| And.intro @getL_c0 <| And.intro @getL_c1 <| And.intro @getL_c2 <| And.intro @getL_c3 <| @getL_c4
end Lt
set_option maxRecDepth 100000
set_option maxHeartbeats 1000000
namespace Lt
open PySem (Str)
open LawT
def seedF (s c : Int) : Int := (s * 48271 + c.fmod 1000003 + 1).fmod 2147483647
def cellF (ns : List Int) (p : Int) : Int := if p < ns.length then ns.getD p.toNat 0 else ((ns.take 63).foldl seedF 5 + 7919 * p).fmod 1000003
theorem seed_bd (ns : List Int) (s : Int) (h : 0 ≤ s ∧ s < 2147483647) : 0 ≤ ns.foldl seedF s ∧ ns.foldl seedF s < 2147483647 := by
  induction ns generalizing s with
  | nil => exact h
  | cons c r ih =>
    rw [List.foldl_cons]
    refine ih _ ?_
    unfold seedF
    exact ⟨Int.fmod_nonneg_of_pos _ (by decide), Int.fmod_lt_of_pos _ (by decide)⟩
section
variable {P : Prog} {F k : Nat} {S : Store} {E : XP}
theorem cell_wp (h : P.defs.lookup ("_law_cell" : Str) = some a__law_cell) {d : D} {ns : List Int} {p : Int} (hd : lstOf S d = some (ns.map .int)) (hp0 : 0 ≤ p) (hp : p < 2 ^ 60) :
    Wp (callN P F (k + 1) "_law_cell" [d, .int p] S) E fun r S' => Ext S S' ∧ r = .int (cellF ns p) := by
  apply wp_callN h rfl
  simp only [a__law_cell]
  simp [wpx, wpo, len_lst hd, lst_seq hd, hd, slcR_lst hd]
  unfold cellF
  split
  · rename_i hlt
    have hl : (ns.map D.int)[p.toNat]? = some (.int (ns.getD p.toNat 0)) := by
      have : p.toNat < ns.length := by omega
      simp [this]
    rw [itemR_int hp0 hl, wp_ok]
    exact ⟨Ext.refl, rfl⟩
  · refine for_seq (fun i e S1 => Ext (S ++ [.lst (cutD (ns.map .int) none (some 63))]) S1 ∧ ∃ x, e = [some d, some (.int p), some (.int (((ns.take 63).take i).foldl seedF 5)), x]) (xs := (ns.take 63).map .int) ?_ ⟨Ext.refl, none, rfl⟩ ?_ ?_
    · rw [seqOf_ref, getL_new, cutD_T (by decide)]
      simp [List.map_take]
    · rintro i x e S1 hx hi ⟨hE, y, rfl⟩
      refine ⟨hE.seqOf ?_, _, bind_name (by simp), ?_⟩
      · rw [seqOf_ref, getL_new, cutD_T (by decide)]
        simp [List.map_take]
      · obtain ⟨c, hc, rfl⟩ := map_get hx
        have hb := seed_bd ((ns.take 63).take i) 5 (by decide)
        have hs : Sm (((ns.take 63).take i).foldl seedF 5) 48271 := sm100 (by omega) (by decide)
        simp [wpx, wpo, hs]
        refine ⟨hE, ?_⟩
        generalize ns.take 63 = m at hc ⊢
        rw [List.take_succ, List.foldl_append, hc]
        simp [seedF]
    · rintro e S1 ⟨hE, y, rfl⟩
      refine ⟨hE.seqOf ?_, ?_⟩
      · rw [seqOf_ref, getL_new, cutD_T (by decide)]
        simp [List.map_take]
      · have hs : Sm 7919 p := sm100 (by decide) (by omega)
        simp [wpx, wpo, hs]
        refine ⟨Ext.one.trans hE, ?_⟩
        rw [List.take_of_length_le (by simp)]
/-- a drawn number, from a cell -/
def mixF (c k : Int) : Int := (((((c.fmod 2147483629 + 1013 * k + 7919) ^ 3).fmod 2147483647) * 40699 + 3793 * k * k + 11).fmod 2147483399).fdiv 101
theorem mix_wp (h : P.defs.lookup ("_law_mix" : Str) = some a__law_mix) {c q : Int} (h0 : 0 ≤ q) (h1 : q < 2 ^ 30) : Wp (callN P F (k + 1) "_law_mix" [.int c, .int q] S) E fun r S' => S' = S ∧ r = .int (mixF c q) := by
  apply wp_callN h rfl
  simp only [a__law_mix]
  have hc : 0 ≤ c.fmod 2147483629 ∧ c.fmod 2147483629 < 2147483629 := ⟨Int.fmod_nonneg_of_pos _ (by decide), Int.fmod_lt_of_pos _ (by decide)⟩
  have s1 : Sm 1013 q := sm100 (by decide) (by omega)
  have s2 : (c.fmod 2147483629 + 1013 * q + 7919).natAbs < 2 ^ 64 := by omega
  have hm : ∀ z : Int, 0 ≤ z.fmod 2147483647 ∧ z.fmod 2147483647 < 2147483647 := fun z => ⟨Int.fmod_nonneg_of_pos _ (by decide), Int.fmod_lt_of_pos _ (by decide)⟩
  have s3 : ∀ z : Int, Sm (z.fmod 2147483647) 40699 := fun z => sm100 (by have := hm z; omega) (by decide)
  have s4 : Sm 3793 q := sm100 (by decide) (by omega)
  have s5 : Sm (3793 * q) q := sm100 (by omega) (by omega)
  have s6 : Nat.log2 101 < 9000 := by decide +kernel
  simp [wpx, wpo, s1, s2, s3, s4, s5, s6, mixF]
/-- the numbers drawn of one cell -/
def leftF (c : Int) (zs : List Int) : Int := zs.foldl (fun l z => if l > 0 then l.fdiv z else l) c
def drawF (ns : List Int) (p : Int) (zs : List Int) (i : Nat) : Int :=
  let c := cellF ns p
  let z := zs.getD i 1
  if c < 1000000000000000000 then (mixF c i).fmod z else if leftF c (zs.take i) > 0 then (leftF c (zs.take i)).fmod z else (mixF (cellF ns ((p + 1 + i).fmod 63)) i).fmod z
def rowF (ns : List Int) (p : Int) (zs : List Int) : List Int := (List.range zs.length).map (drawF ns p zs)
theorem row_get {ns : List Int} {p : Int} {zs : List Int} {i : Nat} (h : i < zs.length) : (rowF ns p zs)[i]? = some (drawF ns p zs i) := by
  simp [rowF, h]
theorem draw_bd {ns : List Int} {p : Int} {zs : List Int} {i : Nat} {z : Int} (h : zs[i]? = some z) (hz : 0 < z) : 0 ≤ drawF ns p zs i ∧ drawF ns p zs i < z := by
  have e : zs.getD i 1 = z := by simp [List.getD, h]
  unfold drawF
  simp only [e]
  split
  · exact ⟨Int.fmod_nonneg_of_pos _ hz, Int.fmod_lt_of_pos _ hz⟩
  · split <;> exact ⟨Int.fmod_nonneg_of_pos _ hz, Int.fmod_lt_of_pos _ hz⟩
theorem row_wp (h : P.defs.lookup ("_law_row" : Str) = some a__law_row) (hc : P.defs.lookup ("_law_cell" : Str) = some a__law_cell) (hm : P.defs.lookup ("_law_mix" : Str) = some a__law_mix)
    {d : D} {ns : List Int} {p : Int} (hd : lstOf S d = some (ns.map .int)) (hp0 : 0 ≤ p) (hp : p < 2 ^ 30) {r : Nat} {zs : List Int} (hr : getL S r = some (zs.map .int)) (hz : ∀ z ∈ zs, 0 < z ∧ z < 2 ^ 8000) (hl : zs.length < 1000) :
    Wp (callN P F (k + 2) "_law_row" [d, .int p, .ref r] S) E fun x S' => Ext S S' ∧ ∃ q, x = .ref q ∧ getL S' q = some ((rowF ns p zs).map .int) := by
  apply wp_callN h rfl
  simp only [a__law_row]
  simp [wpx, wpo, hr]
  refine (cell_wp hc hd hp0 (by omega)).imp ?_
  rintro x S1 ⟨hE, rfl⟩
  have hr1 : getL (S1 ++ [.lst []]) r = some (zs.map .int) := (hE.trans Ext.one).getL hr
  simp [wpx, wpo, hr1]
  refine for_rng (fun i e S2 => Ext S1 S2 ∧ ∃ x y q, S1.length ≤ q ∧ getL S2 q = some (((List.range i).map (drawF ns p zs)).map .int) ∧
    e = [some d, some (.int p), some (.ref r), some (.int (cellF ns p)), some (.int (if cellF ns p < 1000000000000000000 then cellF ns p else leftF (cellF ns p) (zs.take i))), some (.ref q), x, y]) (by omega) (by omega) (by omega) (by omega) ?_ ?_ ?_
  · refine ⟨Ext.one, none, none, S1.length, Nat.le_refl _, ?_, ?_⟩
    · rw [getL_new]; rfl
    · simp [leftF]
  · rintro i e S2 hi ⟨hE2, x, y, q, hq, hg, rfl⟩
    have hi' : i < zs.length := by omega
    obtain ⟨z, hz1⟩ : ∃ z, zs[i]? = some z := ⟨zs[i], by simp [hi']⟩
    obtain ⟨hz2, hz3⟩ := hz z (List.mem_of_getElem? hz1)
    have hgr : getL S2 r = some (zs.map .int) := (hE.trans hE2).getL hr
    have hit : ∀ S', itemR (some (zs.map .int)) (i : Int) S' = .ok (.int z) S' := fun _ => itemR_nat (by simp [hz1])
    have hd2 := (hE.trans hE2).lstOf hd
    have hq2 := getL_lt hg
    have hz4 : z ≠ 0 := by omega
    have hz5 : z.natAbs.log2 < 9000 := dv_of (by omega)
    have hlim : i < lim := Nat.lt_trans (Nat.lt_trans hi' hl) (by decide)
    have hnew : ∀ w, w = drawF ns p zs i → (List.range i).map (D.int ∘ drawF ns p zs) ++ [.int w] = (List.range (i + 1)).map (D.int ∘ drawF ns p zs) := fun w e => by
      rw [List.range_succ, List.map_append, e]; rfl
    have hqr : q ≠ r := by
      have := getL_lt hr
      have := hE.len
      omega
    have hgd : zs.getD i 1 = z := by simp [List.getD, hz1]
    refine ⟨_, bind_name (by simp), ?_⟩
    by_cases hc1 : cellF ns p < 1000000000000000000
    · simp [wpx, wpo, hg, hc1, hgr]
      refine (mix_wp hm (by omega) (by omega)).imp ?_
      rintro x S3 ⟨rfl, rfl⟩
      simp [wpx, wpo, hg, hgr, hit, hz4, hlim]
      refine ⟨hE2.set hq, _, _, q, hq, ?_, rfl, rfl, rfl⟩
      rw [getL_set hq2, hnew]
      unfold drawF
      simp only [hgd]
      rw [if_pos hc1]
    · simp only [if_neg hc1]
      by_cases hc2 : 0 < leftF (cellF ns p) (zs.take i)
      · simp [wpx, wpo, hg, hc1, hc2, hgr, hit, hz4, hlim, getL_set_ne hqr, hz5]
        refine ⟨hE2.set hq, _, _, q, hq, ?_, ?_, rfl, rfl, rfl⟩
        · rw [getL_set hq2, hnew]
          unfold drawF
          simp only [hgd]
          rw [if_neg hc1, if_pos hc2]
        · unfold leftF at hc2 ⊢
          rw [List.take_succ, List.foldl_append, hz1]
          simp [hc2]
      · simp [wpx, wpo, hg, hc1, hc2, hgr]
        refine (cell_wp hc hd2 (Int.fmod_nonneg_of_pos _ (by decide)) (Int.lt_trans (Int.fmod_lt_of_pos _ (by decide)) (by decide))).imp ?_
        rintro x S3 ⟨hE3, rfl⟩
        simp [wpx, wpo, hE3.getL hg]
        refine (mix_wp hm (by omega) (by omega)).imp ?_
        rintro x S4 ⟨rfl, rfl⟩
        simp [wpx, wpo, hE3.getL hg, hE3.getL hgr, hit, hz4, hlim]
        refine ⟨(hE2.trans hE3).set hq, _, _, q, hq, ?_, ?_, rfl, rfl, rfl⟩
        · rw [getL_set (Nat.lt_of_lt_of_le hq2 hE3.len), hnew]
          unfold drawF
          simp only [hgd]
          rw [if_neg hc1, if_neg hc2]
        · unfold leftF at hc2 ⊢
          rw [List.take_succ, List.foldl_append, hz1]
          simp [hc2]
  · rintro e S2 ⟨hE2, x, y, q, hq, hg, rfl⟩
    simp [wpx, wpo]
    refine ⟨hE.trans hE2, ?_⟩
    rw [hg]
    simp [rowF]
end
end Lt
set_option maxRecDepth 100000
set_option maxHeartbeats 1000000
namespace Lt
open PySem (Str)
open LawT
/-- a fraction as the program has it -/
def rD (q : Rat) : D := .tup [.int q.num, .int q.den]
@[irreducible] def BIG : Nat := 2 ^ 8000
theorem big_dv {n : Nat} (h : n < BIG) : n.log2 < 9000 := by
  unfold BIG at h
  exact dv_of h
theorem divInt_rD {a b : Int} (hb : 0 < b) : rD (Rat.divInt a b) = .tup [.int (a / ((a.natAbs.gcd b.natAbs : Nat) : Int)), .int (b / ((a.natAbs.gcd b.natAbs : Nat) : Int))] := by
  unfold rD
  have e : b.gcd a = a.natAbs.gcd b.natAbs := by
    show Nat.gcd b.natAbs a.natAbs = _
    exact Nat.gcd_comm _ _
  rw [Rat.num_divInt, Rat.den_divInt, if_neg (by omega), Int.sign_eq_one_of_pos hb, Int.one_mul, e]
  congr 3
  congr 1
  rw [Int.natCast_ediv, Int.natAbs_of_nonneg (by omega)]
theorem gcd_step {x y : Int} (hx : 0 ≤ x) (hy : 0 < y) : y.natAbs.gcd (x.fmod y).natAbs = x.natAbs.gcd y.natAbs := by
  rw [Int.fmod_eq_emod_of_nonneg _ (by omega)]
  obtain ⟨m, rfl⟩ := Int.eq_ofNat_of_zero_le hx
  obtain ⟨n, rfl⟩ := Int.eq_ofNat_of_zero_le (Int.le_of_lt hy)
  rw [show ((m : Int) % (n : Int)) = ((m % n : Nat) : Int) from rfl]
  simp only [Int.natAbs_natCast]
  rw [Nat.gcd_comm n, ← Nat.gcd_rec, Nat.gcd_comm]
section
variable {P : Prog} {F k : Nat} {S : Store} {E : XP}
theorem law_ratio_wp (h : P.defs.lookup ("_law_ratio" : Str) = some a__law_ratio) {a b : Int} (hb : 0 < b) (hB : b.natAbs < BIG) (hF : BIG ≤ F) :
    Wp (callN P F (k + 1) "_law_ratio" [.int a, .int b] S) E fun r S' => S' = S ∧ r = rD (Rat.divInt a b) := by
  apply wp_callN h rfl
  simp only [a__law_ratio]
  simp [wpx, wpo]
  refine wh_rule (fun e S1 => S1 = S ∧ ∃ x y : Int, e = [some (.int a), some (.int b), some (.int x), some (.int y)] ∧ 0 ≤ x ∧ 0 ≤ y ∧ x.natAbs.gcd y.natAbs = a.natAbs.gcd b.natAbs) (fun e _ => match e with
    | [_, _, _, some (.int y)] => y.natAbs
    | _ => 0) ?_ F _ _ ⟨rfl, _, _, rfl, by omega, by omega, by simp⟩ (by simp; omega)
  rintro e S1 ⟨rfl, x, y, rfl, hx, hy, hg⟩
  simp [wpx, wpo]
  by_cases h0 : 0 < y
  · left
    refine ⟨h0, ?_⟩
    have hy0 : y ≠ 0 := by omega
    simp [hy0, wpx]
    refine ⟨⟨y, x.fmod y, ⟨rfl, rfl⟩, hy, Int.fmod_nonneg_of_pos _ h0, ?_⟩, ?_⟩
    · rw [gcd_step hx h0, hg]
    · have := Int.fmod_lt_of_pos x h0
      have := Int.fmod_nonneg_of_pos x h0
      omega
  · right
    have hy0 : y = 0 := by omega
    subst hy0
    have hx1 : x = ((a.natAbs.gcd b.natAbs : Nat) : Int) := by
      simp at hg
      omega
    have hp : 0 < a.natAbs.gcd b.natAbs := Nat.gcd_pos_of_pos_right _ (by omega)
    have hle : a.natAbs.gcd b.natAbs ≤ b.natAbs := Nat.le_of_dvd (by omega) (Nat.gcd_dvd_right _ _)
    refine ⟨by omega, ?_⟩
    have h1 : x ≠ 0 := by omega
    have h2 : x.natAbs.log2 < 9000 := big_dv (by omega)
    simp [wpx, wpo, h1, h2]
    rw [divInt_rD hb, ← hx1, Int.fdiv_eq_ediv_of_nonneg _ hx, Int.fdiv_eq_ediv_of_nonneg _ hx]
theorem len_rD {q : Rat} : biop .len [rD q] S = .ok (.int 2) S := rfl
theorem seq_rD {q : Rat} : seqOf S (rD q) = some [.int q.num, .int q.den] := rfl
theorem isT_rD {q : Rat} {t : Ty} : isIR t (rD q) S = .ok (.bl (match t with | .tuple => true | _ => false)) S := rfl
theorem eqD_rD {p q : Rat} : eqD S (rD p) (rD q) = some (decide (p = q)) := by
  unfold rD
  rw [eqD_pair]
  congr 1
  apply decide_eq_decide.mpr
  constructor
  · intro h
    exact Rat.ext h.1 (by omega)
  · rintro rfl
    exact ⟨rfl, rfl⟩
theorem den_pos (q : Rat) : (0 : Int) < q.den := by
  have := q.den_pos
  omega
/-- a fraction of small parts -/
def Sz (n : Nat) (q : Rat) : Prop := q.num.natAbs < 2 ^ n ∧ q.den < 2 ^ n
theorem law_is_ratio_wp (h : P.defs.lookup ("_law_is_ratio" : Str) = some a__law_is_ratio) (hr : P.defs.lookup ("_law_ratio" : Str) = some a__law_ratio) {q : Rat} (hB : q.den < BIG) (hF : BIG ≤ F) :
    Wp (callN P F (k + 2) "_law_is_ratio" [rD q] S) E fun r S' => S' = S ∧ r = .bl true := by
  apply wp_callN h rfl
  simp only [a__law_is_ratio]
  simp [wpx, wpo, len_rD, isT_rD, seq_rD]
  refine for_seq (xs := [.int q.num, .int q.den]) (fun i e S1 => S1 = S ∧ ∃ x, e = [some (rD q), x]) seq_rD ⟨rfl, _, rfl⟩ ?_ ?_
  · rintro i x e S1 hx hi ⟨rfl, y, rfl⟩
    refine ⟨seq_rD, _, bind_name (by simp), ?_⟩
    have : ∃ z, x = .int z := by
      match i, hx with
      | 0, hx => exact ⟨_, by simpa using hx.symm⟩
      | 1, hx => exact ⟨_, by simpa using hx.symm⟩
      | n + 2, hx => simp at hx
    obtain ⟨z, rfl⟩ := this
    simp [wpx, wpo]
  · rintro e S1 ⟨rfl, x, rfl⟩
    refine ⟨seq_rD, ?_⟩
    have h1 := den_pos q
    simp [wpx, wpo, seq_rD]
    refine ⟨by omega, ?_⟩
    refine (law_ratio_wp hr (den_pos q) (by simpa using hB) hF).imp ?_
    rintro r S2 ⟨rfl, rfl⟩
    rw [Rat.num_divInt_den, eqD_rD]
    simp [wpx, wpo]
end
end Lt
set_option maxRecDepth 100000
set_option maxHeartbeats 1000000
namespace Lt
open PySem (Str)
open LawT
theorem nat_pow_mono {n m : Nat} (h : n ≤ m) : (2 : Nat) ^ n ≤ 2 ^ m := Nat.pow_le_pow_right (by decide) h
theorem Sz.mono {n m : Nat} {q : Rat} (s : Sz n q) (h : n ≤ m) : Sz m q := ⟨Nat.lt_of_lt_of_le s.1 (nat_pow_mono h), Nat.lt_of_lt_of_le s.2 (nat_pow_mono h)⟩
theorem mul_lt_pow {a b n m : Nat} (ha : a < 2 ^ n) (hb : b < 2 ^ m) : a * b < 2 ^ (n + m) := by
  rw [Nat.pow_add]
  have h1 : 0 < 2 ^ m := Nat.pow_pos (by decide)
  calc a * b ≤ a * 2 ^ m := Nat.mul_le_mul_left _ (by omega)
    _ < 2 ^ n * 2 ^ m := Nat.mul_lt_mul_of_pos_right ha h1
theorem sz_divInt {a b : Int} {n : Nat} (hb : 0 < b) (h1 : a.natAbs < 2 ^ n) (h2 : b.natAbs < 2 ^ n) : Sz n (Rat.divInt a b) := by
  have e : b.gcd a = a.natAbs.gcd b.natAbs := Nat.gcd_comm _ _
  unfold Sz
  rw [Rat.num_divInt, Rat.den_divInt, if_neg (by omega), Int.sign_eq_one_of_pos hb, Int.one_mul, e]
  refine ⟨Nat.lt_of_le_of_lt ?_ h1, Nat.lt_of_le_of_lt (Nat.div_le_self _ _) h2⟩
  have hd : ((a.natAbs.gcd b.natAbs : Nat) : Int) ∣ a := by
    rw [← Int.dvd_natAbs]
    exact Int.ofNat_dvd.mpr (Nat.gcd_dvd_left _ _)
  obtain ⟨c, hc⟩ := hd
  have hp : 0 < a.natAbs.gcd b.natAbs := Nat.gcd_pos_of_pos_right _ (by omega)
  generalize a.natAbs.gcd b.natAbs = g at hc hp
  subst hc
  rw [Int.mul_ediv_cancel_left _ (by omega), Int.natAbs_mul]
  exact Nat.le_mul_of_pos_left _ (by simpa using hp)
theorem sz_neg {n : Nat} {q : Rat} (s : Sz n q) : Sz n (-q) := ⟨by rw [Rat.neg_num, Int.natAbs_neg]; exact s.1, s.2⟩
theorem Sz.sm {n m : Nat} {p q : Rat} (s : Sz n p) (t : Sz m q) (h : n + m < 1000000) : Sm p.num q.den := sm_of n m s.1 (by simpa using t.2) h
theorem Sz.smn {n m : Nat} {p q : Rat} (s : Sz n p) (t : Sz m q) (h : n + m < 1000000) : Sm p.num q.num := sm_of n m s.1 t.1 h
theorem Sz.smd {n m : Nat} {p q : Rat} (s : Sz n p) (t : Sz m q) (h : n + m < 1000000) : Sm p.den q.den := sm_of n m (by simpa using s.2) (by simpa using t.2) h
theorem Sz.smx {n m : Nat} {p q : Rat} (s : Sz n p) (t : Sz m q) (h : n + m < 1000000) : Sm p.den q.num := sm_of n m (by simpa using s.2) t.1 h
/-- the size of a fraction -/
def absQ (q : Rat) : Rat := if q < 0 then -q else q
theorem absQ_num (q : Rat) : (absQ q).num = q.num.natAbs := by
  unfold absQ
  have h := @Rat.num_nonneg q
  split
  · rename_i hq
    have : ¬ 0 ≤ q.num := fun z => absurd (h.mp z) (Rat.not_le.mpr hq)
    rw [Rat.neg_num]; omega
  · rename_i hq
    have : 0 ≤ q.num := h.mpr (Rat.not_lt.mp hq)
    omega
theorem absQ_den (q : Rat) : (absQ q).den = q.den := by
  unfold absQ; split <;> rfl
theorem rD_abs (q : Rat) : rD (absQ q) = .tup [.int q.num.natAbs, .int q.den] := by
  unfold rD; rw [absQ_num, absQ_den]
/-- -1, 0, 1 -/
def ordF (p q : Rat) : Int := if p < q then -1 else if q < p then 1 else 0
section
variable {P : Prog} {F k : Nat} {S : Store} {E : XP}
theorem order_wp (h : P.defs.lookup ("order" : Str) = some a_order) {p q : Rat} {n m : Nat} (sp : Sz n p) (sq : Sz m q) (hnm : n + m < 1000000) :
    Wp (callN P F (k + 1) "order" [rD p, rD q] S) E fun r S' => S' = S ∧ r = .int (ordF p q) := by
  apply wp_callN h rfl
  simp only [a_order]
  have s1 := sp.sm sq hnm
  have s2 := sq.sm sp (by omega)
  simp [wpx, wpo, seq_rD, s1, s2]
  unfold ordF
  simp only [Rat.lt_iff]
  by_cases h1 : p.num * q.den < q.num * p.den
  · simp [h1]
  · by_cases h2 : q.num * p.den < p.num * q.den <;> simp [h1, h2]
theorem size_wp (h : P.defs.lookup ("size" : Str) = some a_size) {p : Rat} : Wp (callN P F (k + 1) "size" [rD p] S) E fun r S' => S' = S ∧ r = rD (absQ p) := by
  apply wp_callN h rfl
  simp only [a_size]
  simp [wpx, wpo, seq_rD, rD_abs]
end
end Lt
set_option maxRecDepth 100000
set_option maxHeartbeats 1000000
namespace Lt
open PySem (Str)
open LawT
theorem divInt_neg_neg (a b : Int) : Rat.divInt (-a) (-b) = Rat.divInt a b := Rat.neg_divInt_neg a b
structure HR (P : Prog) : Prop where
  common : P.defs.lookup ("common" : Str) = some a_common
  ratio : P.defs.lookup ("ratio" : Str) = some a_ratio
section
variable {P : Prog} {F k : Nat} {S : Store} {E : XP}
theorem common_wp (h : P.defs.lookup ("common" : Str) = some a_common) {a b : Int} (hF : b.natAbs < F) :
    Wp (callN P F (k + 1) "common" [.int a, .int b] S) E fun r S' => S' = S ∧ r = .int (a.natAbs.gcd b.natAbs : Nat) := by
  apply wp_callN h rfl
  simp only [a_common]
  simp [wpx, wpo]
  refine wh_rule (fun e S1 => S1 = S ∧ ∃ x y : Int, e = [some (.int x), some (.int y)] ∧ 0 ≤ x ∧ 0 ≤ y ∧ x.natAbs.gcd y.natAbs = a.natAbs.gcd b.natAbs) (fun e _ => match e with
    | [_, some (.int y)] => y.natAbs
    | _ => 0) ?_ F _ _ ⟨rfl, _, _, rfl, by omega, by omega, by simp⟩ (by simp; omega)
  rintro e S1 ⟨rfl, x, y, rfl, hx, hy, hg⟩
  simp [wpx, wpo]
  by_cases h0 : 0 < y
  · left
    refine ⟨h0, ?_⟩
    have hy0 : y ≠ 0 := by omega
    simp [hy0, wpx]
    refine ⟨⟨y, x.fmod y, ⟨rfl, rfl⟩, hy, Int.fmod_nonneg_of_pos _ h0, ?_⟩, ?_⟩
    · rw [gcd_step hx h0, hg]
    · have := Int.fmod_lt_of_pos x h0
      have := Int.fmod_nonneg_of_pos x h0
      omega
  · right
    have hy0 : y = 0 := by omega
    subst hy0
    refine ⟨by omega, ?_⟩
    simp at hg
    omega
theorem ratio_wp (h : HR P) {a b : Int} (hb : b ≠ 0) (hB : b.natAbs < BIG) (hF : BIG ≤ F) :
    Wp (callN P F (k + 2) "ratio" [.int a, .int b] S) E fun r S' => S' = S ∧ r = rD (Rat.divInt a b) := by
  apply wp_callN h.ratio rfl
  simp only [a_ratio]
  simp [wpx, wpo, hb]
  refine (common_wp h.common (by omega)).imp ?_
  rintro r S1 ⟨rfl, rfl⟩
  have hp : 0 < a.natAbs.gcd b.natAbs := Nat.gcd_pos_of_pos_right _ (by omega)
  have hle : a.natAbs.gcd b.natAbs ≤ b.natAbs := Nat.le_of_dvd (by omega) (Nat.gcd_dvd_right _ _)
  have h1 : ((a.natAbs.gcd b.natAbs : Nat) : Int) ≠ 0 := by omega
  have h2 : (a.natAbs.gcd b.natAbs).log2 < 9000 := big_dv (by omega)
  have h3 : ¬ (a = 0 ∧ b = 0) := fun z => hb z.2
  by_cases hn : b < 0
  · have e : rD (Rat.divInt a b) = .tup [.int (a.fdiv (-((a.natAbs.gcd b.natAbs : Nat) : Int))), .int (b.fdiv (-((a.natAbs.gcd b.natAbs : Nat) : Int)))] := by
      rw [← divInt_neg_neg, divInt_rD (by omega), Int.natAbs_neg, Int.natAbs_neg]
      have : ∀ z g : Int, z.fdiv (-g) = (-z).fdiv g := fun z g => by rw [← Int.neg_fdiv_neg, Int.neg_neg]
      rw [this, this, Int.fdiv_eq_ediv_of_nonneg _ (by omega), Int.fdiv_eq_ediv_of_nonneg _ (by omega)]
    simp [wpx, wpo, hn, h1, h2, h3, e]
  · have e : rD (Rat.divInt a b) = .tup [.int (a.fdiv ((a.natAbs.gcd b.natAbs : Nat) : Int)), .int (b.fdiv ((a.natAbs.gcd b.natAbs : Nat) : Int))] := by
      rw [divInt_rD (by omega)]
      rw [Int.fdiv_eq_ediv_of_nonneg _ (by omega), Int.fdiv_eq_ediv_of_nonneg _ (by omega)]
    simp [wpx, wpo, hn, h1, h2, h3, e]
theorem num_ne {q : Rat} (h : q ≠ 0) : q.num ≠ 0 := fun z => h (Rat.num_eq_zero.mp z)
theorem add_divInt (p q : Rat) : Rat.divInt (p.num * q.den + q.num * p.den) (p.den * q.den) = p + q := by
  have h := Rat.divInt_add_divInt p.num q.num (d₁ := p.den) (d₂ := q.den) (by have := p.den_pos; omega) (by have := q.den_pos; omega)
  rw [Rat.num_divInt_den, Rat.num_divInt_den] at h
  exact h.symm
theorem sub_divInt (p q : Rat) : Rat.divInt (p.num * q.den - q.num * p.den) (p.den * q.den) = p - q := by
  have h := Rat.divInt_sub_divInt p.num q.num (d₁ := p.den) (d₂ := q.den) (by have := p.den_pos; omega) (by have := q.den_pos; omega)
  rw [Rat.num_divInt_den, Rat.num_divInt_den] at h
  exact h.symm
theorem mul_divInt (p q : Rat) : Rat.divInt (p.num * q.num) (p.den * q.den) = p * q := by
  have h := Rat.divInt_mul_divInt p.num q.num (d₁ := p.den) (d₂ := q.den)
  rw [Rat.num_divInt_den, Rat.num_divInt_den] at h
  exact h.symm
theorem div_divInt (p q : Rat) : Rat.divInt (p.num * q.den) (p.den * q.num) = p / q := by
  have h := Rat.divInt_mul_divInt p.num q.den (d₁ := p.den) (d₂ := q.num)
  have e : q⁻¹ = Rat.divInt q.den q.num := Rat.inv_def q
  rw [Rat.num_divInt_den, ← e] at h
  rw [Rat.div_def]
  exact h.symm
theorem natAbs_mul_lt {a b : Int} {n m : Nat} (ha : a.natAbs < 2 ^ n) (hb : b.natAbs < 2 ^ m) : (a * b).natAbs < 2 ^ (n + m) := by
  rw [Int.natAbs_mul]
  exact mul_lt_pow ha hb
theorem Sz.dn {n : Nat} {q : Rat} (s : Sz n q) : ((q.den : Nat) : Int).natAbs < 2 ^ n := by simpa using s.2
theorem sz_add {n m : Nat} {p q : Rat} (s : Sz n p) (t : Sz m q) : Sz (n + m + 1) (p + q) := by
  rw [← add_divInt]
  have h1 := natAbs_mul_lt s.1 t.dn
  have h2 := natAbs_mul_lt t.1 s.dn
  rw [Nat.add_comm m n] at h2
  have h3 := natAbs_mul_lt s.dn t.dn
  have e : (2 : Nat) ^ (n + m + 1) = 2 ^ (n + m) * 2 := Nat.pow_succ ..
  refine sz_divInt (Int.mul_pos (den_pos p) (den_pos q)) ?_ ?_ <;> omega
theorem sz_sub {n m : Nat} {p q : Rat} (s : Sz n p) (t : Sz m q) : Sz (n + m + 1) (p - q) := by
  rw [Rat.sub_eq_add_neg]
  exact sz_add s (sz_neg t)
theorem sz_mul {n m : Nat} {p q : Rat} (s : Sz n p) (t : Sz m q) : Sz (n + m) (p * q) := by
  rw [← mul_divInt]
  exact sz_divInt (Int.mul_pos (den_pos p) (den_pos q)) (natAbs_mul_lt s.1 t.1) (natAbs_mul_lt s.dn t.dn)
theorem sz_inv {n : Nat} {q : Rat} (s : Sz n q) : Sz n q⁻¹ := by
  have hp : 0 < 2 ^ n := Nat.pow_pos (by decide)
  unfold Sz
  rw [Rat.num_inv, Rat.den_inv]
  constructor
  · rcases Int.lt_trichotomy q.num 0 with h | h | h
    · rw [Int.sign_eq_neg_one_of_neg h]; simpa using s.2
    · rw [h]; simpa using hp
    · rw [Int.sign_eq_one_of_pos h]; simpa using s.2
  · split
    · have := s.2; have := q.den_pos; omega
    · exact s.1
theorem sz_div {n m : Nat} {p q : Rat} (s : Sz n p) (t : Sz m q) : Sz (n + m) (p / q) := by
  rw [Rat.div_def]
  exact sz_mul s (sz_inv t)
theorem sz_abs {n : Nat} {q : Rat} (s : Sz n q) : Sz n (absQ q) := by
  unfold absQ; split
  · exact sz_neg s
  · exact s
theorem ok_of {P : Prog} {F k : Nat} {f : Str} {ds : List D} (w : Wp (callN P F k f ds []) (fun _ _ => False) fun r _ => r = .bl true) : ∃ S', callN P F k f ds [] = .ok (.bl true) S' := by
  cases h : callN P F k f ds [] with
  | ok r S' =>
    rw [h, wp_ok] at w
    exact ⟨S', by rw [w]⟩
  | exc c S' => rw [h, wp_exc] at w; exact w.elim
  | bad => rw [h, wp_bad] at w; exact w.elim
/-- the four sums -/
structure HS (P : Prog) : Prop extends HR P where
  plus : P.defs.lookup ("plus" : Str) = some a_plus
  minus : P.defs.lookup ("minus" : Str) = some a_minus
  times : P.defs.lookup ("times" : Str) = some a_times
  over : P.defs.lookup ("over" : Str) = some a_over
theorem big_pow {n a : Nat} (h : a < 2 ^ n) (hn : n ≤ 8000) : a < BIG := by
  unfold BIG
  exact Nat.lt_of_lt_of_le h (nat_pow_mono hn)
theorem plus_wp (h : HR P) (hf : P.defs.lookup ("plus" : Str) = some a_plus) {p q : Rat} {n m : Nat} (s : Sz n p) (t : Sz m q) (hnm : n + m ≤ 8000) (hF : BIG ≤ F) :
    Wp (callN P F (k + 3) "plus" [rD p, rD q] S) E fun r S' => S' = S ∧ r = rD (p + q) := by
  apply wp_callN hf rfl
  simp only [a_plus]
  have s1 := s.sm t (by omega)
  have s2 := t.sm s (by omega)
  have s3 := s.smd t (by omega)
  simp [wpx, wpo, seq_rD, s1, s2, s3]
  rw [← add_divInt]
  exact ratio_wp h (Int.ne_of_gt (Int.mul_pos (den_pos p) (den_pos q))) (big_pow (natAbs_mul_lt s.dn t.dn) hnm) hF
theorem minus_wp (h : HR P) (hf : P.defs.lookup ("minus" : Str) = some a_minus) {p q : Rat} {n m : Nat} (s : Sz n p) (t : Sz m q) (hnm : n + m ≤ 8000) (hF : BIG ≤ F) :
    Wp (callN P F (k + 3) "minus" [rD p, rD q] S) E fun r S' => S' = S ∧ r = rD (p - q) := by
  apply wp_callN hf rfl
  simp only [a_minus]
  have s1 := s.sm t (by omega)
  have s2 := t.sm s (by omega)
  have s3 := s.smd t (by omega)
  simp [wpx, wpo, seq_rD, s1, s2, s3]
  rw [← sub_divInt]
  exact ratio_wp h (Int.ne_of_gt (Int.mul_pos (den_pos p) (den_pos q))) (big_pow (natAbs_mul_lt s.dn t.dn) hnm) hF
theorem times_wp (h : HR P) (hf : P.defs.lookup ("times" : Str) = some a_times) {p q : Rat} {n m : Nat} (s : Sz n p) (t : Sz m q) (hnm : n + m ≤ 8000) (hF : BIG ≤ F) :
    Wp (callN P F (k + 3) "times" [rD p, rD q] S) E fun r S' => S' = S ∧ r = rD (p * q) := by
  apply wp_callN hf rfl
  simp only [a_times]
  have s1 := s.smn t (by omega)
  have s3 := s.smd t (by omega)
  simp [wpx, wpo, seq_rD, s1, s3]
  rw [← mul_divInt]
  exact ratio_wp h (Int.ne_of_gt (Int.mul_pos (den_pos p) (den_pos q))) (big_pow (natAbs_mul_lt s.dn t.dn) hnm) hF
theorem over_wp (h : HR P) (hf : P.defs.lookup ("over" : Str) = some a_over) {p q : Rat} {n m : Nat} (s : Sz n p) (t : Sz m q) (hq : q ≠ 0) (hnm : n + m ≤ 8000) (hF : BIG ≤ F) :
    Wp (callN P F (k + 3) "over" [rD p, rD q] S) E fun r S' => S' = S ∧ r = rD (p / q) := by
  apply wp_callN hf rfl
  simp only [a_over]
  have s1 := s.sm t (by omega)
  have s3 := s.smx t (by omega)
  simp [wpx, wpo, seq_rD, s1, s3]
  rw [← div_divInt]
  exact ratio_wp h (Int.mul_ne_zero (Int.ne_of_gt (den_pos p)) (num_ne hq)) (big_pow (natAbs_mul_lt s.dn t.1) hnm) hF
end
end Lt
set_option maxRecDepth 100000
set_option maxHeartbeats 1000000
namespace Lt
open PySem (Str)
open LawT
/-- a sample -/
def smD (m : Int) (v : Rat) : D := .tup [.int m, rD v]
/-- a line -/
def lnD (a b : Rat) : D := .tup [rD a, rD b]
theorem rD_int (m : Int) : D.tup [.int m, .int 1] = rD (m : Rat) := rfl
theorem sz_int {m : Int} {n : Nat} (h : m.natAbs < 2 ^ n) (hn : 0 < n) : Sz n (m : Rat) := ⟨h, by
  show 1 < 2 ^ n
  exact Nat.one_lt_two_pow (by omega)⟩
theorem row_item {ns : List Int} {p : Int} {zs : List Int} {S : Store} {i : Int} (h0 : 0 ≤ i) (h1 : i < zs.length) : itemR (some ((rowF ns p zs).map .int)) i S = .ok (.int (drawF ns p zs i.toNat)) S := by
  refine itemR_int h0 ?_
  rw [List.getElem?_map, row_get (by omega)]
  rfl
theorem pick {xs : List Int} {i : Int} (h0 : 0 ≤ i) (h1 : i < xs.length) : ∃ w ∈ xs, ∀ S, itemR (some (xs.map .int)) i S = .ok (.int w) S := by
  have hi : i.toNat < xs.length := by omega
  exact ⟨xs[i.toNat], List.getElem_mem _, fun S => itemR_int h0 (by simp [hi])⟩
section
variable {P : Prog} {F k : Nat} {S : Store} {E : XP}
/-- how far the middle one stands off the chord -/
def standF (m1 : Int) (v1 : Rat) (m2 : Int) (v2 : Rat) (m3 : Int) (v3 : Rat) : Rat := v2 - (v1 * ((m3 : Rat) - (m2 : Rat)) + v3 * ((m2 : Rat) - (m1 : Rat))) / ((m3 : Rat) - (m1 : Rat))
theorem sz_isub {a b : Int} {n : Nat} (ha : a.natAbs < 2 ^ n) (hb : b.natAbs < 2 ^ n) : Sz (n + 1) ((a : Rat) - (b : Rat)) := by
  have e1 : (2 : Nat) ^ (n + 1) = 2 ^ n * 2 := Nat.pow_succ ..
  rw [← Rat.intCast_sub]
  exact sz_int (by omega) (by omega)
end
end Lt
set_option maxRecDepth 100000
set_option maxHeartbeats 1000000
namespace Lt
open PySem (Str)
open LawT
def chordF (m1 : Int) (v1 : Rat) (w : Int) (m3 : Int) (v3 : Rat) : Rat := (v1 * ((m3 : Rat) - (w : Rat)) + v3 * ((w : Rat) - (m1 : Rat))) / ((m3 : Rat) - (m1 : Rat))
end Lt
set_option maxRecDepth 100000
set_option maxHeartbeats 1000000
namespace Lt
open PySem (Str)
open LawT
theorem sz_chord2 {m1 w m3 : Int} {v1 v3 : Rat} {n m : Nat} (s1 : Sz n v1) (s3 : Sz n v3) (t1 : m1.natAbs < 2 ^ m) (tw : w.natAbs < 2 ^ m) (t3 : m3.natAbs < 2 ^ m) : Sz (2 * n + 3 * m + 4) (chordF m1 v1 w m3 v3) :=
  (sz_div (sz_add (sz_mul s1 (sz_isub t3 tw)) (sz_mul s3 (sz_isub tw t1))) (sz_isub t3 t1)).mono (by omega)
section
variable {P : Prog} {F k : Nat} {S : Store} {E : XP}
theorem sz_stand2 {m1 m2 m3 : Int} {v1 v2 v3 : Rat} {n c m : Nat} (s1 : Sz n v1) (s2 : Sz c v2) (s3 : Sz n v3) (t1 : m1.natAbs < 2 ^ m) (t2 : m2.natAbs < 2 ^ m) (t3 : m3.natAbs < 2 ^ m) : Sz (c + (2 * n + 3 * m + 4) + 1) (standF m1 v1 m2 v2 m3 v3) :=
  sz_sub s2 (sz_chord2 s1 s3 t1 t2 t3)
end
theorem absQ_neg (q : Rat) : absQ (-q) = absQ q := by
  unfold absQ
  split <;> split <;> grind
end Lt
set_option maxRecDepth 100000
set_option maxHeartbeats 1000000
namespace Lt
open PySem (Str)
open LawT
class SZ (q : Rat) (n : outParam Nat) : Prop where
  z : Sz n q
class IZ (i : Int) (n : outParam Nat) : Prop where
  z : i.natAbs < 2 ^ n
section
variable {p q : Rat} {i j : Int} {n m : Nat}
instance [a : SZ p n] [b : SZ q m] : SZ (p + q) (n + m + 1) := ⟨sz_add a.z b.z⟩
instance [a : SZ p n] [b : SZ q m] : SZ (p - q) (n + m + 1) := ⟨sz_sub a.z b.z⟩
instance [a : SZ p n] [b : SZ q m] : SZ (p * q) (n + m) := ⟨sz_mul a.z b.z⟩
instance [a : SZ p n] [b : SZ q m] : SZ (p / q) (n + m) := ⟨sz_div a.z b.z⟩
instance [a : SZ p n] : SZ (-p) n := ⟨sz_neg a.z⟩
instance [a : SZ p n] : SZ (absQ p) n := ⟨sz_abs a.z⟩
instance [a : IZ i n] : SZ (i : Rat) (n + 1) := ⟨sz_int (Nat.lt_of_lt_of_le a.z (nat_pow_mono (by omega))) (by omega)⟩
instance : SZ 0 1 := ⟨by decide, by decide⟩
instance : SZ 1 1 := ⟨by decide, by decide⟩
instance : SZ 2 2 := ⟨by decide, by decide⟩
instance [a : SZ p n] : IZ p.num n := ⟨a.z.1⟩
instance [a : SZ p n] : IZ (p.den : Int) n := ⟨by simpa using a.z.2⟩
instance [a : IZ i n] [b : IZ j m] : IZ (i + j) (n + m + 1) := ⟨by
  have h1 := a.z
  have h2 := b.z
  have e1 : 2 ^ n ≤ 2 ^ (n + m) := nat_pow_mono (by omega)
  have e2 : 2 ^ m ≤ 2 ^ (n + m) := nat_pow_mono (by omega)
  have e3 : 2 ^ (n + m + 1) = 2 ^ (n + m) * 2 := Nat.pow_succ ..
  omega⟩
instance [a : IZ i n] [b : IZ j m] : IZ (i - j) (n + m + 1) := ⟨by
  have h1 := a.z
  have h2 := b.z
  have e1 : 2 ^ n ≤ 2 ^ (n + m) := nat_pow_mono (by omega)
  have e2 : 2 ^ m ≤ 2 ^ (n + m) := nat_pow_mono (by omega)
  have e3 : 2 ^ (n + m + 1) = 2 ^ (n + m) * 2 := Nat.pow_succ ..
  omega⟩
instance [a : IZ i n] [b : IZ j m] : IZ (i * j) (n + m) := ⟨natAbs_mul_lt a.z b.z⟩
instance [a : IZ i n] : IZ (-i) n := ⟨by rw [Int.natAbs_neg]; exact a.z⟩
instance [a : IZ i n] : IZ (i.natAbs : Int) n := ⟨by simpa using a.z⟩
instance : IZ 0 1 := ⟨by decide⟩
instance : IZ 1 1 := ⟨by decide⟩
instance : IZ 2 2 := ⟨by decide⟩
instance : IZ 3 2 := ⟨by decide⟩
instance : IZ 4 3 := ⟨by decide⟩
instance : IZ 5 3 := ⟨by decide⟩
instance : IZ 6 3 := ⟨by decide⟩
instance : IZ 7 3 := ⟨by decide⟩
instance : IZ 8 4 := ⟨by decide⟩
instance : IZ 9 4 := ⟨by decide⟩
instance : IZ 10 4 := ⟨by decide⟩
instance : IZ 11 4 := ⟨by decide⟩
instance : IZ 12 4 := ⟨by decide⟩
instance : IZ 13 4 := ⟨by decide⟩
instance : IZ 14 4 := ⟨by decide⟩
instance : IZ 15 4 := ⟨by decide⟩
instance : IZ 16 5 := ⟨by decide⟩
instance : IZ 17 5 := ⟨by decide⟩
instance : IZ 18 5 := ⟨by decide⟩
instance : IZ 19 5 := ⟨by decide⟩
instance : IZ 20 5 := ⟨by decide⟩
instance : IZ 21 5 := ⟨by decide⟩
instance : IZ 22 5 := ⟨by decide⟩
instance : IZ 23 5 := ⟨by decide⟩
instance : IZ 24 5 := ⟨by decide⟩
instance : IZ 25 5 := ⟨by decide⟩
instance : IZ 26 5 := ⟨by decide⟩
instance : IZ 27 5 := ⟨by decide⟩
instance : IZ 28 5 := ⟨by decide⟩
instance : IZ 29 5 := ⟨by decide⟩
instance : IZ 30 5 := ⟨by decide⟩
instance : IZ 31 5 := ⟨by decide⟩
instance : IZ 32 6 := ⟨by decide⟩
instance : IZ 33 6 := ⟨by decide⟩
instance : IZ 34 6 := ⟨by decide⟩
instance : IZ 35 6 := ⟨by decide⟩
instance : IZ 36 6 := ⟨by decide⟩
instance : IZ 37 6 := ⟨by decide⟩
instance : IZ 38 6 := ⟨by decide⟩
instance : IZ 39 6 := ⟨by decide⟩
instance : IZ 40 6 := ⟨by decide⟩
instance : IZ 60 6 := ⟨by decide⟩
instance : IZ 100 7 := ⟨by decide⟩
instance : IZ 120 7 := ⟨by decide⟩
instance : IZ 1000 10 := ⟨by decide⟩
instance : IZ 1009 10 := ⟨by decide⟩
instance : IZ 7919 13 := ⟨by decide⟩
theorem divInt_eq_div (a b : Int) : Rat.divInt a b = (a : Rat) / (b : Rat) := Rat.divInt_eq_div a b
instance [a : IZ i n] [b : IZ j m] : SZ (Rat.divInt i j) (n + m + 2) := ⟨by
  rw [divInt_eq_div]
  have h := (inferInstance : SZ ((i : Rat) / (j : Rat)) (n + 1 + (m + 1))).z
  exact h.mono (by omega)⟩
theorem SZ.of (h : Sz n q) : SZ q n := ⟨h⟩
theorem sm_iz [a : IZ i n] [b : IZ j m] (h : n + m < 1000000) : Sm i j := sm_of n m a.z b.z h
end
theorem eq_of_wp {α : Type} {r : R α} {S : Store} {x : α} (h : Wp r (fun _ _ => False) fun a S' => S' = S ∧ a = x) : r = .ok x S := by
  cases r with
  | ok a S' => rw [wp_ok] at h; obtain ⟨rfl, rfl⟩ := h; rfl
  | exc c S' => rw [wp_exc] at h; exact h.elim
  | bad => rw [wp_bad] at h; exact h.elim
/-- the answer of a pure function's body -/
theorem call_eq {P : Prog} {F k : Nat} {f : Str} {m : Def} {ds : List D} {S : Store} {x : D} (h : P.defs.lookup f = some m) (hl : ds.length = m.ps.length)
    (w : WpS (exB (P.cx F (callN P F k)) m.body (ds.map some ++ List.replicate (m.ns.length - ds.length) none) S) { nx := fun _ S' => S' = S ∧ D.non = x, rt := fun d S' => S' = S ∧ d = x }) : callN P F (k + 1) f ds S = .ok x S :=
  eq_of_wp (wp_callN h hl w)
section
variable {p q : Rat}
theorem ord_pos : (0 < ordF p q) = (q < p) := by
  unfold ordF; split
  · have : ¬ q < p := by grind
    simp [this]
  · split <;> simp [*]
theorem ord_neg : (ordF p q < 0) = (p < q) := by
  unfold ordF; split
  · simp [*]
  · split <;> simp [*]
theorem ord_nonpos : (ordF p q ≤ 0) = (p ≤ q) := by
  unfold ordF; split
  · have : p ≤ q := by grind
    simp [this]
  · split
    · have : ¬ p ≤ q := by grind
      simp [this]
    · have : p ≤ q := by grind
      simp [this]
end
section
variable {P : Prog} {F k n m : Nat} {S : Store} {p q : Rat}
theorem lratio_e (h : P.defs.lookup ("_law_ratio" : Str) = some a__law_ratio) (hF : BIG ≤ F) {i j : Int} [b : IZ j m] (hj : 0 < j) (hm : m ≤ 8000) : callN P F (k + 1) "_law_ratio" [.int i, .int j] S = .ok (rD (Rat.divInt i j)) S := eq_of_wp (law_ratio_wp h hj (big_pow b.z hm) hF)
theorem is_ratio_e (h : P.defs.lookup ("_law_is_ratio" : Str) = some a__law_is_ratio) (hr : P.defs.lookup ("_law_ratio" : Str) = some a__law_ratio) (hF : BIG ≤ F) [a : SZ q n] (hn : n ≤ 8000) : callN P F (k + 2) "_law_is_ratio" [rD q] S = .ok (.bl true) S := eq_of_wp (law_is_ratio_wp h hr (big_pow a.z.2 hn) hF)
end
section
variable {P : Prog} {F k n n' m m' : Nat} {S : Store} {v v' : Rat} {t t' : Int}
instance {m1 m2 m3 : Int} {v1 v2 v3 : Rat} {c : Nat} [s1 : SZ v1 n] [s2 : SZ v2 c] [s3 : SZ v3 n] [t1 : IZ m1 m] [t2 : IZ m2 m] [t3 : IZ m3 m] : SZ (standF m1 v1 m2 v2 m3 v3) (c + (2 * n + 3 * m + 4) + 1) := ⟨sz_stand2 s1.z s2.z s3.z t1.z t2.z t3.z⟩
end
end Lt
set_option maxRecDepth 100000
set_option maxHeartbeats 1000000
namespace Lt
open PySem (Str)
open LawT
abbrev Ent := Int × Option Rat
def entD : Ent → D
  | (m, some q) => .tup [.int m, rD q]
  | (m, none) => .tup [.int m, .non]
def valD : Option Rat → D
  | some q => rD q
  | none => .non
theorem entD_eq (e : Ent) : entD e = .tup [.int e.1, valD e.2] := by
  obtain ⟨m, v⟩ := e
  cases v <;> rfl
def entP : Ent → PySem.PyData
  | (m, some q) => .tuple [.int m, .tuple [.int q.num, .int q.den]]
  | (m, none) => .tuple [.int m, .none]
theorem toP_ent (S : Store) (n : Nat) (e : Ent) : toP S (n + 3) (entD e) = some (entP e) := by
  obtain ⟨m, v⟩ := e
  cases v with
  | none => simp [entD, toP, mapO, entP]
  | some q => simp [entD, rD, toP, mapO, entP]
theorem toP_ents (S : Store) (n : Nat) : ∀ es : List Ent, mapO (toP S (n + 3)) (es.map entD) = some (es.map entP)
  | [] => rfl
  | e :: es => by simp [mapO, toP_ent, toP_ents S n es]
theorem eqv_ent (e : Ent) : PySem.PyData.eqv (entP e) (entP e) = true := by
  obtain ⟨m, v⟩ := e
  cases v <;> simp [entP, PySem.PyData.eqv, PySem.PyData.eqvAll]
theorem eqv_ents : ∀ es : List Ent, PySem.PyData.eqvAll (es.map entP) (es.map entP) = true
  | [] => by simp [PySem.PyData.eqvAll]
  | e :: es => by simp [PySem.PyData.eqvAll, eqv_ent, eqv_ents es]
theorem eqD_rows {S : Store} {a b : Nat} {es : List Ent} (ha : getL S a = some (es.map entD)) (hb : getL S b = some (es.map entD)) : eqD S (.ref a) (.ref b) = some true := by
  unfold eqD
  have h : ∀ c, getL S c = some (es.map entD) → toP S 12 (.ref c) = some (.list (es.map entP)) := fun c hc => by
    show (match getL S c with
      | some xs => (mapO (toP S 11) xs).map PySem.PyData.list
      | none => none) = _
    rw [hc]
    simp only
    rw [toP_ents S 8 es]
    rfl
  rw [h a ha, h b hb]
  simp [PySem.PyData.eqv, eqv_ents]
section
variable {P : Prog} {F k : Nat} {S : Store} {E : XP}
theorem ent_seq {e : Ent} : seqOf S (entD e) = some [.int e.1, valD e.2] := by rw [entD_eq]; rfl
theorem isN_val {v : Option Rat} : isN (valD v) = v.isNone := by cases v <;> rfl
theorem flat_get {α : Type} {l : List α} {n i j : Nat} (hi : i < n) (hj : j < l.length) : (List.replicate n l).flatten[l.length * i + j]? = l[j]? := by
  induction n generalizing i with
  | zero => omega
  | succ n ih =>
    rw [List.replicate_succ, List.flatten_cons]
    rcases i with _ | i
    · rw [Nat.mul_zero, Nat.zero_add, List.getElem?_append_left hj]
    · rw [List.getElem?_append_right (by rw [Nat.mul_succ]; omega)]
      have : l.length * (i + 1) + j - l.length = l.length * i + j := by rw [Nat.mul_succ]; omega
      rw [this]
      exact ih (by omega)
end
end Lt
set_option maxRecDepth 100000
set_option maxHeartbeats 1000000
namespace Lt
open PySem (Str)
open LawT
def LLs (S : Store) : List Nat → List (List Ent) → Prop
  | [], [] => True
  | q :: qs, r :: rs => getL S q = some (r.map entD) ∧ LLs S qs rs
  | _, _ => False
theorem LLs.len {S : Store} : ∀ {qs : List Nat} {rs : List (List Ent)}, LLs S qs rs → qs.length = rs.length
  | [], [], _ => rfl
  | q :: qs, r :: rs, h => by simp [LLs.len h.2]
theorem LLs.snoc {S : Store} {q : Nat} {r : List Ent} (hq : getL S q = some (r.map entD)) : ∀ {qs : List Nat} {rs : List (List Ent)}, LLs S qs rs → LLs S (qs ++ [q]) (rs ++ [r])
  | [], [], _ => ⟨hq, trivial⟩
  | _ :: _, _ :: _, h => ⟨h.1, LLs.snoc hq h.2⟩
theorem LLs.ext {S S' : Store} (e : Ext S S') : ∀ {qs : List Nat} {rs : List (List Ent)}, LLs S qs rs → LLs S' qs rs
  | [], [], _ => trivial
  | _ :: _, _ :: _, h => ⟨e.getL h.1, LLs.ext e h.2⟩
theorem LLs.set {S : Store} {n : Nat} {c : Cell} : ∀ {qs : List Nat} {rs : List (List Ent)}, LLs S qs rs → n ∉ qs → LLs (S.set n c) qs rs
  | [], [], _, _ => trivial
  | q :: qs, _ :: _, h, hn => by
    rw [List.mem_cons, not_or] at hn
    exact ⟨by rw [getL_set_ne hn.1]; exact h.1, LLs.set h.2 hn.2⟩
theorem LLs.get {S : Store} : ∀ {qs : List Nat} {rs : List (List Ent)} {i : Nat} {q : Nat}, LLs S qs rs → qs[i]? = some q → ∃ r, rs[i]? = some r ∧ getL S q = some (r.map entD)
  | [], [], _, _, _, e => by simp at e
  | q :: qs, r :: rs, i, p, h, e => by
    cases i with
    | zero => simp at e; subst e; exact ⟨r, by simp, h.1⟩
    | succ i => simp at e; obtain ⟨x, h1, h2⟩ := LLs.get h.2 e; exact ⟨x, by simpa using h1, h2⟩
theorem LLs.mem {S : Store} : ∀ {qs : List Nat} {rs : List (List Ent)}, LLs S qs rs → ∀ q ∈ qs, ∃ r ∈ rs, getL S q = some (r.map entD)
  | [], [], _, q, hq => by cases hq
  | p :: qs, r :: rs, h, q, hq => by
    rcases List.mem_cons.mp hq with rfl | hq
    · exact ⟨r, List.mem_cons_self .., h.1⟩
    · obtain ⟨x, h1, h2⟩ := LLs.mem h.2 q hq
      exact ⟨x, List.mem_cons_of_mem _ h1, h2⟩
/-- a new list of new lists -/
def IsLL (S S' : Store) (x : D) (rs : List (List Ent)) : Prop := Ext S S' ∧ ∃ t qs, x = .ref t ∧ S.length ≤ t ∧ getL S' t = some (qs.map .ref) ∧ (∀ q ∈ qs, S.length ≤ q ∧ q ≠ t) ∧ LLs S' qs rs
def stepR (s : List (List Ent) × List Ent) (e : Ent) : List (List Ent) × List Ent := if e.2.isSome = true then (s.1, s.2 ++ [e]) else if 0 < s.2.length then (s.1 ++ [s.2], []) else s
def closeR (s : List (List Ent) × List Ent) : List (List Ent) := if 0 < s.2.length then s.1 ++ [s.2] else s.1
def foldR (es : List Ent) : List (List Ent) × List Ent := es.foldl stepR ([], [])
def runsF (es : List Ent) : List (List Ent) := closeR (foldR es)
def sampF (es : List Ent) : List Ent := es.filter fun e => e.2.isSome
theorem foldR_snoc (es : List Ent) (e : Ent) : foldR (es ++ [e]) = stepR (foldR es) e := by
  unfold foldR
  rw [List.foldl_append]
  rfl
section
variable {P : Prog} {F k : Nat} {S : Store} {E : XP}
/-- the store of the loop in runs -/
def RInv (S : Store) (r : Nat) (s : List (List Ent) × List Ent) (e : Env) (S2 : Store) : Prop := Ext S S2 ∧ ∃ t o qs x, e = [some (.ref r), some (.ref t), some (.ref o), x] ∧ S.length ≤ t ∧ S.length ≤ o ∧ t ≠ o ∧ getL S2 t = some (qs.map .ref) ∧ getL S2 o = some (s.2.map entD) ∧ (∀ q ∈ qs, S.length ≤ q ∧ q ≠ t ∧ q ≠ o) ∧ LLs S2 qs s.1
theorem fold_len (es : List Ent) : (foldR es).1.length ≤ es.length ∧ (foldR es).2.length ≤ es.length := by
  have key : ∀ n, n ≤ es.length → (foldR (es.take n)).1.length ≤ n ∧ (foldR (es.take n)).2.length ≤ n := by
    intro n
    induction n with
    | zero => intro _; simp [foldR]
    | succ n ih =>
      intro hn
      obtain ⟨a, b⟩ := ih (by omega)
      have hc : es[n]? = some es[n] := by simp
      rw [List.take_succ, hc, Option.toList, foldR_snoc]
      unfold stepR
      split
      · simp; omega
      · split
        · simp; omega
        · omega
  have := key es.length (Nat.le_refl _)
  rwa [List.take_length] at this
theorem runs_wp (hf : P.defs.lookup ("runs" : Str) = some a_runs) {r : Nat} {es : List Ent} (hr : getL S r = some (es.map entD)) (hl : es.length ≤ 100) :
    Wp (callN P F (k + 1) "runs" [.ref r] S) E fun x S' => IsLL S S' x (runsF es) := by
  apply wp_callN hf rfl
  simp only [a_runs]
  try simp [wpx, wpo, wps]
  refine for_seq (xs := es.map entD) (fun i e S2 => RInv S r (foldR (es.take i)) e S2) (Ext.one.seqOf hr) ?_ ?_ ?_
  · refine ⟨Ext.one, S.length, S.length + 1, [], none, rfl, by omega, by omega, by omega, getL_app0, getL_app, ⟨(fun q hq => by cases hq), trivial⟩⟩
  · rintro i x e S2 hx hi ⟨hE, t, o, qs, y, rfl, ht, ho, hto, hgt, hgo, hqs, hll⟩
    obtain ⟨c, hc, rfl⟩ := map_get hx
    have hfl := fold_len (es.take i)
    have hfi : (es.take i).length ≤ 100 := by simp; omega
    have hst : foldR (es.take (i + 1)) = stepR (foldR (es.take i)) c := by
      rw [List.take_succ, hc, Option.toList, foldR_snoc]
    rw [hst]
    generalize foldR (es.take i) = s at *
    obtain ⟨d, cur⟩ := s
    simp only at *
    have hcl : cur.length < lim := by unfold lim; omega
    have hql : qs.length < lim := by rw [hll.len]; unfold lim; omega
    refine ⟨hE.getL hr, _, bind_name (by simp), ?_⟩
    have hlt := getL_lt hgt
    have hlo := getL_lt hgo
    by_cases hv : c.2 = none
    · by_cases hc0 : 0 < cur.length
      · simp [wpx, wpo, wps, ent_seq, isN_val, hv, hgo, hgt, hc0, hql]
        have e1 : stepR (d, cur) c = (d ++ [cur], []) := by
          unfold stepR
          simp [hv, hc0]
        rw [e1]
        have hon : t ∉ qs := fun h => (hqs t h).2.1 rfl
        have hE4 := hE.set (c := .lst (qs.map D.ref ++ [D.ref o])) ht
        refine ⟨hE4.app, t, S2.length, qs ++ [o], _, rfl, ht, by have := hE.len; omega, by omega, ?_, ?_, ?_, ?_⟩
        · rw [Ext.one.getL (getL_set hlt), List.map_append]; rfl
        · have := getL_new (S := S2.set t (.lst (qs.map D.ref ++ [D.ref o]))) (xs := [])
          rw [List.length_set] at this
          exact this
        · intro q hq
          rcases List.mem_append.mp hq with h | h
          · obtain ⟨r', _, hr'⟩ := hll.mem q h
            have := getL_lt hr'
            exact ⟨(hqs q h).1, (hqs q h).2.1, by omega⟩
          · rw [List.mem_singleton] at h
            subst h
            exact ⟨ho, Ne.symm hto, by omega⟩
        · refine LLs.snoc ?_ ((hll.set hon).ext Ext.one)
          exact Ext.one.getL (by rw [getL_set_ne hto]; exact hgo)
      · simp [wpx, wpo, wps, ent_seq, isN_val, hv, hgo, hgt, hc0, hql]
        have e1 : stepR (d, cur) c = (d, cur) := by
          unfold stepR
          simp [hv, hc0]
        rw [e1]
        exact ⟨hE, t, o, qs, _, rfl, ht, ho, hto, hgt, hgo, hqs, hll⟩
    · simp [wpx, wpo, wps, ent_seq, isN_val, hv, hgo, hgt, hcl]
      have e1 : stepR (d, cur) c = (d, cur ++ [c]) := by
        unfold stepR
        have : c.2.isSome = true := by cases h : c.2 with
          | none => exact absurd h hv
          | some _ => rfl
        simp [this]
      rw [e1]
      refine ⟨hE.set ho, t, o, qs, _, rfl, ht, ho, hto, ?_, ?_, hqs, hll.set fun h => (hqs o h).2.2 rfl⟩
      · rw [getL_set_ne (Ne.symm hto)]; exact hgt
      · rw [getL_set hlo, List.map_append]; rfl
  · rintro e S2 ⟨hE, t, o, qs, y, rfl, ht, ho, hto, hgt, hgo, hqs, hll⟩
    refine ⟨hE.getL hr, ?_⟩
    rw [List.take_of_length_le (by simp)] at *
    have hfl := fold_len es
    unfold runsF closeR
    generalize foldR es = s at *
    obtain ⟨d, cur⟩ := s
    simp only at *
    have hql : qs.length < lim := by rw [hll.len]; unfold lim; omega
    have hlt := getL_lt hgt
    by_cases hc0 : 0 < cur.length
    · simp [wpx, wpo, wps, hgo, hgt, hc0, hql]
      have hon : t ∉ qs := fun h => (hqs t h).2.1 rfl
      refine ⟨hE.set ht, t, qs ++ [o], rfl, ht, ?_, ?_, ?_⟩
      · rw [getL_set hlt, List.map_append]; rfl
      · intro q hq
        rcases List.mem_append.mp hq with h | h
        · exact ⟨(hqs q h).1, (hqs q h).2.1⟩
        · rw [List.mem_singleton] at h
          subst h
          exact ⟨ho, Ne.symm hto⟩
      · exact LLs.snoc (by rw [getL_set_ne hto]; exact hgo) (hll.set hon)
    · simp [wpx, wpo, wps, hgo, hgt, hc0, hql]
      exact ⟨hE, t, qs, rfl, ht, hgt, fun q hq => ⟨(hqs q hq).1, (hqs q hq).2.1⟩, hll⟩
end
end Lt
set_option maxRecDepth 100000
set_option maxHeartbeats 2000000
namespace Lt
open PySem (Str)
open LawT
/-- a def by its body alone -/
structure Has (P : Prog) (f : Str) (np nn : Nat) (b : List St) : Prop where
  ex : ∃ ps ns, P.defs.lookup f = some ⟨ps, ns, [], b⟩ ∧ ps.length = np ∧ ns.length = nn
theorem wp_has {P : Prog} {F k np nn : Nat} {f : Str} {b : List St} {ds : List D} {S : Store} {E : XP} {Q : D → Store → Prop} (h : Has P f np nn b) (hl : ds.length = np)
    (w : WpS (exB (P.cx F (callN P F k)) b (ds.map some ++ List.replicate (nn - ds.length) none) S) { nx := fun _ S => Q .non S, rt := Q, ex := fun c _ S => E c S }) : Wp (callN P F (k + 1) f ds S) E Q := by
  obtain ⟨ps, ns, h1, h2, h3⟩ := h.ex
  exact wp_callN h1 (by rw [hl, h2]) (by rw [h3]; exact w)
theorem has_eq {P : Prog} {F k np nn : Nat} {f : Str} {b : List St} {ds : List D} {S : Store} {x : D} (h : Has P f np nn b) (hl : ds.length = np)
    (w : WpS (exB (P.cx F (callN P F k)) b (ds.map some ++ List.replicate (nn - ds.length) none) S) { nx := fun _ S' => S' = S ∧ D.non = x, rt := fun d S' => S' = S ∧ d = x }) : callN P F (k + 1) f ds S = .ok x S :=
  eq_of_wp (wp_has h hl w)
abbrev EnN := Int × Option Int
def numD : Option Int → D
  | some n => .int n
  | none => .non
def enD (e : EnN) : D := .tup [.int e.1, numD e.2]
def EnB (b : Nat) (e : EnN) : Prop := e.1.natAbs < 2 ^ 42 ∧ ∀ n, e.2 = some n → n.natAbs < 2 ^ b
def RowN (b : Nat) (es : List EnN) : Prop := es.Pairwise (fun x y => x.1 < y.1) ∧ ∀ e ∈ es, EnB b e
/-- a new list of such -/
def IsN (S S' : Store) (x : D) (es : List EnN) : Prop := Ext S S' ∧ ∃ q, x = .ref q ∧ S.length ≤ q ∧ getL S' q = some (es.map enD)
section
variable {P : Prog} {F k : Nat} {S : Store} {E : XP}
theorem en_seq {e : EnN} : seqOf S (enD e) = some [.int e.1, numD e.2] := rfl
theorem isN_num {v : Option Int} : isN (numD v) = v.isNone := by cases v <;> rfl
theorem times_row_wp (h : Has P "_law_times" 2 5 b__law_times) {r : Nat} {es : List EnN} {w : Int} (hr : getL S r = some (es.map enD)) (hl : es.length ≤ 100) {b : Nat} (hb : ∀ e ∈ es, EnB b e) (hw : w.natAbs < 2 ^ 60) (hb2 : b ≤ 1000) :
    Wp (callN P F (k + 1) "_law_times" [.ref r, .int w] S) E fun x S' => IsN S S' x (es.map fun e => (e.1, e.2.map (· * w))) := by
  apply wp_has h rfl
  simp only [b__law_times]
  simp [wpx, wpo, wps]
  refine for_seq (xs := es.map enD) (fun i e S2 => Ext S S2 ∧ ∃ o x1 x2, e = [some (.ref r), some (.int w), some (.ref o), x1, x2] ∧ S.length ≤ o ∧ getL S2 o = some ((es.take i).map fun e => enD (e.1, e.2.map (· * w)))) (Ext.one.seqOf hr) ?_ ?_ ?_
  · exact ⟨Ext.one, S.length, none, none, rfl, Nat.le_refl _, by simp [getL_new]⟩
  · rintro i x e S2 hx hi ⟨hE, o, x1, x2, rfl, ho, hg⟩
    obtain ⟨c, hc, rfl⟩ := map_get hx
    have hcm : c ∈ es := List.mem_of_getElem? hc
    have hlt := getL_lt hg
    have hlen : (es.take i).length < lim := by simp; unfold lim; omega
    simp at hlen
    refine ⟨hE.getL hr, _, by simp only [bindT, en_seq]; simp [setAll]; rfl, ?_⟩
    have e1 : (es.take (i + 1)).map (fun e => enD (e.1, e.2.map (· * w))) = (es.take i).map (fun e => enD (e.1, e.2.map (· * w))) ++ [enD (c.1, c.2.map (· * w))] := by
      rw [List.take_succ, hc]; simp
    rw [e1]
    obtain ⟨m, v⟩ := c
    cases v with
    | none =>
      simp [wpx, wpo, wps, numD, isN, hg, hlen]
      exact ⟨hE.set ho, ho, by rw [getL_set hlt]; simp [enD, numD]⟩
    | some n =>
      have hn := (hb _ hcm).2 n rfl
      have sm : Sm n w := sm_of b 60 hn hw (by omega)
      simp [wpx, wpo, wps, numD, isN, hg, hlen, sm]
      exact ⟨hE.set ho, ho, by rw [getL_set hlt]; simp [enD, numD]⟩
  · rintro e S2 ⟨hE, o, x1, x2, rfl, ho, hg⟩
    refine ⟨hE.getL hr, ?_⟩
    rw [List.take_of_length_le (by simp)] at hg
    simp [wpx, wpo]
    exact ⟨hE, o, rfl, ho, by rw [hg]; simp⟩
/-- what a draw tells: its numbers -/
structure Drs (most : Nat) (xs : List D) (v : Nat → Int) : Prop where
  it : ∀ (i : Int) S', 0 ≤ i → i < 13 + 3 * most → itemR (some xs) i S' = .ok (.int (v i.toNat)) S'
  b0 : 0 ≤ v 0 ∧ v 0 < most + 1
  b1 : 0 ≤ v 1 ∧ v 1 < 4
  b2 : 0 ≤ v 2 ∧ v 2 < 5
  b3 : 0 ≤ v 3 ∧ v 3 < 12
  b4 : 0 ≤ v 4 ∧ v 4 < 3
  b5 : 0 ≤ v 5 ∧ v 5 < 4
  b6 : 0 ≤ v 6 ∧ v 6 < 7
  b7 : 0 ≤ v 7 ∧ v 7 < 3
  b8 : 0 ≤ v 8
  b9 : 0 ≤ v 9
  b10 : 0 ≤ v 10
  b11 : 0 ≤ v 11 ∧ v 11 < 4
  b12 : 0 ≤ v 12 ∧ v 12 < 3
  c0 : ∀ i, i < most → 0 ≤ v (3 * i + 13) ∧ v (3 * i + 13) < 3
  c1 : ∀ i, i < most → 0 ≤ v (3 * i + 14) ∧ v (3 * i + 14) < 9
  c2 : ∀ i, i < most → 0 ≤ v (3 * i + 15) ∧ v (3 * i + 15) < 25
theorem rown_snoc {b : Nat} {es : List EnN} {M m : Int} {v : Option Int} (h : RowN b es) (hle : ∀ e ∈ es, e.1 ≤ M) (hm : M < m) (hn : m.natAbs < 2 ^ 42) (hv : ∀ q, v = some q → q.natAbs < 2 ^ b) : RowN b (es ++ [(m, v)]) ∧ ∀ e ∈ es ++ [(m, v)], e.1 ≤ m := by
  refine ⟨⟨?_, fun e he => ?_⟩, fun e he => ?_⟩
  · rw [List.pairwise_append]
    refine ⟨h.1, by simp, fun a ha b hb => ?_⟩
    rw [List.mem_singleton] at hb
    subst hb
    have := hle a ha
    show a.1 < m
    omega
  · rcases List.mem_append.mp he with z | z
    · exact h.2 e z
    · rw [List.mem_singleton] at z
      subst z
      exact ⟨hn, hv⟩
  · rcases List.mem_append.mp he with z | z
    · have := hle e z; omega
    · rw [List.mem_singleton] at z
      subst z
      exact Int.le_refl _
def ShI (B : Store) (r : Nat) (sc : Int) (td : D) (i : Nat) (e : Env) (S2 : Store) : Prop := Ext B S2 ∧ ∃ (es : List EnN) (M up rise : Int) (o : Nat) (x7 x8 x9 x10 : Option D), e = [some (.ref r), some (.int sc), some td, some (.int M), some (.int up), some (.int rise), some (.ref o), x7, x8, x9, x10] ∧ B.length ≤ o ∧ getL S2 o = some (es.map enD) ∧ es.length = i ∧
  M.natAbs ≤ 1000000000001 + 3000 * i ∧ rise.natAbs ≤ 4 * i ∧ up.natAbs ≤ 500 * i ∧ RowN 80 es ∧ ∀ e ∈ es, e.1 ≤ M
theorem shaped_wp (h : Has P "_law_shaped" 3 11 b__law_shaped) {r : Nat} {xs : List D} {v : Nat → Int} {most : Nat} (hd : Drs most xs v) (hr : getL S r = some xs) (hm : most < 100) {sc a b : Int} (hsc : 0 ≤ sc ∧ sc < 2 ^ 41) (ha : a.natAbs < 2 ^ 31) (hb : b.natAbs < 2 ^ 41) :
    Wp (callN P F (k + 1) "_law_shaped" [.ref r, .int sc, .tup [.int a, .int b]] S) E fun x S' => ∃ es, IsN S S' x es ∧ RowN 80 es ∧ es.length ≤ most := by
  apply wp_has h rfl
  simp only [b__law_shaped]
  have b0 := hd.b0
  have b1 := hd.b1
  have b4 := hd.b4
  have b5 := hd.b5
  have b12 := hd.b12
  have it := hd.it
  have i0 : ∀ S', itemR (some xs) 0 S' = .ok (.int (v 0)) S' := fun S' => it 0 S' (by omega) (by omega)
  have i1 : ∀ S', itemR (some xs) 1 S' = .ok (.int (v 1)) S' := fun S' => it 1 S' (by omega) (by omega)
  have i4 : ∀ S', itemR (some xs) 4 S' = .ok (.int (v 4)) S' := fun S' => it 4 S' (by omega) (by omega)
  have i5 : ∀ S', itemR (some xs) 5 S' = .ok (.int (v 5)) S' := fun S' => it 5 S' (by omega) (by omega)
  have i12 : ∀ S', itemR (some xs) 12 S' = .ok (.int (v 12)) S' := fun S' => it 12 S' (by omega) (by omega)
  obtain ⟨w1, hw1, p1⟩ := pick (xs := [-1, -5, 1000003, -1000000000000]) (i := v 1) b1.1 b1.2
  obtain ⟨w4, hw4, p4⟩ := pick (xs := [1, 1, 1009]) (i := v 4) b4.1 b4.2
  obtain ⟨w12, hw12, p12⟩ := pick (xs := [0, 1, 3]) (i := v 12) b12.1 b12.2
  have l1 : w1.natAbs ≤ 1000000000001 := by simp at hw1; omega
  have l4 : 0 < w4 ∧ w4 < 1010 := by simp at hw4; omega
  simp at p1 p4 p12
  have hr1 : ∀ T, getL (S ++ T) r = some xs := fun T => Ext.one.getL hr
  simp [wpx, wpo, wps, hr, hr1, i0, i1, p1]
  refine for_rng (fun i e S2 => ShI S r sc (.tup [.int a, .int b]) i e S2) (by omega) (by omega) (by omega) (by omega) ?_ ?_ ?_
  · exact ⟨⟨[_, _], rfl⟩, [], w1, 0, 0, S.length + 1, none, none, none, none, rfl, by omega, getL_app, rfl, by omega, by simp, by simp, ⟨List.Pairwise.nil, fun e he => by cases he⟩, fun e he => by cases he⟩
  · rintro i e S2 hi ⟨hE, es, M, up, rise, o, x7, x8, x9, x10, rfl, ho, hg, hlen, hM, hrise, hup, hrow, hle⟩
    have hi' : i < most := by omega
    have hrS : getL S2 r = some xs := hE.getL hr
    have hoL := getL_lt hg
    have hrc : ∀ T, getL (S2 ++ T) r = some xs := fun T => Ext.one.getL hrS
    have hoc : ∀ T, getL (S2 ++ T) o = some (es.map enD) := fun T => Ext.one.getL hg
    have c0 := hd.c0 i hi'
    have c1 := hd.c1 i hi'
    have c2 := hd.c2 i hi'
    have y0 : ∀ S', itemR (some xs) (3 * (i : Int) + 13) S' = .ok (.int (v (3 * i + 13))) S' := fun S' => by
      rw [it _ S' (by omega) (by omega)]; congr 3
    have y1 : ∀ S', itemR (some xs) (3 * (i : Int) + 13 + 1) S' = .ok (.int (v (3 * i + 14))) S' := fun S' => by
      rw [it _ S' (by omega) (by omega)]; congr 3
    have y2 : ∀ S', itemR (some xs) (3 * (i : Int) + 13 + 2) S' = .ok (.int (v (3 * i + 15))) S' := fun S' => by
      rw [it _ S' (by omega) (by omega)]; congr 3
    generalize v (3 * i + 13) = s0 at *
    generalize v (3 * i + 14) = s1 at *
    generalize v (3 * i + 15) = s2 at *
    have m3 : Sm 3 (i : Int) := sm100 (by decide) (by omega)
    have m0 : Sm s0 w4 := sm100 (by omega) (by omega)
    have hst : 0 ≤ s0 * w4 := Int.mul_nonneg (by omega) (by omega)
    have hst2 : s0 * w4 ≤ 2 * 1010 := Int.mul_le_mul (by omega) (by omega) (by omega) (by omega)
    generalize hM2 : M + 1 + s0 * w4 = M2 at *
    have hML : M < M2 := by omega
    have hMB : M2.natAbs < 2 ^ 42 := by omega
    have hel : es.length < lim := by unfold lim; omega
    have e5 : 0 ≤ (s2 - 12).fmod 5 ∧ (s2 - 12).fmod 5 < 5 := ⟨Int.fmod_nonneg_of_pos _ (by decide), Int.fmod_lt_of_pos _ (by decide)⟩
    have e3 : 0 ≤ (s2 - 12).fmod 3 ∧ (s2 - 12).fmod 3 < 3 := ⟨Int.fmod_nonneg_of_pos _ (by decide), Int.fmod_lt_of_pos _ (by decide)⟩
    have mA : Sm a M2 := sm100 (Nat.lt_of_lt_of_le ha (nat_pow_mono (by decide))) (Nat.lt_of_lt_of_le hMB (nat_pow_mono (by decide)))
    -- the end of a turn, for any height
    have fin : ∀ (U r2 : Int), r2.natAbs ≤ 4 * (i + 1) → U.natAbs ≤ 500 * (i + 1) → Sm U sc ∧ (U * sc + (a * M2 + b)).natAbs < 2 ^ 80 := fun U r2 h1 h2 => by
      have hU : U.natAbs < 2 ^ 30 := by omega
      have hs : sc.natAbs < 2 ^ 41 := by omega
      refine ⟨sm100 (Nat.lt_of_lt_of_le hU (nat_pow_mono (by decide))) (Nat.lt_of_lt_of_le hs (nat_pow_mono (by decide))), ?_⟩
      have k1 := natAbs_mul_lt hU hs
      have k2 := natAbs_mul_lt ha hMB
      omega
    have push : ∀ (T : Store) (U r2 : Int) (w : Option Int) (x8 x9 x10 : Option D), r2.natAbs ≤ 4 * (i + 1) → U.natAbs ≤ 500 * (i + 1) → (∀ q, w = some q → q.natAbs < 2 ^ 80) →
        ShI S r sc (.tup [.int a, .int b]) (i + 1) [some (.ref r), some (.int sc), some (.tup [.int a, .int b]), some (.int M2), some (.int U), some (.int r2), some (.ref o), some (.int i), x8, x9, x10] ((S2 ++ T).set o (.lst (es.map enD ++ [enD (M2, w)]))) := fun T U r2 w x8 x9 x10 h1 h2 h3 => by
      obtain ⟨r1, r3⟩ := rown_snoc (m := M2) (v := w) hrow hle hML hMB h3
      exact ⟨hE.app.set ho, es ++ [(M2, w)], M2, U, r2, o, _, _, _, _, rfl, ho, by rw [getL_set (by simp; omega)]; simp, by simp [hlen], by omega, h1, h2, r1, r3⟩
    have v5 : v 5 = 0 ∨ v 5 = 1 ∨ v 5 = 2 ∨ v 5 = 3 := by omega
    refine ⟨_, bind_name (by simp), ?_⟩
    by_cases h1 : s1 < w12
    · rcases v5 with h5 | h5 | h5 | h5
      · simp [wpx, wpo, wps, hrS, hrc, hoc, i4, i5, i12, p4, p12, y0, y1, y2, m3, m0, hM2, h5, h1, hel]
        exact push _ (s2 - 12) rise none _ _ _ (by omega) (by omega) (fun q h => by cases h)
      · simp [wpx, wpo, wps, hrS, hrc, hoc, i4, i5, i12, p4, p12, y0, y1, y2, m3, m0, hM2, h5, h1, hel]
        exact push _ (up + (rise + (s2 - 12).fmod 5 - 1)) (rise + (s2 - 12).fmod 5 - 1) none _ _ _ (by omega) (by omega) (fun q h => by cases h)
      · simp [wpx, wpo, wps, hrS, hrc, hoc, i4, i5, i12, p4, p12, y0, y1, y2, m3, m0, hM2, h5, h1, hel]
        exact push _ (up + (s2 - 12)) rise none _ _ _ (by omega) (by omega) (fun q h => by cases h)
      · simp [wpx, wpo, wps, hrS, hrc, hoc, i4, i5, i12, p4, p12, y0, y1, y2, m3, m0, hM2, h5, h1, hel]
        exact push _ ((s2 - 12).fmod 3) rise none _ _ _ (by omega) (by omega) (fun q h => by cases h)
    · rcases v5 with h5 | h5 | h5 | h5
      · obtain ⟨f1, f2⟩ := fin (s2 - 12) rise (by omega) (by omega)
        simp [wpx, wpo, wps, hrS, hrc, hoc, i4, i5, i12, p4, p12, y0, y1, y2, m3, m0, hM2, h5, h1, hel, mA, f1]
        exact push _ (s2 - 12) rise (some _) _ _ _ (by omega) (by omega) (fun q h => by cases h; exact f2)
      · obtain ⟨f1, f2⟩ := fin (up + (rise + (s2 - 12).fmod 5 - 1)) (rise + (s2 - 12).fmod 5 - 1) (by omega) (by omega)
        simp [wpx, wpo, wps, hrS, hrc, hoc, i4, i5, i12, p4, p12, y0, y1, y2, m3, m0, hM2, h5, h1, hel, mA, f1]
        exact push _ (up + (rise + (s2 - 12).fmod 5 - 1)) (rise + (s2 - 12).fmod 5 - 1) (some _) _ _ _ (by omega) (by omega) (fun q h => by cases h; exact f2)
      · obtain ⟨f1, f2⟩ := fin (up + (s2 - 12)) rise (by omega) (by omega)
        simp [wpx, wpo, wps, hrS, hrc, hoc, i4, i5, i12, p4, p12, y0, y1, y2, m3, m0, hM2, h5, h1, hel, mA, f1]
        exact push _ (up + (s2 - 12)) rise (some _) _ _ _ (by omega) (by omega) (fun q h => by cases h; exact f2)
      · obtain ⟨f1, f2⟩ := fin ((s2 - 12).fmod 3) rise (by omega) (by omega)
        simp [wpx, wpo, wps, hrS, hrc, hoc, i4, i5, i12, p4, p12, y0, y1, y2, m3, m0, hM2, h5, h1, hel, mA, f1]
        exact push _ ((s2 - 12).fmod 3) rise (some _) _ _ _ (by omega) (by omega) (fun q h => by cases h; exact f2)
  · rintro e S2 ⟨hE, es, M, up, rise, o, x7, x8, x9, x10, rfl, ho, hg, hlen, hM, hrise, hup, hrow, hle⟩
    simp [wpx, wpo]
    exact ⟨es, ⟨hE, o, rfl, ho, hg⟩, hrow, by omega⟩
theorem intsOf_map (is : List Int) : intsOf (is.map .int) = some is := by
  induction is with
  | nil => rfl
  | cons a r ih => simp [intsOf, ih]
theorem bi_sorted {n : Nat} {is : List Int} (h : getL S n = some (is.map .int)) (hl : is.length < 64) : biop .sorted [.ref n] S = alloc (.lst ((is.mergeSort (fun a b => decide (a ≤ b))).map .int)) S := by
  simp [biop, lstOf, h, intsOf_map, hl]
theorem fmod_in {a : Int} {n : Nat} (hn : 0 < n) : 0 ≤ a.fmod n ∧ a.fmod n < n := ⟨Int.fmod_nonneg_of_pos _ (by omega), Int.fmod_lt_of_pos _ (by omega)⟩
/-- three of such entries, in a list -/
def IsPk (hs : List EnN) (S S' : Store) (x : D) : Prop := Ext S S' ∧ ∃ o e1 e2 e3, x = .ref o ∧ getL S' o = some [enD e1, enD e2, enD e3] ∧ e1 ∈ hs ∧ e2 ∈ hs ∧ e3 ∈ hs
theorem picked_wp (h : Has P "_law_picked" 2 5 b__law_picked) {r q : Nat} {xs : List D} {v : Nat → Int} {most : Nat} {hs : List EnN} (hd : Drs most xs v) (hq : getL S q = some xs) (hr : getL S r = some (hs.map enD)) (h0 : 0 < hs.length) (hl : hs.length < 100) :
    Wp (callN P F (k + 1) "_law_picked" [.ref r, .ref q] S) E fun x S' => IsPk hs S S' x := by
  apply wp_has h rfl
  simp only [b__law_picked]
  have it := hd.it
  have i8 : ∀ S', itemR (some xs) 8 S' = .ok (.int (v 8)) S' := fun S' => it 8 S' (by omega) (by omega)
  have i9 : ∀ S', itemR (some xs) 9 S' = .ok (.int (v 9)) S' := fun S' => it 9 S' (by omega) (by omega)
  have i10 : ∀ S', itemR (some xs) 10 S' = .ok (.int (v 10)) S' := fun S' => it 10 S' (by omega) (by omega)
  have m8 := fmod_in (a := v 8) h0
  have m9 := fmod_in (a := v 9) h0
  have m10 := fmod_in (a := v 10) h0
  have hn0 : ¬ hs = [] := by intro z; rw [z] at h0; simp at h0
  have hn1 : ¬ (hs.length : Int) = 0 := by omega
  simp [wpx, wpo, wps]
  refine for_rng (fun i e S2 => Ext S S2 ∧ ∃ x3, e = [some (.ref r), some (.ref q), some (.ref S.length), x3, none] ∧ getL S2 S.length = some ((([v 8, v 9, v 10].map fun a => a.fmod hs.length).take i).map .int)) (by omega) (by omega) (by omega) (by omega) ⟨Ext.one, none, rfl, getL_new⟩ ?_ ?_
  · rintro i e S2 hi ⟨hE, x3, rfl, hg⟩
    have hi : i = 0 ∨ i = 1 ∨ i = 2 := by omega
    refine ⟨_, bind_name (by simp), ?_⟩
    have hlt := getL_lt hg
    rcases hi with rfl | rfl | rfl
    · simp [wpx, wpo, wps, hE.getL hq, hE.getL hr, hg, i8, hn0, lim]
      exact ⟨hE.set (Nat.le_refl _), getL_set hlt⟩
    · simp [wpx, wpo, wps, hE.getL hq, hE.getL hr, hg, i9, hn0, lim]
      exact ⟨hE.set (Nat.le_refl _), getL_set hlt⟩
    · simp [wpx, wpo, wps, hE.getL hq, hE.getL hr, hg, i10, hn0, lim]
      exact ⟨hE.set (Nat.le_refl _), getL_set hlt⟩
  · rintro e S2 ⟨hE, x3, rfl, hg⟩
    have hg : getL S2 S.length = some ([(v 8).fmod hs.length, (v 9).fmod hs.length, (v 10).fmod hs.length].map .int) := by simpa using hg
    simp [wpx, wpo, wps, wipeE, -Prod.exists, -Prod.forall]
    rw [bi_sorted hg (by simp)]
    have hall : ∀ a ∈ ([(v 8).fmod hs.length, (v 9).fmod hs.length, (v 10).fmod hs.length].mergeSort (fun a b => decide (a ≤ b))), 0 ≤ a ∧ a < hs.length := fun a ha => by
      have := List.mem_mergeSort.mp ha
      simp at this
      rcases this with rfl | rfl | rfl
      · exact m8
      · exact m9
      · exact m10
    have hlen : ([(v 8).fmod hs.length, (v 9).fmod hs.length, (v 10).fmod hs.length].mergeSort (fun a b => decide (a ≤ b))).length = 3 := by simp [List.length_mergeSort]
    generalize ([(v 8).fmod hs.length, (v 9).fmod hs.length, (v 10).fmod hs.length].mergeSort (fun a b => decide (a ≤ b))) = ss at hall hlen ⊢
    simp [wpx, wpo, wps, wipeE, -Prod.exists, -Prod.forall]
    have hr2 : ∀ T, getL (S2 ++ T) r = some (hs.map enD) := fun T => Ext.one.getL (hE.getL hr)
    refine lc_seq (xs := ss.map .int) (fun i acc S3 => S3 = S2 ++ [.lst (ss.map .int)] ∧ ∃ es : List EnN, acc = es.map enD ∧ es.length = i ∧ ∀ e ∈ es, e ∈ hs) getL_new ⟨rfl, [], rfl, rfl, fun e he => by cases he⟩ ?_ ?_
    · rintro i x acc S3 hx hi ⟨rfl, es, rfl, hes, hmem⟩
      obtain ⟨c, hc, rfl⟩ := map_get hx
      obtain ⟨c1, c2⟩ := hall c (List.mem_of_getElem? hc)
      have hcl : c.toNat < hs.length := by omega
      have hit : ∀ S', itemR (some (hs.map enD)) c S' = .ok (enD hs[c.toNat]) S' := fun S' => itemR_int c1 (by simp [hcl])
      refine ⟨getL_new, _, bind_name (by simp), ?_⟩
      simp [wpx, wpo, wps, hr2, hit, -Prod.exists, -Prod.forall]
      refine ⟨by unfold lim; simp at hi; omega, es ++ [hs[c.toNat]], by simp, by simp [hes], fun e he => ?_⟩
      rcases List.mem_append.mp he with z | z
      · exact hmem e z
      · rw [List.mem_singleton] at z; subst z; exact List.getElem_mem _
    · rintro acc S3 ⟨rfl, es, rfl, hes, hmem⟩
      refine ⟨getL_new, ?_⟩
      have h3 : es.length = 3 := by rw [hes]; simpa using hlen
      match es, h3, hmem with
      | [e1, e2, e3], _, hmem =>
        exact ⟨hE.app.app, _, e1, e2, e3, rfl, getL_new, hmem e1 (by simp), hmem e2 (by simp), hmem e3 (by simp)⟩
def zsD (most : Nat) : List Int := [(most : Int) + 1, 4, 5, 12, 3, 4, 7, 3, 40, 40, 40, 4, 3] ++ (List.replicate most [3, 9, 25]).flatten
theorem zsD_len (most : Nat) : (zsD most).length = 13 + 3 * most := by
  unfold zsD
  rw [List.length_append, List.length_flatten]
  simp; omega
theorem zsD_get {most i j : Nat} (hi : i < most) (hj : j < 3) : (zsD most)[3 * i + 13 + j]? = ([3, 9, 25] : List Int)[j]? := by
  unfold zsD
  rw [List.getElem?_append_right (by simp; omega)]
  have := flat_get (l := ([3, 9, 25] : List Int)) (n := most) hi (j := j) hj
  simp only [List.length_cons, List.length_nil] at this ⊢
  rw [← this]
  congr 1
  omega
theorem zsD_pos (most : Nat) (hm : most < 100) : ∀ z ∈ zsD most, 0 < z ∧ z < 2 ^ 8000 := fun z hz => by
  have h2 : (2 : Int) ^ 60 < 2 ^ 8000 := Int.pow_lt_pow_of_lt (by decide) (by decide)
  have : 0 < z ∧ z < 1000 := by
    unfold zsD at hz
    rcases List.mem_append.mp hz with h | h
    · simp at h; omega
    · obtain ⟨l, hl, hz⟩ := List.mem_flatten.mp h
      have := List.eq_of_mem_replicate hl
      subst this
      simp at hz
      omega
  omega
theorem drs_row (ns : List Int) (p : Int) (most : Nat) : Drs most ((rowF ns p (zsD most)).map .int) (drawF ns p (zsD most)) := by
  have bd : ∀ i z, (zsD most)[i]? = some z → 0 < z → 0 ≤ drawF ns p (zsD most) i ∧ drawF ns p (zsD most) i < z := fun i z h hz => draw_bd h hz
  refine ⟨fun i S' h0 h1 => row_item h0 (by rw [zsD_len]; omega), bd 0 _ rfl (by omega), bd 1 _ rfl (by decide), bd 2 _ rfl (by decide), bd 3 _ rfl (by decide), bd 4 _ rfl (by decide), bd 5 _ rfl (by decide), bd 6 _ rfl (by decide), bd 7 _ rfl (by decide),
    (bd 8 _ rfl (by decide)).1, (bd 9 _ rfl (by decide)).1, (bd 10 _ rfl (by decide)).1, bd 11 _ rfl (by decide), bd 12 _ rfl (by decide), fun i hi => ?_, fun i hi => ?_, fun i hi => ?_⟩
  · exact bd (3 * i + 13 + 0) 3 (by rw [zsD_get hi (by decide)]; rfl) (by decide)
  · exact bd (3 * i + 13 + 1) 9 (by rw [zsD_get hi (by decide)]; rfl) (by decide)
  · exact bd (3 * i + 13 + 2) 25 (by rw [zsD_get hi (by decide)]; rfl) (by decide)
/-- a drawn row, a bottom and a bound -/
def IsDr (most : Nat) (S S' : Store) (x : D) : Prop := ∃ d es bot bnd, x = .tup [d, .int bot, .int bnd] ∧ IsN S S' d es ∧ RowN 130 es ∧ es.length ≤ most ∧ 0 < bot ∧ bot.natAbs < 2 ^ 90 ∧ 0 ≤ bnd ∧ bnd.natAbs < 2 ^ 130
structure HD (P : Prog) : Prop where
  row : P.defs.lookup ("_law_row" : Str) = some a__law_row
  cell : P.defs.lookup ("_law_cell" : Str) = some a__law_cell
  mix : P.defs.lookup ("_law_mix" : Str) = some a__law_mix
  shaped : Has P "_law_shaped" 3 11 b__law_shaped
  times : Has P "_law_times" 2 5 b__law_times
  picked : Has P "_law_picked" 2 5 b__law_picked
  drawn : Has P "_law_drawn" 4 18 b__law_drawn_v2
theorem rown_mono {b c : Nat} {es : List EnN} (h : RowN b es) (hbc : b ≤ c) : RowN c es := ⟨h.1, fun e he => ⟨(h.2 e he).1, fun n hn => Nat.lt_of_lt_of_le ((h.2 e he).2 n hn) (nat_pow_mono hbc)⟩⟩
def heldN (es : List EnN) : List EnN := es.filter fun e => e.2.isSome
theorem heldN_len (es : List EnN) : (heldN es).length ≤ es.length := List.length_filter_le _ _
theorem heldN_take {es : List EnN} {i : Nat} {c : EnN} (hc : es[i]? = some c) : heldN (es.take (i + 1)) = if c.2.isSome = true then heldN (es.take i) ++ [c] else heldN (es.take i) := by
  unfold heldN
  rw [List.take_succ, hc, Option.toList, List.filter_append]
  split <;> simp [*]
/-- [one for one in row if one[1] is not None] -/
theorem held_lc {i1 : Nat} {e : Env} {r : Nat} {es : List EnN} {G : Cxt} {X X' : XP} {Q : List D → Store → Prop} (hi : i1 < e.length) (hr : getL S r = some (es.map enD)) (hl : es.length < 100) (q : Q ((heldN es).map enD) S) :
    Wp (optR (seqItr (.ref r) S) S) X fun j S1 => Wp (lcGo (.name i1) j (some (ev G (.ntN (.idx (.var i1) (.int 1))))) (ev G (.var i1)) e j.n 0 [] S1) X' Q := by
  refine lcI_seq (xs := es.map enD) (fun i acc S2 => S2 = S ∧ acc = (heldN (es.take i)).map enD) hr ⟨rfl, rfl⟩ ?_ ?_
  · rintro i x acc S2 hx hi2 ⟨rfl, rfl⟩
    obtain ⟨c, hc, rfl⟩ := map_get hx
    have hlen : (heldN (es.take i)).length < lim := by
      have := List.length_filter_le (fun e : EnN => e.2.isSome) (es.take i)
      unfold heldN
      simp at this
      unfold lim; omega
    refine ⟨hr, _, bind_name hi, ?_⟩
    rw [heldN_take hc]
    obtain ⟨m, v⟩ := c
    have hs : (e.set i1 (some (enD (m, v))))[i1]? = some (some (enD (m, v))) := by rw [List.getElem?_set_self hi]
    cases v with
    | none => simp [wpx, wpo, hs, en_seq, isN_num]
    | some n => simp [wpx, wpo, hs, en_seq, isN_num, hlen]
  · rintro acc S2 ⟨rfl, rfl⟩
    refine ⟨hr, ?_⟩
    rw [List.take_of_length_le (by simp)]
    exact q
theorem heldN_mem {es : List EnN} {e : EnN} (h : e ∈ heldN es) : e ∈ es ∧ ∃ n, e.2 = some n := by
  unfold heldN at h
  rw [List.mem_filter] at h
  exact ⟨h.1, Option.isSome_iff_exists.mp h.2⟩
def tlD : List St := b__law_drawn_v2.drop 6
theorem drawn_wp (h : HD P) {d : D} {ns : List Int} {p : Int} {most : Nat} {share : Int} (hd : lstOf S d = some (ns.map .int)) (hp0 : 0 ≤ p) (hp : p < 2 ^ 29) (hm : most < 90) (hs : 0 ≤ share ∧ share < 10) :
    Wp (callN P F (k + 3) "_law_drawn" [d, .int p, .int most, .int share] S) E fun x S' => IsDr most S S' x := by
  apply wp_has h.drawn rfl
  have hb : b__law_drawn_v2 = b__law_drawn_v2.take 6 ++ tlD := rfl
  rw [hb, wp_app]
  simp only [b__law_drawn_v2, List.take]
  have hlim : 13 + 3 * most ≤ lim := by unfold lim; omega
  have hlim2 : 3 * most ≤ lim := by unfold lim; omega
  have hmi : (most : Int) ≤ 100000 := by omega
  have hl13 : 13 + most * 3 ≤ lim := by omega
  have hl3 : most * 3 ≤ lim := by omega
  try simp [wpx, wpo, wps, hlim, hlim2, hmi, hl13, hl3]
  refine (row_wp (zs := zsD most) h.row h.cell h.mix (Ext.one.lstOf hd) (by omega) (by omega) (by simp [wps, zsD, List.map_flatten]) (zsD_pos most (by omega)) (by rw [zsD_len]; omega)).imp ?_
  rintro x S3 ⟨h3, q, rfl, hq⟩
  have hE3 : Ext S S3 := Ext.one.trans h3
  have dr := drs_row ns p most
  generalize (rowF ns p (zsD most)).map D.int = xs at *
  generalize drawF ns p (zsD most) = v at *
  have it := dr.it
  have i2 : ∀ S', itemR (some xs) 2 S' = .ok (.int (v 2)) S' := fun S' => it 2 S' (by omega) (by omega)
  have i3 : ∀ S', itemR (some xs) 3 S' = .ok (.int (v 3)) S' := fun S' => it 3 S' (by omega) (by omega)
  have i6 : ∀ S', itemR (some xs) 6 S' = .ok (.int (v 6)) S' := fun S' => it 6 S' (by omega) (by omega)
  have i7 : ∀ S', itemR (some xs) 7 S' = .ok (.int (v 7)) S' := fun S' => it 7 S' (by omega) (by omega)
  have i11 : ∀ S', itemR (some xs) 11 S' = .ok (.int (v 11)) S' := fun S' => it 11 S' (by omega) (by omega)
  obtain ⟨w3, hw3, p3⟩ := pick (xs := [1, 2, 3, 4, 5, 6, 12, 30, 60, 1001, 9699690, 1000000007]) (i := v 3) dr.b3.1 dr.b3.2
  obtain ⟨w2, hw2, p2⟩ := pick (xs := [1, 1, 7, 1000000, 1000000000039]) (i := v 2) dr.b2.1 dr.b2.2
  have l3 : 0 < w3 ∧ w3 < 2 ^ 30 := by simp at hw3; omega
  have l2 : 0 < w2 ∧ w2 < 2 ^ 41 := by simp at hw2; omega
  simp at p2 p3
  have hq1 : ∀ T, getL (S3 ++ T) q = some xs := fun T => Ext.one.getL hq
  have b6 := dr.b6
  -- behind the tilt
  have go : ∀ (T : Store) (a b : Int) (x11 : Option D), a.natAbs < 2 ^ 31 → b.natAbs < 2 ^ 41 → WpS (exB (P.cx F (callN P F (k + 2))) tlD [some d, some (.int p), some (.int most), some (.int share), some (.ref S.length), some (.ref q), some (.int w3), some (.int w2), some (.tup [.int a, .int b]), none, none, x11, none, none, none, none, none, none] (S3 ++ T))
      { nx := fun _ S' => IsDr most S S' .non, rt := fun x S' => IsDr most S S' x, ex := fun c _ S' => E c S' } := fun T a b x11 ha hb => by
    simp only [tlD, b__law_drawn_v2, List.drop]
    try simp [wpx, wpo, wps]
    refine (shaped_wp h.shaped dr (hq1 T) (by omega) ⟨by omega, l2.2⟩ ha hb).imp ?_
    rintro x S4 ⟨es, ⟨hE4, r, rfl, hrn, hr⟩, hrow, hle⟩
    have hq4 : getL S4 q = some xs := hE4.getL (hq1 T)
    have hq5 : ∀ T, getL (S4 ++ T) q = some xs := fun T => Ext.one.getL hq4
    have hr5 : ∀ T, getL (S4 ++ T) r = some (es.map enD) := fun T => Ext.one.getL hr
    have hES4 : Ext S S4 := (hE3.app).trans hE4
    have hrS : S.length ≤ r := by
      have := hE3.len
      simp at hrn; omega
    have sm6 : Sm (v 6) w2 := sm100 (by omega) (by omega)
    have k6 : 0 ≤ v 6 * w2 := Int.mul_nonneg (by omega) (by omega)
    have n6 : (v 6 * w2).natAbs < 2 ^ 130 := Nat.lt_of_lt_of_le (natAbs_mul_lt (n := 3) (m := 41) (by omega) (by omega)) (nat_pow_mono (by decide))
    have plain : ∀ T, IsDr most S (S4 ++ T) (.tup [.ref r, .int w3, .int (v 6 * w2)]) := fun T => ⟨_, es, _, _, rfl, ⟨hES4.app, r, rfl, hrS, hr5 T⟩, rown_mono hrow (by decide), hle, by omega, by omega, k6, n6⟩
    try simp [wpx, wpo, wps, wipeE]
    refine held_lc (by simp) hr (by omega) ?_
    by_cases h0 : 0 < share
    · by_cases h7 : v 7 = 0
      · by_cases h2 : (2 : Int) < (heldN es).length
        · simp [wpx, wpo, wps, hq5, hr5, i7, h0, h7, h2]
          refine (picked_wp h.picked dr (hq5 _) getL_new (by omega) (by have := heldN_len es; omega)).imp ?_
          rintro x S6 ⟨hE6, o, e1, e2, e3, rfl, ho, m1, m2, m3⟩
          obtain ⟨m1, n1, z1⟩ := heldN_mem m1
          obtain ⟨m2, n2, z2⟩ := heldN_mem m2
          obtain ⟨m3, n3, z3⟩ := heldN_mem m3
          obtain ⟨t1, v1⟩ := e1
          obtain ⟨t2, v2⟩ := e2
          obtain ⟨t3, v3⟩ := e3
          simp only at z1 z2 z3
          subst z1 z2 z3
          have bt1 := (hrow.2 _ m1).1
          have bt2 := (hrow.2 _ m2).1
          have bt3 := (hrow.2 _ m3).1
          have bn1 := (hrow.2 _ m1).2 _ rfl
          have bn2 := (hrow.2 _ m2).2 _ rfl
          have bn3 := (hrow.2 _ m3).2 _ rfl
          simp only at bt1 bt2 bt3 bn1 bn2 bn3
          have hr6 : getL S6 r = some (es.map enD) := hE6.getL (hr5 _)
          have hq6 : getL S6 q = some xs := hE6.getL (hq5 _)
          have plain6 : IsDr most S S6 (.tup [.ref r, .int w3, .int (v 6 * w2)]) := ⟨_, es, _, _, rfl, ⟨hES4.app.trans hE6, r, rfl, hrS, hr6⟩, rown_mono hrow (by decide), hle, by omega, by omega, k6, n6⟩
          by_cases h12 : t1 < t2
          · by_cases h23 : t2 < t3
            · have s1 : Sm n2 (t3 - t1) := sm100 (by omega) (by omega)
              have s2 : Sm n1 (t3 - t2) := sm100 (by omega) (by omega)
              have s3 : Sm n3 (t2 - t1) := sm100 (by omega) (by omega)
              have s4 : Sm share (t3 - t1) := sm100 (by omega) (by omega)
              have hby : 0 < share * (t3 - t1) := Int.mul_pos h0 (by omega)
              have hbB : (share * (t3 - t1)).natAbs < 2 ^ 50 := natAbs_mul_lt (n := 4) (m := 46) (by omega) (by omega)
              have s5 : Sm w3 (share * (t3 - t1)) := sm100 (by omega) (by omega)
              have k1 := natAbs_mul_lt (n := 80) (m := 44) bn2 (show (t3 - t1).natAbs < 2 ^ 44 by omega)
              have k2 := natAbs_mul_lt (n := 80) (m := 44) bn1 (show (t3 - t2).natAbs < 2 ^ 44 by omega)
              have k3 := natAbs_mul_lt (n := 80) (m := 44) bn3 (show (t2 - t1).natAbs < 2 ^ 44 by omega)
              have k5 := natAbs_mul_lt (n := 30) (m := 50) (show w3.natAbs < 2 ^ 30 by omega) hbB
              have k5' : 0 < w3 * (share * (t3 - t1)) := Int.mul_pos l3.1 hby
              have u6 : unpR [12, 13, 14] (getL S6 o) [some d, some (.int p), some (.int most), some (.int share), some (.ref S.length), some (.ref q), some (.int w3), some (.int w2), some (.tup [.int a, .int b]), some (.ref r), some (.ref S4.length), x11, none, none, none, none, none, none] S6 = .nx [some d, some (.int p), some (.int most), some (.int share), some (.ref S.length), some (.ref q), some (.int w3), some (.int w2), some (.tup [.int a, .int b]), some (.ref r), some (.ref S4.length), x11, some (enD (t1, some n1)), some (enD (t2, some n2)), some (enD (t3, some n3)), none, none, none] S6 := by
                rw [ho, unpR_3 (by simp)]; rfl
              simp [wpx, wpo, wps, u6, en_seq, numD, h12, h23, s1, s2, s3, s4, s5]
              refine (times_row_wp h.times hr6 (by omega) hrow.2 (Nat.lt_of_lt_of_le hbB (nat_pow_mono (by decide))) (by decide)).imp ?_
              rintro x S7 ⟨hE7, o7, rfl, ho7, hg7⟩
              refine ⟨_, _, _, _, rfl, ⟨(hES4.app.trans hE6).trans hE7, o7, rfl, by have := (hES4.app.trans hE6).len; omega, hg7⟩, ⟨?_, ?_⟩, by simpa using hle, k5', by omega, by omega, by omega⟩
              · rw [List.pairwise_map]
                exact hrow.1
              · intro e he
                obtain ⟨c, hc, rfl⟩ := List.mem_map.mp he
                refine ⟨(hrow.2 c hc).1, fun n hn => ?_⟩
                obtain ⟨n', hn', rfl⟩ := Option.map_eq_some_iff.mp hn
                exact natAbs_mul_lt (n := 80) (m := 50) ((hrow.2 c hc).2 n' hn') hbB
            · have u6 : unpR [12, 13, 14] (getL S6 o) [some d, some (.int p), some (.int most), some (.int share), some (.ref S.length), some (.ref q), some (.int w3), some (.int w2), some (.tup [.int a, .int b]), some (.ref r), some (.ref S4.length), x11, none, none, none, none, none, none] S6 = .nx [some d, some (.int p), some (.int most), some (.int share), some (.ref S.length), some (.ref q), some (.int w3), some (.int w2), some (.tup [.int a, .int b]), some (.ref r), some (.ref S4.length), x11, some (enD (t1, some n1)), some (enD (t2, some n2)), some (enD (t3, some n3)), none, none, none] S6 := by
                rw [ho, unpR_3 (by simp)]; rfl
              simp [wpx, wpo, wps, u6, en_seq, numD, h12, h23, hq6, i6, sm6]
              exact plain6
          · have u6 : unpR [12, 13, 14] (getL S6 o) [some d, some (.int p), some (.int most), some (.int share), some (.ref S.length), some (.ref q), some (.int w3), some (.int w2), some (.tup [.int a, .int b]), some (.ref r), some (.ref S4.length), x11, none, none, none, none, none, none] S6 = .nx [some d, some (.int p), some (.int most), some (.int share), some (.ref S.length), some (.ref q), some (.int w3), some (.int w2), some (.tup [.int a, .int b]), some (.ref r), some (.ref S4.length), x11, some (enD (t1, some n1)), some (enD (t2, some n2)), some (enD (t3, some n3)), none, none, none] S6 := by
              rw [ho, unpR_3 (by simp)]; rfl
            simp [wpx, wpo, wps, u6, en_seq, numD, h12, hq6, i6, sm6]
            exact plain6
        · simp [wpx, wpo, wps, hq5, hr5, i7, h0, h7, h2, i6, sm6]
          exact plain _
      · simp [wpx, wpo, wps, hq5, hr5, i7, h0, h7, i6, sm6]
        exact plain _
    · simp [wpx, wpo, wps, hq5, hr5, h0, i6, sm6]
      exact plain _
  by_cases h0 : 0 < share
  · have b11 := dr.b11
    have h11 : v 11 = 0 ∨ v 11 = 1 ∨ v 11 = 2 ∨ v 11 = 3 := by omega
    rcases h11 with h11 | h11 | h11 | h11
    · simp [wpx, wpo, wps, hq, hq1, i2, i3, i11, p2, p3, h0, h11]
      exact go _ 0 0 _ (by decide) (by decide)
    · simp [wpx, wpo, wps, hq, hq1, i2, i3, i11, p2, p3, h0, h11]
      exact go _ 0 0 _ (by decide) (by decide)
    · simp [wpx, wpo, wps, hq, hq1, i2, i3, i11, p2, p3, h0, h11]
      exact go _ 7 (-3) _ (by decide) (by decide)
    · simp [wpx, wpo, wps, hq, hq1, i2, i3, i11, p2, p3, h0, h11]
      exact go _ (-1000000007) 1000000000000 _ (by decide) (by decide)
  · simp [wpx, wpo, wps, hq, hq1, i2, i3, p2, p3, h0]
    exact go _ 0 0 _ (by decide) (by decide)
end
end Lt
set_option maxRecDepth 100000
set_option maxHeartbeats 2000000
namespace Lt
open PySem (Str)
open LawT
def Fr (W : List Nat) (S S' : Store) : Prop := S.length ≤ S'.length ∧ ∀ p, p < S.length → p ∉ W → S'[p]? = S[p]?
section
variable {S S' S2 : Store} {W W' : List Nat}
theorem Fr.trans (a : Fr W S S') (b : Fr W S' S2) : Fr W S S2 := ⟨Nat.le_trans a.1 b.1, fun p h hp => by rw [b.2 p (Nat.lt_of_lt_of_le h a.1) hp, a.2 p h hp]⟩
theorem Fr.mono (a : Fr W S S') (h : ∀ p ∈ W, p ∈ W' ∨ S.length ≤ p) : Fr W' S S' := ⟨a.1, fun p hl hp => a.2 p hl fun z => by
  rcases h p z with h | h
  · exact hp h
  · omega⟩
theorem Fr.of (a : Ext S S') : Fr W S S' := by
  obtain ⟨T, rfl⟩ := a
  exact ⟨by simp, fun p h _ => by rw [List.getElem?_append_left h]⟩
theorem Fr.set {n : Nat} {c : Cell} (hn : n ∈ W) : Fr W S (S.set n c) := ⟨by simp, fun p h hp => by
  rw [List.getElem?_set_ne]; intro z; subst z; exact hp hn⟩
theorem Fr.app {T : Store} (a : Fr W S S') : Fr W S (S' ++ T) := a.trans (Fr.of Ext.one)
theorem Fr.getL (a : Fr W S S') {p : Nat} {xs : List D} (h : getL S p = some xs) (hp : p ∉ W) : getL S' p = some xs := by
  have hl := getL_lt h
  unfold Lt.getL at h ⊢
  rw [a.2 p hl hp]; exact h
theorem getI_lt {r : Nat} {x : Str × List (Str × D)} (h : getI S r = some x) : r < S.length := by
  unfold getI at h
  split at h
  · rename_i e; exact (List.getElem?_eq_some_iff.mp e).1
  · cases h
theorem Fr.getI (a : Fr W S S') {p : Nat} {x : Str × List (Str × D)} (h : getI S p = some x) (hp : p ∉ W) : getI S' p = some x := by
  have hl := getI_lt h
  unfold Lt.getI at h ⊢
  rw [a.2 p hl hp]; exact h
theorem Fr.ext (a : Fr [] S S') : Ext S S' := by
  refine ⟨S'.drop S.length, ?_⟩
  apply List.ext_getElem?
  intro i
  by_cases h : i < S.length
  · rw [List.getElem?_append_left h]; exact a.2 i h (by simp)
  · rw [List.getElem?_append_right (by omega), List.getElem?_drop]
    congr 1; omega
theorem getL_app_l {T : Store} {p : Nat} {xs : List D} (h : getL S p = some xs) : getL (S ++ T) p = some xs := Ext.one.getL h
end
abbrev Smp := Int × Rat
def smpD (s : Smp) : D := smD s.1 s.2
/-- of usual sizes -/
def SmB (s : Smp) : Prop := s.1.natAbs < 2 ^ 64 ∧ Sz 300 s.2
theorem smp_seq {S : Store} {s : Smp} : seqOf S (smpD s) = some [.int s.1, rD s.2] := rfl
end Lt
set_option maxHeartbeats 2000000
namespace Lt
def Lq (sp : Rat) (a b : Smp) : Rat := (b.2 - a.2 - sp) / ((b.1 : Rat) - (a.1 : Rat))
def Hq (sp : Rat) (a b : Smp) : Rat := (b.2 - a.2 + sp) / ((b.1 : Rat) - (a.1 : Rat))
def stq (a b c : Smp) : Rat := standF a.1 a.2 b.1 b.2 c.1 c.2
/-- some line bears them -/
def Borne (sp : Rat) (ts : List Smp) : Prop := ∀ a ∈ ts, ∀ b ∈ ts, ∀ c ∈ ts, ∀ d ∈ ts, a.1 < b.1 → c.1 < d.1 → Lq sp a b ≤ Hq sp c d
theorem cast_pos {a b : Int} (h : a < b) : (0 : Rat) < (b : Rat) - (a : Rat) := by
  have := (Rat.intCast_lt_intCast (a := a) (b := b)).mpr h
  grind
theorem lt_div {x y d : Rat} (hd : 0 < d) : x < y / d ↔ x * d < y := Rat.lt_div_iff hd
theorem div_lt {x y d : Rat} (hd : 0 < d) : y / d < x ↔ y < x * d := Rat.div_lt_iff hd
theorem le_div {x y d : Rat} (hd : 0 < d) : x ≤ y / d ↔ x * d ≤ y := by
  rw [← Rat.not_lt, ← Rat.not_lt, div_lt hd]
theorem div_le {x y d : Rat} (hd : 0 < d) : y / d ≤ x ↔ y ≤ x * d := by
  rw [← Rat.not_lt, ← Rat.not_lt, lt_div hd]
/-- the stand, without a fraction -/
theorem stq_mul {a b c : Smp} (h : a.1 < c.1) (s : Rat) : stq a b c * ((c.1 : Rat) - (a.1 : Rat)) = (b.2 - a.2 - s * ((b.1 : Rat) - (a.1 : Rat))) * ((c.1 : Rat) - (b.1 : Rat)) + (b.2 - c.2 + s * ((c.1 : Rat) - (b.1 : Rat))) * ((b.1 : Rat) - (a.1 : Rat)) := by
  have hd := cast_pos h
  unfold stq standF
  grind
theorem mul_pos_lt {x y d : Rat} (hd : 0 < d) (h : x < y) : x * d < y * d := Rat.mul_lt_mul_of_pos_right h hd
theorem mul_nn_le {x y d : Rat} (hd : 0 ≤ d) (h : x ≤ y) : x * d ≤ y * d := Rat.mul_le_mul_of_nonneg_right h hd
/-- the greatest lower slope -/
def Lo (sp : Rat) (ts : List Smp) (o : Option Rat) : Prop := match o with
  | none => ∀ a ∈ ts, ∀ b ∈ ts, ¬ a.1 < b.1
  | some l => (∃ a ∈ ts, ∃ b ∈ ts, a.1 < b.1 ∧ l = Lq sp a b) ∧ ∀ a ∈ ts, ∀ b ∈ ts, a.1 < b.1 → Lq sp a b ≤ l
/-- the least upper slope -/
def Hi (sp : Rat) (ts : List Smp) (o : Option Rat) : Prop := match o with
  | none => ∀ a ∈ ts, ∀ b ∈ ts, ¬ a.1 < b.1
  | some l => (∃ a ∈ ts, ∃ b ∈ ts, a.1 < b.1 ∧ l = Hq sp a b) ∧ ∀ a ∈ ts, ∀ b ∈ ts, a.1 < b.1 → l ≤ Hq sp a b
/-- the greatest lower slope of the old pairs and of some with the new one -/
def LoP (sp : Rat) (ts : List Smp) (x : Smp) (us : List Smp) (o : Option Rat) : Prop := match o with
  | none => (∀ a ∈ ts, ∀ b ∈ ts, ¬ a.1 < b.1) ∧ us = []
  | some l => ((∃ a ∈ ts, ∃ b ∈ ts, a.1 < b.1 ∧ l = Lq sp a b) ∨ ∃ a ∈ us, l = Lq sp a x) ∧ (∀ a ∈ ts, ∀ b ∈ ts, a.1 < b.1 → Lq sp a b ≤ l) ∧ ∀ a ∈ us, Lq sp a x ≤ l
def HiP (sp : Rat) (ts : List Smp) (x : Smp) (us : List Smp) (o : Option Rat) : Prop := match o with
  | none => (∀ a ∈ ts, ∀ b ∈ ts, ¬ a.1 < b.1) ∧ us = []
  | some l => ((∃ a ∈ ts, ∃ b ∈ ts, a.1 < b.1 ∧ l = Hq sp a b) ∨ ∃ a ∈ us, l = Hq sp a x) ∧ (∀ a ∈ ts, ∀ b ∈ ts, a.1 < b.1 → l ≤ Hq sp a b) ∧ ∀ a ∈ us, l ≤ Hq sp a x
theorem LoP.start {sp : Rat} {ts : List Smp} {x : Smp} {o : Option Rat} (h : Lo sp ts o) : LoP sp ts x [] o := by
  cases o with
  | none => exact ⟨h, rfl⟩
  | some l => exact ⟨.inl h.1, h.2, fun a ha => by cases ha⟩
theorem HiP.start {sp : Rat} {ts : List Smp} {x : Smp} {o : Option Rat} (h : Hi sp ts o) : HiP sp ts x [] o := by
  cases o with
  | none => exact ⟨h, rfl⟩
  | some l => exact ⟨.inl h.1, h.2, fun a ha => by cases ha⟩
/-- the greater one, where there is one -/
def upO (o : Option Rat) (q : Rat) : Rat := match o with
  | none => q
  | some l => if l < q then q else l
def dnO (o : Option Rat) (q : Rat) : Rat := match o with
  | none => q
  | some l => if q < l then q else l
theorem LoP.step {sp : Rat} {ts us : List Smp} {x a : Smp} {o : Option Rat} (h : LoP sp ts x us o) : LoP sp ts x (us ++ [a]) (some (upO o (Lq sp a x))) := by
  cases o with
  | none =>
    obtain ⟨h1, rfl⟩ := h
    exact ⟨.inr ⟨a, by simp, rfl⟩, fun c mc d md k => absurd k (h1 c mc d md), fun c mc => by simp at mc; subst mc; exact Rat.le_refl⟩
  | some l =>
    obtain ⟨h1, h2, h3⟩ := h
    show LoP sp ts x (us ++ [a]) (some (if l < Lq sp a x then Lq sp a x else l))
    by_cases k : l < Lq sp a x
    · rw [if_pos k]
      refine ⟨.inr ⟨a, by simp, rfl⟩, fun c mc d md hcd => ?_, fun c mc => ?_⟩
      · have := h2 c mc d md hcd; grind
      · rcases List.mem_append.mp mc with z | z
        · have := h3 c z; grind
        · simp at z; subst z; exact Rat.le_refl
    · rw [if_neg k]
      refine ⟨?_, h2, fun c mc => ?_⟩
      · rcases h1 with h1 | ⟨c, mc, e⟩
        · exact .inl h1
        · exact .inr ⟨c, by simp [mc], e⟩
      · rcases List.mem_append.mp mc with z | z
        · exact h3 c z
        · simp at z; subst z; grind
theorem HiP.step {sp : Rat} {ts us : List Smp} {x a : Smp} {o : Option Rat} (h : HiP sp ts x us o) : HiP sp ts x (us ++ [a]) (some (dnO o (Hq sp a x))) := by
  cases o with
  | none =>
    obtain ⟨h1, rfl⟩ := h
    exact ⟨.inr ⟨a, by simp, rfl⟩, fun c mc d md k => absurd k (h1 c mc d md), fun c mc => by simp at mc; subst mc; exact Rat.le_refl⟩
  | some l =>
    obtain ⟨h1, h2, h3⟩ := h
    show HiP sp ts x (us ++ [a]) (some (if Hq sp a x < l then Hq sp a x else l))
    by_cases k : Hq sp a x < l
    · rw [if_pos k]
      refine ⟨.inr ⟨a, by simp, rfl⟩, fun c mc d md hcd => ?_, fun c mc => ?_⟩
      · have := h2 c mc d md hcd; grind
      · rcases List.mem_append.mp mc with z | z
        · have := h3 c z; grind
        · simp at z; subst z; exact Rat.le_refl
    · rw [if_neg k]
      refine ⟨?_, h2, fun c mc => ?_⟩
      · rcases h1 with h1 | ⟨c, mc, e⟩
        · exact .inl h1
        · exact .inr ⟨c, by simp [mc], e⟩
      · rcases List.mem_append.mp mc with z | z
        · exact h3 c z
        · simp at z; subst z; grind
theorem LoP.fin {sp : Rat} {ts : List Smp} {x : Smp} {o : Option Rat} (h : LoP sp ts x ts o) (hx : ∀ a ∈ ts, a.1 < x.1) : Lo sp (ts ++ [x]) o := by
  have cases2 : ∀ a b : Smp, a ∈ ts ++ [x] → b ∈ ts ++ [x] → a.1 < b.1 → a ∈ ts ∧ (b ∈ ts ∨ b = x) := fun a b ma mb hab => by
    rcases List.mem_append.mp ma with z | z
    · refine ⟨z, ?_⟩
      rcases List.mem_append.mp mb with y | y
      · exact .inl y
      · simp at y; exact .inr y
    · simp at z; subst z
      rcases List.mem_append.mp mb with y | y
      · have := hx b y; omega
      · simp at y; subst y; omega
  cases o with
  | none =>
    obtain ⟨h1, rfl⟩ := h
    intro a ma b mb hab
    obtain ⟨z, _⟩ := cases2 a b ma mb hab
    cases z
  | some l =>
    obtain ⟨h1, h2, h3⟩ := h
    refine ⟨?_, fun a ma b mb hab => ?_⟩
    · rcases h1 with ⟨a, ma, b, mb, k⟩ | ⟨a, ma, k⟩
      · exact ⟨a, by simp [ma], b, by simp [mb], k⟩
      · exact ⟨a, by simp [ma], x, by simp, hx a ma, k⟩
    · obtain ⟨z, y⟩ := cases2 a b ma mb hab
      rcases y with y | rfl
      · exact h2 a z b y hab
      · exact h3 a z
theorem HiP.fin {sp : Rat} {ts : List Smp} {x : Smp} {o : Option Rat} (h : HiP sp ts x ts o) (hx : ∀ a ∈ ts, a.1 < x.1) : Hi sp (ts ++ [x]) o := by
  have cases2 : ∀ a b : Smp, a ∈ ts ++ [x] → b ∈ ts ++ [x] → a.1 < b.1 → a ∈ ts ∧ (b ∈ ts ∨ b = x) := fun a b ma mb hab => by
    rcases List.mem_append.mp ma with z | z
    · refine ⟨z, ?_⟩
      rcases List.mem_append.mp mb with y | y
      · exact .inl y
      · simp at y; exact .inr y
    · simp at z; subst z
      rcases List.mem_append.mp mb with y | y
      · have := hx b y; omega
      · simp at y; subst y; omega
  cases o with
  | none =>
    obtain ⟨h1, rfl⟩ := h
    intro a ma b mb hab
    obtain ⟨z, _⟩ := cases2 a b ma mb hab
    cases z
  | some l =>
    obtain ⟨h1, h2, h3⟩ := h
    refine ⟨?_, fun a ma b mb hab => ?_⟩
    · rcases h1 with ⟨a, ma, b, mb, k⟩ | ⟨a, ma, k⟩
      · exact ⟨a, by simp [ma], b, by simp [mb], k⟩
      · exact ⟨a, by simp [ma], x, by simp, hx a ma, k⟩
    · obtain ⟨z, y⟩ := cases2 a b ma mb hab
      rcases y with y | rfl
      · exact h2 a z b y hab
      · exact h3 a z
end Lt
set_option maxRecDepth 100000
set_option maxHeartbeats 2000000
namespace Lt
open PySem (Str)
open LawT
def stFs (a b c d : D) : List (Str × D) := [("span", a), ("samples", b), ("low", c), ("high", d)]
/-- an object that holds these samples -/
structure StrO (S : Store) (n q : Nat) (sp : Rat) (ts : List Smp) : Prop where
  nq : n ≠ q
  fs : ∃ lo hi, getI S n = some (("Stretch" : Str), stFs (rD sp) (.ref q) (valD lo) (valD hi)) ∧ Lo sp ts lo ∧ Hi sp ts hi
  sm : getL S q = some (ts.map smpD)
  sz : ∀ s ∈ ts, SmB s
  ss : Sz 310 sp
  up : ts.Pairwise fun a b => a.1 < b.1
  le : ts.length ≤ 100
  bo : Borne sp ts
end Lt
set_option maxRecDepth 100000
set_option maxHeartbeats 2000000
namespace Lt
open PySem (Str)
open LawT
abbrev EnI := Int × Int
def eiD (e : EnI) : D := .tup [.int e.1, .int e.2]
theorem ei_seq {S : Store} {e : EnI} : seqOf S (eiD e) = some [.int e.1, .int e.2] := rfl
/-- the sample of such -/
def smo (b : Int) (e : EnI) : Smp := (e.1, Rat.divInt e.2 b)
/-- sizes -/
def EiB (e : EnI) : Prop := e.1.natAbs < 2 ^ 60 ∧ e.2.natAbs < 2 ^ 200
def heldI (es : List EnN) : List EnI := es.filterMap fun e => e.2.map fun n => (e.1, n)
theorem heldI_mem {es : List EnN} {e : EnI} (h : e ∈ heldI es) : (e.1, some e.2) ∈ es := by
  unfold heldI at h
  rw [List.mem_filterMap] at h
  obtain ⟨c, hc, he⟩ := h
  obtain ⟨n, hn, rfl⟩ := Option.map_eq_some_iff.mp he
  obtain ⟨m, v⟩ := c
  simp only at hn
  subst hn
  exact hc
theorem heldI_up {b : Nat} : ∀ {es : List EnN}, RowN b es → (heldI es).Pairwise fun x y => x.1 < y.1
  | [], _ => List.Pairwise.nil
  | (m, v) :: r, h => by
    have h1 := List.pairwise_cons.mp h.1
    have ih := heldI_up (es := r) ⟨h1.2, fun e he => h.2 e (List.mem_cons_of_mem _ he)⟩
    cases v with
    | none => exact ih
    | some n =>
      show List.Pairwise _ ((m, n) :: heldI r)
      rw [List.pairwise_cons]
      exact ⟨fun e he => h1.1 _ (heldI_mem he), ih⟩
theorem heldI_len (es : List EnN) : (heldI es).length ≤ es.length := List.length_filterMap_le _ _
theorem heldI_b {es : List EnN} (h : RowN 130 es) : ∀ e ∈ heldI es, e.1.natAbs < 2 ^ 42 ∧ e.2.natAbs < 2 ^ 130 := fun e he =>
  ⟨(h.2 _ (heldI_mem he)).1, (h.2 _ (heldI_mem he)).2 _ rfl⟩
theorem cast_posI {b : Int} (hb : 0 < b) : (0 : Rat) < (b : Rat) := by
  have := (Rat.intCast_lt_intCast (a := 0) (b := b)).mpr hb
  simpa using this
theorem mul_le_right {x y d : Rat} (hd : 0 < d) : x * d ≤ y * d ↔ x ≤ y := by
  rw [← Rat.not_lt, ← Rat.not_lt, Rat.mul_lt_mul_right hd]
section
variable {P : Prog} {F k : Nat} {S : Store} {E : XP}
theorem ei_item {es : List EnI} {i : Nat} {c : EnI} (h : es[i]? = some c) : itemR (some (es.map eiD)) (i : Int) S = .ok (eiD c) S := itemR_nat (by simp [h])
end
end Lt
set_option maxRecDepth 100000
set_option maxHeartbeats 2000000
namespace Lt
open PySem (Str)
open LawT
def frV (p : Int × Int) : Rat := (p.1 : Rat) / (p.2 : Rat)
theorem less_fr {p q : Int × Int} (hp : 0 < p.2) (hq : 0 < q.2) : p.1 * q.2 < q.1 * p.2 ↔ frV p < frV q := by
  have h1 := cast_posI hp
  have h2 := cast_posI hq
  unfold frV
  rw [div_lt h1]
  have e : (q.1 : Rat) / (q.2 : Rat) * (p.2 : Rat) = ((q.1 : Rat) * (p.2 : Rat)) / (q.2 : Rat) := by grind
  rw [e, lt_div h2, ← Rat.intCast_mul, ← Rat.intCast_mul, Rat.intCast_lt_intCast]
theorem lless_fr {P : Prog} {F k : Nat} {S : Store} (h : P.defs.lookup ("_law_less" : Str) = some a__law_less) {p q : Int × Int} (hp : 0 < p.2) (hq : 0 < q.2) (h1 : Sm p.1 q.2) (h2 : Sm q.1 p.2) :
    callN P F (k + 1) "_law_less" [.tup [.int p.1, .int p.2], .tup [.int q.1, .int q.2]] S = .ok (.bl (decide (frV p < frV q))) S := by
  apply call_eq h rfl
  simp only [a__law_less]
  simp [wpx, wpo, h1, h2, less_fr hp hq]
/-- the greatest of what is done -/
def GrP (f : EnI → EnI → Rat) (done : EnI → EnI → Prop) (o : Option (Int × Int)) : Prop := match o with
  | none => ∀ a c, ¬ done a c
  | some p => 0 < p.2 ∧ (∃ a c, done a c ∧ frV p = f a c) ∧ ∀ a c, done a c → f a c ≤ frV p
def LeP (f : EnI → EnI → Rat) (done : EnI → EnI → Prop) (o : Option (Int × Int)) : Prop := match o with
  | none => ∀ a c, ¬ done a c
  | some p => 0 < p.2 ∧ (∃ a c, done a c ∧ frV p = f a c) ∧ ∀ a c, done a c → frV p ≤ f a c
def grO (o : Option (Int × Int)) (q : Int × Int) : Int × Int := match o with
  | none => q
  | some p => if frV p < frV q then q else p
def leO (o : Option (Int × Int)) (q : Int × Int) : Int × Int := match o with
  | none => q
  | some p => if frV q < frV p then q else p
theorem GrP.step {f : EnI → EnI → Rat} {done done' : EnI → EnI → Prop} {o : Option (Int × Int)} {q : Int × Int} {a c : EnI} (h : GrP f done o) (hq : 0 < q.2) (hv : frV q = f a c) (hd : ∀ x y, done' x y ↔ done x y ∨ (x = a ∧ y = c)) : GrP f done' (some (grO o q)) := by
  cases o with
  | none =>
    refine ⟨hq, ⟨a, c, (hd a c).mpr (.inr ⟨rfl, rfl⟩), hv⟩, fun x y hxy => ?_⟩
    rcases (hd x y).mp hxy with z | ⟨rfl, rfl⟩
    · exact absurd z (h x y)
    · rw [← hv]; exact Rat.le_refl
  | some p =>
    obtain ⟨h1, ⟨a', c', h2, h3⟩, h4⟩ := h
    show GrP f done' (some (if frV p < frV q then q else p))
    by_cases k : frV p < frV q
    · rw [if_pos k]
      refine ⟨hq, ⟨a, c, (hd a c).mpr (.inr ⟨rfl, rfl⟩), hv⟩, fun x y hxy => ?_⟩
      rcases (hd x y).mp hxy with z | ⟨rfl, rfl⟩
      · have := h4 x y z; grind
      · rw [← hv]; exact Rat.le_refl
    · rw [if_neg k]
      refine ⟨h1, ⟨a', c', (hd a' c').mpr (.inl h2), h3⟩, fun x y hxy => ?_⟩
      rcases (hd x y).mp hxy with z | ⟨rfl, rfl⟩
      · exact h4 x y z
      · rw [← hv]; grind
theorem LeP.step {f : EnI → EnI → Rat} {done done' : EnI → EnI → Prop} {o : Option (Int × Int)} {q : Int × Int} {a c : EnI} (h : LeP f done o) (hq : 0 < q.2) (hv : frV q = f a c) (hd : ∀ x y, done' x y ↔ done x y ∨ (x = a ∧ y = c)) : LeP f done' (some (leO o q)) := by
  cases o with
  | none =>
    refine ⟨hq, ⟨a, c, (hd a c).mpr (.inr ⟨rfl, rfl⟩), hv⟩, fun x y hxy => ?_⟩
    rcases (hd x y).mp hxy with z | ⟨rfl, rfl⟩
    · exact absurd z (h x y)
    · rw [← hv]; exact Rat.le_refl
  | some p =>
    obtain ⟨h1, ⟨a', c', h2, h3⟩, h4⟩ := h
    show LeP f done' (some (if frV q < frV p then q else p))
    by_cases k : frV q < frV p
    · rw [if_pos k]
      refine ⟨hq, ⟨a, c, (hd a c).mpr (.inr ⟨rfl, rfl⟩), hv⟩, fun x y hxy => ?_⟩
      rcases (hd x y).mp hxy with z | ⟨rfl, rfl⟩
      · have := h4 x y z; grind
      · rw [← hv]; exact Rat.le_refl
    · rw [if_neg k]
      refine ⟨h1, ⟨a', c', (hd a' c').mpr (.inl h2), h3⟩, fun x y hxy => ?_⟩
      rcases (hd x y).mp hxy with z | ⟨rfl, rfl⟩
      · exact h4 x y z
      · rw [← hv]; grind
end Lt
set_option maxRecDepth 100000
set_option maxHeartbeats 2000000
namespace Lt
open PySem (Str)
open LawT
theorem StrO.fr {S S' : Store} {W : List Nat} {n q : Nat} {sp : Rat} {ts : List Smp} (o : StrO S n q sp ts) (f : Fr W S S') (h1 : n ∉ W) (h2 : q ∉ W) : StrO S' n q sp ts := by
  obtain ⟨a1, ⟨lo, hi, a2, a3, a4⟩, a5, a6, a7, a8, a9, a10⟩ := o
  exact ⟨a1, ⟨lo, hi, f.getI a2 h1, a3, a4⟩, f.getL a5 h2, a6, a7, a8, a9, a10⟩
/-- an object and the law's own list beside it -/
structure Kn (S : Store) (n q t : Nat) (b bd : Int) (es : List EnI) : Prop where
  o : StrO S n q (2 * Rat.divInt bd b) (es.map (smo b))
  ht : getL S t = some (es.map eiD)
  tn : t ≠ n
  tq : t ≠ q
  eb : ∀ e ∈ es, EiB e
theorem Kn.fr {S S' : Store} {W : List Nat} {n q t : Nat} {b bd : Int} {es : List EnI} (kn : Kn S n q t b bd es) (f : Fr W S S') (h1 : n ∉ W) (h2 : q ∉ W) (h3 : t ∉ W) : Kn S' n q t b bd es :=
  ⟨kn.o.fr f h1 h2, f.getL kn.ht h3, kn.tn, kn.tq, kn.eb⟩
theorem Kn.up {S : Store} {n q t : Nat} {b bd : Int} {es : List EnI} (kn : Kn S n q t b bd es) : es.Pairwise fun a c => a.1 < c.1 := by
  have h := kn.o.up
  rw [List.pairwise_map] at h; exact h
theorem Kn.lt {S : Store} {n q t : Nat} {b bd : Int} {es : List EnI} (kn : Kn S n q t b bd es) : n < S.length ∧ q < S.length ∧ t < S.length := by
  obtain ⟨lo, hi, hI, _, _⟩ := kn.o.fs
  exact ⟨getI_lt hI, getL_lt kn.o.sm, getL_lt kn.ht⟩
theorem Lo.uniq {sp : Rat} {ts : List Smp} {o o' : Option Rat} (h : Lo sp ts o) (h' : Lo sp ts o') : o = o' := by
  cases o with
  | none =>
    cases o' with
    | none => rfl
    | some l => obtain ⟨⟨a, ma, b, mb, hab, _⟩, _⟩ := h'; exact absurd hab (h a ma b mb)
  | some l =>
    cases o' with
    | none => obtain ⟨⟨a, ma, b, mb, hab, _⟩, _⟩ := h; exact absurd hab (h' a ma b mb)
    | some l' =>
      obtain ⟨⟨a, ma, b, mb, hab, e1⟩, k1⟩ := h
      obtain ⟨⟨c, mc, d, md, hcd, e2⟩, k2⟩ := h'
      have := k1 c mc d md hcd
      have := k2 a ma b mb hab
      congr 1
      grind
theorem Hi.uniq {sp : Rat} {ts : List Smp} {o o' : Option Rat} (h : Hi sp ts o) (h' : Hi sp ts o') : o = o' := by
  cases o with
  | none =>
    cases o' with
    | none => rfl
    | some l => obtain ⟨⟨a, ma, b, mb, hab, _⟩, _⟩ := h'; exact absurd hab (h a ma b mb)
  | some l =>
    cases o' with
    | none => obtain ⟨⟨a, ma, b, mb, hab, _⟩, _⟩ := h; exact absurd hab (h' a ma b mb)
    | some l' =>
      obtain ⟨⟨a, ma, b, mb, hab, e1⟩, k1⟩ := h
      obtain ⟨⟨c, mc, d, md, hcd, e2⟩, k2⟩ := h'
      have := k1 c mc d md hcd
      have := k2 a ma b mb hab
      congr 1
      grind
theorem fr_ratio {p : Int × Int} : rD (Rat.divInt p.1 p.2) = rD (frV p) := by rw [divInt_eq_div]; rfl
end Lt
set_option maxRecDepth 100000
set_option maxHeartbeats 2000000
namespace Lt
open PySem (Str)
open LawT
def LLD (S : Store) : List Nat → List (List D) → Prop
  | [], [] => True
  | q :: qs, r :: rs => getL S q = some r ∧ LLD S qs rs
  | _, _ => False
section
variable {S S' : Store} {W : List Nat}
theorem LLD.len : ∀ {qs : List Nat} {rs : List (List D)}, LLD S qs rs → qs.length = rs.length
  | [], [], _ => rfl
  | _ :: _, _ :: _, h => by simp [LLD.len h.2]
theorem LLD.snoc {q : Nat} {r : List D} (hq : getL S q = some r) : ∀ {qs : List Nat} {rs : List (List D)}, LLD S qs rs → LLD S (qs ++ [q]) (rs ++ [r])
  | [], [], _ => ⟨hq, trivial⟩
  | _ :: _, _ :: _, h => ⟨h.1, LLD.snoc hq h.2⟩
theorem LLD.fr (f : Fr W S S') : ∀ {qs : List Nat} {rs : List (List D)}, LLD S qs rs → (∀ q ∈ qs, q ∉ W) → LLD S' qs rs
  | [], [], _, _ => trivial
  | q :: qs, _ :: _, h, hn => ⟨f.getL h.1 (hn q (by simp)), LLD.fr f h.2 fun p hp => hn p (by simp [hp])⟩
theorem LLD.get : ∀ {qs : List Nat} {rs : List (List D)} {i : Nat} {q : Nat}, LLD S qs rs → qs[i]? = some q → ∃ r, rs[i]? = some r ∧ getL S q = some r
  | [], [], _, _, _, e => by simp at e
  | q :: qs, r :: rs, i, p, h, e => by
    cases i with
    | zero => simp at e; subst e; exact ⟨r, by simp, h.1⟩
    | succ i => simp at e; obtain ⟨x, h1, h2⟩ := LLD.get h.2 e; exact ⟨x, by simpa using h1, h2⟩
theorem LLD.mem : ∀ {qs : List Nat} {rs : List (List D)}, LLD S qs rs → ∀ q ∈ qs, ∃ r ∈ rs, getL S q = some r
  | [], [], _, q, hq => by cases hq
  | p :: qs, r :: rs, h, q, hq => by
    rcases List.mem_cons.mp hq with rfl | hq
    · exact ⟨r, List.mem_cons_self .., h.1⟩
    · obtain ⟨x, h1, h2⟩ := LLD.mem h.2 q hq
      exact ⟨x, List.mem_cons_of_mem _ h1, h2⟩
theorem LLD.lt {qs : List Nat} {rs : List (List D)} (h : LLD S qs rs) : ∀ q ∈ qs, q < S.length := fun q hq => by
  obtain ⟨r, _, e⟩ := h.mem q hq
  exact getL_lt e
end
theorem Ext.fr {B S S' : Store} {W : List Nat} (e : Ext B S) (f : Fr W S S') (h : ∀ w ∈ W, B.length ≤ w) : Ext B S' := by
  have l := e.len
  refine Fr.ext ⟨by have := f.1; omega, fun p hp _ => ?_⟩
  rw [f.2 p (by omega) (fun z => by have := h p z; omega)]
  exact (Fr.of (W := []) e).2 p hp (by simp)
/-- parted from the first sample on, each part as long as it goes; cur: the last one -/
inductive Parts (sp : Rat) : List Smp → List (List Smp) → List Smp → Prop
  | start {x : Smp} : Parts sp [x] [] [x]
  | more {ts : List Smp} {ps : List (List Smp)} {cur : List Smp} {x : Smp} : Parts sp ts ps cur → Borne sp (cur ++ [x]) → Parts sp (ts ++ [x]) ps (cur ++ [x])
  | next {ts : List Smp} {ps : List (List Smp)} {cur : List Smp} {x : Smp} : Parts sp ts ps cur → ¬ Borne sp (cur ++ [x]) → Parts sp (ts ++ [x]) (ps ++ [cur]) [x]
theorem borne_one {sp : Rat} {x : Smp} : Borne sp [x] := by
  intro a ha b hb c hc d hd hab
  simp at ha hb
  rw [ha, hb] at hab
  omega
theorem Parts.ne {sp : Rat} {ts : List Smp} {ps : List (List Smp)} {cur : List Smp} (h : Parts sp ts ps cur) : cur ≠ [] ∧ ∀ p ∈ ps, p ≠ [] := by
  induction h with
  | start => simp
  | more _ _ ih => exact ⟨by simp, ih.2⟩
  | next _ _ ih =>
    refine ⟨by simp, fun p hp => ?_⟩
    rcases List.mem_append.mp hp with z | z
    · exact ih.2 p z
    · simp at z; subst z; exact ih.1
theorem Parts.flat {sp : Rat} {ts : List Smp} {ps : List (List Smp)} {cur : List Smp} (h : Parts sp ts ps cur) : ps.flatten ++ cur = ts := by
  induction h with
  | start => rfl
  | more _ _ ih => rw [← List.append_assoc, ih]
  | next _ _ ih => rw [List.flatten_append]; simp; rw [← List.append_assoc, ih]
/-- each part with the next one's first sample is not borne -/
def Shuts (sp : Rat) : List (List Smp) → Prop
  | p :: p' :: r => (∃ x t, p' = x :: t ∧ ¬ Borne sp (p ++ [x])) ∧ Shuts sp (p' :: r)
  | _ => True
theorem shuts_snoc {sp : Rat} {x : Smp} : ∀ {ps : List (List Smp)} {cur : List Smp}, Shuts sp (ps ++ [cur]) → ¬ Borne sp (cur ++ [x]) → Shuts sp (ps ++ [cur] ++ [[x]])
  | [], cur, _, h => ⟨⟨x, [], rfl, h⟩, trivial⟩
  | [p], cur, h1, h => ⟨h1.1, shuts_snoc (ps := []) h1.2 h⟩
  | p :: p' :: r, cur, h1, h => ⟨h1.1, shuts_snoc (ps := p' :: r) h1.2 h⟩
theorem shuts_grow {sp : Rat} {x : Smp} : ∀ {ps : List (List Smp)} {cur : List Smp}, cur ≠ [] → Shuts sp (ps ++ [cur]) → Shuts sp (ps ++ [cur ++ [x]])
  | [], _, _, _ => trivial
  | [p], cur, hne, h => by
    obtain ⟨⟨y, t, e, hb⟩, _⟩ := h
    exact ⟨⟨y, t ++ [x], by rw [e]; rfl, hb⟩, trivial⟩
  | p :: p' :: r, cur, hne, h => ⟨h.1, shuts_grow (ps := p' :: r) hne h.2⟩
theorem Parts.shuts {sp : Rat} {ts : List Smp} {ps : List (List Smp)} {cur : List Smp} (h : Parts sp ts ps cur) : Shuts sp (ps ++ [cur]) := by
  induction h with
  | start => trivial
  | more h0 _ ih => exact shuts_grow h0.ne.1 ih
  | next _ hb ih => exact shuts_snoc ih hb
/-- all parts -/
def AllP (sp : Rat) (ts : List Smp) (ps : List (List Smp)) : Prop := (ts = [] ∧ ps = []) ∨ ∃ qs cur, ps = qs ++ [cur] ∧ Parts sp ts qs cur
def smps (ps : List (List Smp)) : List (List D) := ps.map fun p => p.map smpD
section
variable {P : Prog} {F k : Nat} {S : Store} {E : XP}
theorem StrO.lt {n q : Nat} {sp : Rat} {ts : List Smp} (o : StrO S n q sp ts) : n < S.length ∧ q < S.length := by
  obtain ⟨lo, hi, hI, _, _⟩ := o.fs
  exact ⟨getI_lt hI, getL_lt o.sm⟩
theorem parts_len {sp : Rat} {ts : List Smp} {ps : List (List Smp)} {cur : List Smp} (h : Parts sp ts ps cur) : ps.length < ts.length ∧ cur.length ≤ ts.length := by
  induction h with
  | start => simp
  | more _ _ ih => simp; omega
  | next _ _ ih => simp; omega
end
end Lt
set_option maxRecDepth 100000
set_option maxHeartbeats 2000000
namespace Lt
set_option exponentiation.threshold 4000
open PySem (Str)
open LawT
/-- the first greatest of some places -/
def FstMax (m : Nat → Rat) (lo hi : Nat) (o : Option (Nat × Rat)) : Prop := match o with
  | none => hi ≤ lo
  | some (p, v) => lo ≤ p ∧ p < hi ∧ v = m p ∧ (∀ k, lo ≤ k → k < hi → m k ≤ v) ∧ ∀ k, lo ≤ k → k < p → m k < v
def stepM (o : Option (Nat × Rat)) (i : Nat) (v : Rat) : Nat × Rat := match o with
  | none => (i, v)
  | some (p, w) => if w < v then (i, v) else (p, w)
theorem FstMax.step {m : Nat → Rat} {lo i : Nat} {o : Option (Nat × Rat)} (h : FstMax m lo i o) (hi : lo ≤ i) : FstMax m lo (i + 1) (some (stepM o i (m i))) := by
  cases o with
  | none =>
    have h : i ≤ lo := h
    refine ⟨hi, by omega, rfl, fun k h1 h2 => ?_, fun k h1 h2 => by omega⟩
    have : k = i := by omega
    subst this; exact Rat.le_refl
  | some x =>
    obtain ⟨p, w⟩ := x
    obtain ⟨h1, h2, h3, h4, h5⟩ := h
    by_cases k : w < m i
    · have e : stepM (some (p, w)) i (m i) = (i, m i) := if_pos k
      rw [e]
      refine ⟨hi, by omega, rfl, fun j j1 j2 => ?_, fun j j1 j2 => ?_⟩
      · by_cases hj : j = i
        · subst hj; exact Rat.le_refl
        · have := h4 j j1 (by omega); grind
      · have := h4 j j1 (by omega); grind
    · have e : stepM (some (p, w)) i (m i) = (p, w) := if_neg k
      rw [e]
      refine ⟨h1, by omega, h3, fun j j1 j2 => ?_, h5⟩
      by_cases hj : j = i
      · subst hj; exact Rat.not_lt.mp k
      · exact h4 j j1 (by omega)
theorem FstMax.uniq {m : Nat → Rat} {lo hi : Nat} {o o' : Option (Nat × Rat)} (h : FstMax m lo hi o) (h' : FstMax m lo hi o') : o = o' := by
  cases o with
  | none =>
    have h : hi ≤ lo := h
    cases o' with
    | none => rfl
    | some x => obtain ⟨p, v⟩ := x; have := h'.1; have := h'.2.1; omega
  | some x =>
    obtain ⟨p, v⟩ := x
    obtain ⟨a1, a2, a3, a4, a5⟩ := h
    cases o' with
    | none => have h' : hi ≤ lo := h'; omega
    | some y =>
      obtain ⟨q, w⟩ := y
      obtain ⟨b1, b2, b3, b4, b5⟩ := h'
      have e : p = q := by
        rcases Nat.lt_trichotomy p q with z | z | z
        · have z1 := b5 p a1 z
          have z2 := a4 q b1 b2
          rw [← a3] at z1; rw [← b3] at z2; grind
        · exact z
        · have z1 := a5 q b1 z
          have z2 := b4 p a1 a2
          rw [← b3] at z1; rw [← a3] at z2; grind
      subst e
      rw [a3, b3]
abbrev zS : Smp := (0, 0)
/-- how far a place is off the chord of two others -/
def msQ (ts : List Smp) (f l k : Nat) : Rat := absQ (stq (ts.getD f zS) (ts.getD k zS) (ts.getD l zS))
def farD : Option (Nat × Rat) → D
  | some (p, v) => .tup [.int p, rD v]
  | none => .non
theorem get_getD {α : Type} {ts : List α} {i : Nat} (z : α) (h : i < ts.length) : ts[i]? = some (ts.getD i z) := by simp [List.getD, h]
theorem getD_mem {α : Type} {ts : List α} {i : Nat} {z : α} (h : i < ts.length) : ts.getD i z ∈ ts := List.mem_of_getElem? (get_getD z h)
section
variable {P : Prog} {F k : Nat} {S : Store} {E : XP}
theorem smp_item {ts : List Smp} {i : Nat} {c : Smp} (h : ts[i]? = some c) : itemR (some (ts.map smpD)) (i : Int) S = .ok (smpD c) S := itemR_nat (by simp [h])
abbrev GapS := Int × Option Rat
def gapD (g : GapS) : D := .tup [.int g.1, valD g.2]
def hdN (b : Int) (e : EnN) : GapS := (e.1, e.2.map fun n => Rat.divInt n b)
def HdI (S : Store) (t : Nat) (b : Int) (es : List EnN) (i : Nat) (e : Env) (S2 : Store) : Prop := ∃ x3 x4, e = [some (.ref t), some (.int b), some (.ref S.length), x3, x4] ∧ S2 = S ++ [.lst ((es.map fun e => gapD (hdN b e)).take i)]
/-- a new list of these -/
def IsG (S S' : Store) (x : D) (ds : List D) : Prop := Ext S S' ∧ ∃ q, x = .ref q ∧ S.length ≤ q ∧ getL S' q = some ds
theorem handed_wp (h : Has P "_law_handed" 2 5 b__law_handed) (hr : P.defs.lookup ("_law_ratio" : Str) = some a__law_ratio) (hF : BIG ≤ F) {t : Nat} {es : List EnN} {b : Int} (ht : getL S t = some (es.map enD)) (hb : 0 < b) (hb2 : b.natAbs < 2 ^ 1000) (hl : es.length ≤ 10000) :
    Wp (callN P F (k + 2) "_law_handed" [.ref t, .int b] S) E fun r S' => IsG S S' r (es.map fun e => gapD (hdN b e)) := by
  apply wp_has h rfl
  simp only [b__law_handed]
  have zb : IZ b 1000 := ⟨hb2⟩
  simp [wpx, wpo, wps]
  refine for_seq (xs := es.map enD) (HdI S t b es) (getL_app_l ht) ⟨_, _, rfl, by simp⟩ ?_ ?_
  · rintro i y e S2 hy hi ⟨x3, x4, rfl, rfl⟩
    obtain ⟨c, hc, rfl⟩ := map_get hy
    have hi2 := (List.getElem?_eq_some_iff.mp hc).1
    refine ⟨getL_app_l ht, ?_⟩
    have hlen : min i es.length < lim := by unfold lim; omega
    obtain ⟨m, v⟩ := c
    refine ⟨_, bind_two (by simp), ?_⟩
    have hc2 : (es.map fun e => gapD (hdN b e))[i]? = some (gapD (hdN b (m, v))) := by simp [hc]
    have fin : ∀ e' d, e' = [some (.ref t), some (.int b), some (.ref S.length), some (.int m), some (numD v)] → d = gapD (hdN b (m, v)) → HdI S t b es (i + 1) e' (S ++ [.lst ((es.map fun e => gapD (hdN b e)).take i ++ [d])]) := fun e' d he hd => ⟨_, _, he, by rw [hd, List.take_succ, hc2]; rfl⟩
    cases v with
    | none =>
      simp [wpx, wpo, wps, isN_num, hlen]
      exact fin _ _ rfl rfl
    | some n =>
      have e2 : isN (D.int n) = false := rfl
      simp [wpx, wpo, wps, isN_num, hlen, numD, e2, lratio_e hr hF hb]
      exact fin _ _ rfl rfl
  · rintro e S2 ⟨x3, x4, rfl, rfl⟩
    rw [List.take_of_length_le (by simp)]
    refine ⟨getL_app_l ht, ?_⟩
    simp [wpx, wpo, wps]
    exact ⟨Ext.one, _, rfl, Nat.le_refl _, by simp [getL]⟩
/-- what a list of samples is like -/
structure HeI (hs : List EnI) : Prop where
  up : hs.Pairwise fun a c => a.1 < c.1
  b : ∀ e ∈ hs, e.1.natAbs < 2 ^ 43 ∧ e.2.natAbs < 2 ^ 130
  l : hs.length < 95
abbrev zI : EnI := (0, 0)
theorem HeI.eb {hs : List EnI} (h : HeI hs) : ∀ e ∈ hs, EiB e := fun e he => ⟨Nat.lt_of_lt_of_le (h.b e he).1 (nat_pow_mono (by decide)), Nat.lt_of_lt_of_le (h.b e he).2 (nat_pow_mono (by decide))⟩
theorem getD_smo {es : List EnI} {b : Int} {i : Nat} : (es.map (smo b)).getD i zS = smo b (es.getD i zI) := by
  have : zS = smo b zI := by simp [smo]
  rw [this]
  simp only [List.getD, List.getElem?_map]
  cases es[i]? <;> rfl
theorem abs_mul {x d : Rat} (hd : 0 < d) : absQ x * d = absQ (x * d) := by
  unfold absQ
  by_cases h : x < 0
  · have : x * d < 0 := by
      have := (Rat.mul_lt_mul_right (a := x) (b := 0) hd).mpr h
      grind
    rw [if_pos h, if_pos this]; grind
  · have : ¬ x * d < 0 := by
      have h0 : 0 ≤ x := Rat.not_lt.mp h
      have := Rat.mul_nonneg h0 (Rat.le_of_lt hd)
      grind
    rw [if_neg h, if_neg this]
theorem abs_cast (z : Int) : absQ (z : Rat) = ((z.natAbs : Int) : Rat) := by
  unfold absQ
  by_cases h : z < 0
  · have : (z : Rat) < 0 := by
      have := (Rat.intCast_lt_intCast (a := z) (b := 0)).mpr h
      simpa using this
    rw [if_pos this, ← Rat.intCast_neg]
    congr 1; omega
  · have : ¬ (z : Rat) < 0 := by
      have := not_congr (Rat.intCast_lt_intCast (a := z) (b := 0))
      simpa using this.mpr h
    rw [if_neg this]
    congr 1; omega
end
end Lt
set_option maxRecDepth 100000
set_option maxHeartbeats 2000000
namespace Lt
set_option exponentiation.threshold 9000
open PySem (Str)
open L2 (Key)
open LawT
def getT (S : Store) (r : Nat) : Option (List (List Key × D)) := match S[r]? with
  | some (.dT kvs) => some kvs
  | _ => none
def kk (f l : Int) : List Key := [.inl f, .inl l]
section
variable {S S' : Store} {r : Nat} {kvs : List (List Key × D)} {f l : Int} {v : D} {W : List Nat}
theorem getT_e (h : getT S r = some kvs) : S[r]? = some (.dT kvs) := by
  unfold getT at h
  split at h
  · cases h; assumption
  · cases h
theorem getT_lt (h : getT S r = some kvs) : r < S.length := (List.getElem?_eq_some_iff.mp (getT_e h)).1
theorem Fr.getT (a : Fr W S S') (h : Lt.getT S r = some kvs) (hp : r ∉ W) : Lt.getT S' r = some kvs := by
  have hl := getT_lt h
  unfold Lt.getT at h ⊢
  rw [a.2 r hl hp]; exact h
end
/-- what a table tells, for the places that are done -/
def TbD (ts : List Smp) (kvs : List (List Key × D)) (d : Nat → Nat → Prop) : Prop := ∀ f l : Nat, (d f l → ∃ o, lookK kvs (kk f l) = some (farD o) ∧ FstMax (msQ ts f l) (f + 1) l o) ∧ (¬ d f l → lookK kvs (kk f l) = none)
def TbP (ts : List Smp) (kvs : List (List Key × D)) : Prop := TbD ts kvs fun f l => f + 2 ≤ l ∧ l < ts.length
section
variable {P : Prog} {F k : Nat} {S : Store} {E : XP}
/-- the place of the last sample of what leads to a label's place -/
def epT (tied : Bool) (at_ : Nat) : Nat := if tied = true then at_ else at_ - 1
/-- no sample between is off by more -/
def LeadQ (ts : List Smp) (s e : Nat) (q : Rat) : Prop := ∀ k, s < k → k < e → msQ ts s e k ≤ q
def nD (n : Nat) : D := .int n
def gN (ls : List Nat) (i : Nat) : Nat := ls.getD i 0
/-- the fewest that lead to each -/
def LabP (L : Nat → Nat → Prop) (ls : List Nat) : Prop := gN ls 0 = 0 ∧ ∀ a, 1 ≤ a → a < ls.length → (∃ s, s < a ∧ L s a ∧ gN ls a = gN ls s + 1) ∧ ∀ s, s < a → L s a → gN ls a ≤ gN ls s + 1
/-- the least so far -/
def LeastW (L : Nat → Nat → Prop) (ls : List Nat) (a i w : Nat) : Prop := (∃ s, s < a ∧ L s a ∧ w = gN ls s + 1) ∧ ∀ s, (s < i ∨ s = a - 1) → L s a → w ≤ gN ls s + 1
theorem LabP.snoc {L : Nat → Nat → Prop} {ls : List Nat} {w : Nat} (h : LabP L ls) (h1 : 1 ≤ ls.length) (hw : LeastW L ls ls.length (ls.length - 1) w) : LabP L (ls ++ [w]) := by
  have old : ∀ j, j < ls.length → gN (ls ++ [w]) j = gN ls j := fun j hj => by simp [gN, List.getD, List.getElem?_append_left hj]
  have new : gN (ls ++ [w]) ls.length = w := by simp [gN, List.getD]
  refine ⟨by rw [old 0 (by omega)]; exact h.1, fun a h2 h3 => ?_⟩
  rw [List.length_append, List.length_singleton] at h3
  by_cases e : a = ls.length
  · subst e
    obtain ⟨⟨s, k1, k2, k3⟩, k4⟩ := hw
    rw [new]
    refine ⟨⟨s, k1, k2, by rw [old s k1]; exact k3⟩, fun s' z1 z2 => ?_⟩
    rw [old s' z1]
    exact k4 s' (by omega) z2
  · obtain ⟨⟨s, k1, k2, k3⟩, k4⟩ := h.2 a h2 (by omega)
    rw [old a (by omega)]
    refine ⟨⟨s, k1, k2, by rw [old s (by omega)]; exact k3⟩, fun s' z1 z2 => ?_⟩
    rw [old s' (by omega)]
    exact k4 s' z1 z2
theorem LabP.le {L : Nat → Nat → Prop} {ls : List Nat} (h : LabP L ls) : ∀ a, a < ls.length → gN ls a ≤ a := by
  intro a
  induction a using Nat.strongRecOn with
  | ind a ih =>
    intro ha
    by_cases h0 : a = 0
    · subst h0; rw [h.1]; omega
    · obtain ⟨⟨s, k1, k2, k3⟩, _⟩ := h.2 a (by omega) ha
      have := ih s k1 (by omega)
      omega
end
end Lt
set_option maxRecDepth 100000
set_option maxHeartbeats 2000000
namespace Lt
set_option exponentiation.threshold 9000
open PySem (Str)
open L2 (Key)
open LawT
abbrev T3 := Int × Int × Int
def thD (t : T3) : D := .tup [.int t.1, .int t.2.1, .int t.2.2]
def jump (ls : List Nat) (s a : Nat) : Bool := decide (gN ls s + 1 < gN ls a)
noncomputable def farPl (ts : List Smp) (f l : Nat) : Nat := by
  classical
  exact if h : ∃ p v, FstMax (msQ ts f l) (f + 1) l (some (p, v)) then h.choose else 0
noncomputable def thr (ts : List Smp) (tied : Bool) (s a : Nat) : T3 := ((ts.getD s zS).1, (ts.getD (farPl ts s (epT tied a)) zS).1, (ts.getD (epT tied a) zS).1)
def barRow (ls : List Nat) (g : Nat → Nat → T3) (s j : Nat) : List T3 := ((List.range j).filter fun j => jump ls s (s + 1 + j)).map fun j => g s (s + 1 + j)
def barsL (ls : List Nat) (g : Nat → Nat → T3) (i : Nat) : List T3 := (List.range i).flatMap fun s => barRow ls g s (ls.length - (s + 1))
section
variable {P : Prog} {F k : Nat} {S : Store} {E : XP}
theorem LabP.uniq {L : Nat → Nat → Prop} {ls ls' : List Nat} (h : LabP L ls) (h' : LabP L ls') (hl : ls.length = ls'.length) : ls = ls' := by
  have key : ∀ a, a < ls.length → gN ls a = gN ls' a := by
    intro a
    induction a using Nat.strongRecOn with
    | ind a ih =>
      intro ha
      by_cases h0 : a = 0
      · subst h0; rw [h.1, h'.1]
      · obtain ⟨⟨s, k1, k2, k3⟩, k4⟩ := h.2 a (by omega) ha
        obtain ⟨⟨s', z1, z2, z3⟩, z4⟩ := h'.2 a (by omega) (by omega)
        have e1 := ih s k1 (by omega)
        have e2 := ih s' z1 (by omega)
        have := k4 s' z1 z2
        have := z4 s k1 k2
        omega
  apply List.ext_getElem hl
  intro i h1 h2
  have := key i h1
  simpa [gN, List.getD, h1, h2] using this
end
end Lt
set_option maxRecDepth 100000
set_option maxHeartbeats 2000000
namespace Lt
set_option exponentiation.threshold 9000
open PySem (Str)
open L2 (Key)
open LawT
theorem big_ge : 1000000 ≤ BIG := by
  unfold BIG
  exact Nat.le_trans (show 1000000 ≤ 2 ^ 20 by decide) (nat_pow_mono (by decide))
def BegP (L : Nat → Nat → Prop) (ls : List Nat) (s a : Nat) : Prop := gN ls s + 1 = gN ls a ∧ L s a ∧ ∀ s', s' < s → ¬ (gN ls s' + 1 = gN ls a ∧ L s' a)
theorem BegP.uniq {L : Nat → Nat → Prop} {ls : List Nat} {s s' a : Nat} (h : BegP L ls s a) (h' : BegP L ls s' a) : s = s' := by
  rcases Nat.lt_trichotomy s s' with z | z | z
  · exact absurd ⟨h.1, h.2.1⟩ (h'.2.2 s z)
  · exact z
  · exact absurd ⟨h'.1, h'.2.1⟩ (h.2.2 s' z)
noncomputable def begF (L : Nat → Nat → Prop) (ls : List Nat) (a : Nat) : Nat := by
  classical
  exact if h : ∃ s, BegP L ls s a then h.choose else 0
noncomputable def wk (L : Nat → Nat → Prop) (ls : List Nat) (a : Nat) : List (Nat × Nat) := if a = 0 then [] else if h : begF L ls a < a then (begF L ls a, a) :: wk L ls (begF L ls a) else []
termination_by a
abbrev Pc := Smp × Smp
def pcD (p : Pc) : D := .tup [rD (p.1.1 : Rat), rD p.1.2, rD (p.2.1 : Rat), rD p.2.2]
def sA (ts : List Smp) (i : Nat) : Smp := ts.getD i zS
noncomputable def pcs (ts : List Smp) (tied : Bool) (L : Nat → Nat → Prop) (ls : List Nat) (a0 : Nat) : List Pc := if a0 = 0 then [(sA ts 0, sA ts 0)] else (wk L ls a0).reverse.map fun x => (sA ts x.1, sA ts (epT tied x.2))
def LP (ts : List Smp) (q : Rat) (tied : Bool) (s a : Nat) : Prop := LeadQ ts s (epT tied a) q
def cnt (tied : Bool) (n : Nat) : Nat := if tied = true then n else n + 1
noncomputable def labF (ts : List Smp) (q : Rat) (tied : Bool) : List Nat := by
  classical
  exact if h : ∃ ls, LabP (LP ts q tied) ls ∧ ls.length = cnt tied ts.length then h.choose else []
noncomputable def pcF (ts : List Smp) (q : Rat) (tied : Bool) : List Pc := pcs ts tied (LP ts q tied) (labF ts q tied) ((labF ts q tied).length - 1)
noncomputable def barF (ts : List Smp) (q : Rat) (tied : Bool) : List T3 := barsL (labF ts q tied) (thr ts tied) (labF ts q tied).length
section
variable {P : Prog} {F k : Nat} {S : Store} {E : XP}
theorem sA_item {ts : List Smp} {i : Nat} (h : i < ts.length) : itemR (some (ts.map smpD)) (i : Int) S = .ok (smpD (sA ts i)) S := smp_item (get_getD zS h)
def papD (p : Nat × Nat) : D := .tup [.ref p.1, .ref p.2]
def PaP (S : Store) : List (Nat × Nat) → List (List Nat × List T3) → Prop
  | [], [] => True
  | p :: ps, r :: rs => (getL S p.1 = some (r.1.map nD) ∧ getL S p.2 = some (r.2.map thD)) ∧ PaP S ps rs
  | _, _ => False
theorem PaP.snoc {p : Nat × Nat} {r : List Nat × List T3} (h1 : getL S p.1 = some (r.1.map nD)) (h2 : getL S p.2 = some (r.2.map thD)) : ∀ {ps : List (Nat × Nat)} {rs : List (List Nat × List T3)}, PaP S ps rs → PaP S (ps ++ [p]) (rs ++ [r])
  | [], [], _ => ⟨⟨h1, h2⟩, trivial⟩
  | _ :: _, _ :: _, h => ⟨h.1, PaP.snoc h1 h2 h.2⟩
theorem PaP.len : ∀ {ps : List (Nat × Nat)} {rs : List (List Nat × List T3)}, PaP S ps rs → ps.length = rs.length
  | [], [], _ => rfl
  | _ :: _, _ :: _, h => by simp [PaP.len h.2]
theorem PaP.fr {S' : Store} {W : List Nat} (f : Fr W S S') : ∀ {ps : List (Nat × Nat)} {rs : List (List Nat × List T3)}, PaP S ps rs → (∀ p ∈ ps, p.1 ∉ W ∧ p.2 ∉ W) → PaP S' ps rs
  | [], [], _, _ => trivial
  | p :: ps, _ :: _, h, hn => ⟨⟨f.getL h.1.1 (hn p (by simp)).1, f.getL h.1.2 (hn p (by simp)).2⟩, PaP.fr f h.2 fun x hx => hn x (by simp [hx])⟩
/-- all the lists of a paper are apart -/
def refsP (ps : List (Nat × Nat)) : List Nat := ps.flatMap fun p => [p.1, p.2]
def Sep (ps : List (Nat × Nat)) : Prop := (refsP ps).Nodup
theorem PaP.lt : ∀ {ps : List (Nat × Nat)} {rs : List (List Nat × List T3)}, PaP S ps rs → ∀ x ∈ refsP ps, x < S.length
  | [], [], _, x, hx => by simp [refsP] at hx
  | p :: ps, _ :: _, h, x, hx => by
    have hx : x ∈ [p.1, p.2] ++ refsP ps := by simpa [refsP] using hx
    rcases List.mem_append.mp hx with z | z
    · simp at z
      rcases z with rfl | rfl
      · exact getL_lt h.1.1
      · exact getL_lt h.1.2
    · exact PaP.lt h.2 x z
theorem Sep.snoc {ps : List (Nat × Nat)} {p : Nat × Nat} {n : Nat} (h : Sep ps) (hl : ∀ x ∈ refsP ps, x < n) (h1 : n ≤ p.1) (h2 : p.1 < p.2) : Sep (ps ++ [p]) := by
  unfold Sep refsP at *
  rw [List.flatMap_append, List.nodup_append]
  refine ⟨h, by simp; omega, fun a ha b hb => ?_⟩
  have := hl a ha
  simp at hb
  omega
/-- what a run is like -/
structure RunP (ts : List Smp) : Prop where
  z : ∀ s ∈ ts, SmB s
  l : ts.length ≤ 100
  l1 : 1 ≤ ts.length
  up : ts.Pairwise fun a c => a.1 < c.1
/-- the runs as lists -/
structure RnP (S : Store) (t : Nat) (qs : List Nat) (rss : List (List Smp)) : Prop where
  t : getL S t = some (qs.map .ref)
  q : LLD S qs (smps rss)
def smE (e : Ent) : Smp := (e.1, e.2.getD 0)
def sruns (es : List Ent) : List (List Smp) := (runsF es).map fun r => r.map smE
theorem ent_smp {e : Ent} (h : e.2.isSome = true) : entD e = smpD (smE e) := by
  obtain ⟨m, v⟩ := e
  cases v with
  | none => cases h
  | some q => rfl
theorem fold_all : ∀ es : List Ent, (foldR es).1.flatten ++ (foldR es).2 = es.filter (fun e => e.2.isSome) ∧ ∀ r ∈ (foldR es).1, r ≠ [] := by
  have key : ∀ (es : List Ent) (s : List (List Ent) × List Ent), (es.foldl stepR s).1.flatten ++ (es.foldl stepR s).2 = s.1.flatten ++ s.2 ++ es.filter (fun e => e.2.isSome) ∧ ((∀ r ∈ s.1, r ≠ []) → ∀ r ∈ (es.foldl stepR s).1, r ≠ []) := by
    intro es
    induction es with
    | nil => intro s; simp
    | cons e es ih =>
      intro s
      obtain ⟨h1, h2⟩ := ih (stepR s e)
      rw [List.foldl_cons]
      refine ⟨?_, fun hs => h2 ?_⟩
      · rw [h1]
        unfold stepR
        by_cases hv : e.2.isSome = true
        · simp [hv]
        · by_cases hc : 0 < s.2.length
          · simp [hv, hc]
          · have : s.2 = [] := by cases h : s.2 with
              | nil => rfl
              | cons _ _ => rw [h] at hc; simp at hc
            simp [hv, this]
      · unfold stepR
        by_cases hv : e.2.isSome = true
        · simpa [hv] using hs
        · by_cases hc : 0 < s.2.length
          · simp only [hv, hc, if_true]
            intro r hr
            simp at hr
            rcases hr with z | z
            · exact hs r z
            · subst z
              intro w
              rw [w] at hc
              simp at hc
          · simpa [hv, hc] using hs
  intro es
  have := key es ([], [])
  exact ⟨by simpa [foldR] using this.1, by have := this.2 (fun r hr => (nomatch hr)); exact this⟩
theorem runs_all (es : List Ent) : (runsF es).flatten = es.filter (fun e => e.2.isSome) ∧ ∀ r ∈ runsF es, r ≠ [] := by
  obtain ⟨h1, h2⟩ := fold_all es
  unfold runsF closeR
  by_cases hc : 0 < (foldR es).2.length
  · rw [if_pos hc]
    refine ⟨by simpa using h1, fun r hr => ?_⟩
    simp at hr
    rcases hr with z | z
    · exact h2 r z
    · subst z
      intro w
      rw [w] at hc
      simp at hc
  · rw [if_neg hc]
    have : (foldR es).2 = [] := by cases h : (foldR es).2 with
      | nil => rfl
      | cons _ _ => rw [h] at hc; simp at hc
    rw [this] at h1
    exact ⟨by simpa using h1, h2⟩
theorem run_sub {es : List Ent} {r : List Ent} (h : r ∈ runsF es) : r.Sublist es ∧ (∀ e ∈ r, e.2.isSome = true) ∧ r ≠ [] := by
  obtain ⟨h1, h2⟩ := runs_all es
  have hs : r.Sublist (es.filter (fun e => e.2.isSome)) := by rw [← h1]; exact List.sublist_flatten_of_mem h
  refine ⟨hs.trans List.filter_sublist, fun e he => ?_, h2 r h⟩
  have := hs.subset he
  rw [List.mem_filter] at this
  exact this.2
theorem lls_lld {S : Store} : ∀ {qs : List Nat} {rs : List (List Ent)}, LLs S qs rs → (∀ r ∈ rs, ∀ e ∈ r, e.2.isSome = true) → LLD S qs (smps (rs.map fun r => r.map smE))
  | [], [], _, _ => trivial
  | q :: qs, r :: rs, h, hs => ⟨by
      rw [h.1]
      congr 1
      show r.map entD = (r.map smE).map smpD
      rw [List.map_map]
      exact List.map_congr_left fun e he => ent_smp (hs r (by simp) e he), lls_lld h.2 fun r' hr' => hs r' (by simp [hr'])⟩
noncomputable def telF (rss : List (List Smp)) (q : Rat) (tied : Bool) : List Pc := rss.flatMap fun ts => pcF ts q tied
noncomputable def papF (rss : List (List Smp)) (q : Rat) (tied : Bool) : List (List Nat × List T3) := rss.map fun ts => (labF ts q tied, barF ts q tied)
end
end Lt
set_option maxRecDepth 100000
set_option maxHeartbeats 2000000
namespace Lt
set_option exponentiation.threshold 9000
open PySem (Str)
open L2 (Key)
open LawT
def stepN (s : List (List EnI) × List EnI) (e : EnN) : List (List EnI) × List EnI := match e.2 with
  | some n => (s.1, s.2 ++ [(e.1, n)])
  | none => if 0 < s.2.length then (s.1 ++ [s.2], []) else s
def foldN (es : List EnN) : List (List EnI) × List EnI := es.foldl stepN ([], [])
def closeN (s : List (List EnI) × List EnI) : List (List EnI) := if 0 < s.2.length then s.1 ++ [s.2] else s.1
def runsN (es : List EnN) : List (List EnI) := closeN (foldN es)
theorem foldN_snoc (es : List EnN) (e : EnN) : foldN (es ++ [e]) = stepN (foldN es) e := by
  unfold foldN
  rw [List.foldl_append]
  rfl
def imE (b : Int) (x : EnI) : Ent := (x.1, some (Rat.divInt x.2 b))
theorem fold_im (b : Int) : ∀ (es : List EnN) (s : List (List EnI) × List EnI), (es.map (hdN b)).foldl stepR (s.1.map (fun r => r.map (imE b)), s.2.map (imE b)) = ((es.foldl stepN s).1.map (fun r => r.map (imE b)), (es.foldl stepN s).2.map (imE b)) := by
  intro es
  induction es with
  | nil => intro s; rfl
  | cons e es ih =>
    intro s
    rw [List.map_cons, List.foldl_cons, List.foldl_cons, ← ih]
    congr 1
    obtain ⟨m, v⟩ := e
    cases v with
    | some n => simp [stepR, stepN, hdN, imE]
    | none =>
      by_cases h : 0 < s.2.length
      · simp [stepR, stepN, hdN, h]
      · simp [stepR, stepN, hdN, h]
theorem sruns_N (b : Int) (es : List EnN) : sruns (es.map (hdN b)) = (runsN es).map fun r => r.map (smo b) := by
  have h := fold_im b es ([], [])
  unfold sruns runsF foldR
  rw [show ([], []) = ((([] : List (List EnI)).map fun r => r.map (imE b)), ([] : List EnI).map (imE b)) from rfl, h]
  unfold closeR runsN closeN foldN
  have e : smE ∘ imE b = smo b := by funext x; rfl
  by_cases hc : 0 < (es.foldl stepN ([], [])).2.length
  · simp only [List.length_map, hc, if_true, List.map_append, List.map_cons, List.map_nil, List.map_map]
    simp [e]
  · simp only [List.length_map, hc, if_false, List.map_map]
    simp [e]
section
variable {P : Prog} {F k : Nat} {S : Store} {E : XP}
theorem LLD.unsnoc {q : Nat} {r : List D} : ∀ {qs : List Nat} {rs : List (List D)}, LLD S (qs ++ [q]) (rs ++ [r]) → LLD S qs rs ∧ getL S q = some r
  | [], [], h => ⟨trivial, h.1⟩
  | [], _ :: rs, h => by
    have := h.2
    cases rs with
    | nil => exact this.elim
    | cons _ _ => exact this.elim
  | _ :: qs, [], h => by
    have := h.2
    cases qs with
    | nil => exact this.elim
    | cons _ _ => exact this.elim
  | _ :: _, _ :: _, h => by
    obtain ⟨a, b⟩ := LLD.unsnoc h.2
    exact ⟨⟨h.1, a⟩, b⟩
def eis (rs : List (List EnI)) : List (List D) := rs.map fun r => r.map eiD
def LrI (B : Store) (r : Nat) (es : List EnN) (i : Nat) (e : Env) (S : Store) : Prop := ∃ (x2 : Option D) (qs : List Nat) (o : Nat) (dl : List (List EnI)), e = [some (.ref r), some (.ref (B.length + 1)), x2, none] ∧ Ext B S ∧ getL S (B.length + 1) = some ((qs ++ [o]).map .ref) ∧ LLD S (qs ++ [o]) (eis (dl ++ [(foldN (es.take i)).2])) ∧ (foldN (es.take i)).1 = dl.filter (fun r => decide (0 < r.length)) ∧ (∀ q ∈ qs ++ [o], B.length ≤ q ∧ q ≠ B.length + 1) ∧ (qs ++ [o]).Nodup ∧ dl.length ≤ i ∧ (foldN (es.take i)).2.length ≤ i
def IsRR (S S' : Store) (x : D) (rs : List (List D)) : Prop := Ext S S' ∧ ∃ t qs, x = .ref t ∧ S.length ≤ t ∧ getL S' t = some (qs.map .ref) ∧ LLD S' qs rs ∧ ∀ q ∈ qs, S.length ≤ q
theorem law_runs_wp (h : Has P "_law_runs" 1 4 b__law_runs) {r : Nat} {es : List EnN} (hr : getL S r = some (es.map enD)) (hl : es.length ≤ 100) :
    Wp (callN P F (k + 1) "_law_runs" [.ref r] S) E fun x S' => IsRR S S' x (eis (runsN es)) := by
  apply wp_has h rfl
  simp only [b__law_runs]
  simp [wpx, wpo, wps]
  have e0 : Ext S (S ++ [.lst [], .lst [.ref S.length]]) := Ext.one
  refine for_seq (xs := es.map enD) (LrI S r es) (getL_app_l hr) ?_ ?_ ?_
  · refine ⟨none, [], S.length, [], rfl, e0, by rw [getL_app]; rfl, ⟨by simp [getL, foldN], trivial⟩, rfl, by simp, by simp, by simp, by simp [foldN]⟩
  · rintro i y e S2 hy hi ⟨x2, qs, o, dl, rfl, hE, g1, hD, hfo, hfr, hnd, hdl, hcl⟩
    obtain ⟨c, hc, rfl⟩ := map_get hy
    refine ⟨hE.getL hr, _, bind_name (by simp), ?_⟩
    have hi2 := (List.getElem?_eq_some_iff.mp hc).1
    have hst : foldN (es.take (i + 1)) = stepN (foldN (es.take i)) c := by
      rw [List.take_succ, hc, Option.toList, foldN_snoc]
    have hlq : qs.length = dl.length := by
      have := hD.len
      simpa [eis] using this
    have hlim : qs.length + 1 < lim := by unfold lim; omega
    have l2 := hE.len
    have lt1 := getL_lt g1
    obtain ⟨m, v⟩ := c
    have hD2 : LLD S2 (qs ++ [o]) (eis dl ++ [(foldN (es.take i)).2.map eiD]) := by simpa [eis] using hD
    obtain ⟨hD3, ho⟩ := hD2.unsnoc
    have lto := getL_lt ho
    have hon : o ∉ qs := by
      have := List.nodup_append.mp hnd
      intro z
      exact this.2.2 o z o (by simp) rfl
    have ho1 := hfr o (by simp)
    cases v with
    | none =>
      have g1' : getL (S2 ++ [Cell.lst []]) (S.length + 1) = some ((qs ++ [o]).map .ref) := getL_app_l g1
      simp [wpx, wpo, wps, en_seq, numD, isN, g1, g1', hlim]
      have f2 : Fr [S.length + 1] S2 ((S2 ++ [Cell.lst []]).set (S.length + 1) (Cell.lst ((qs.map D.ref) ++ [D.ref o] ++ [D.ref S2.length]))) := (Fr.of Ext.one).trans (Fr.set (by simp))
      have n2 : getL ((S2 ++ [Cell.lst []]).set (S.length + 1) (Cell.lst ((qs.map D.ref) ++ [D.ref o] ++ [D.ref S2.length]))) S2.length = some [] := by
        rw [getL_set_ne (by omega)]; simp [getL]
      have n1 : getL ((S2 ++ [Cell.lst []]).set (S.length + 1) (Cell.lst ((qs.map D.ref) ++ [D.ref o] ++ [D.ref S2.length]))) (S.length + 1) = some ((qs ++ [o] ++ [S2.length]).map .ref) := by
        rw [getL_set (by simp; omega)]; simp
      have e2 := hE.fr f2 (by simp)
      simp only [List.append_assoc, List.cons_append, List.nil_append] at f2 n2 n1 e2 ⊢
      refine ⟨_, qs ++ [o], S2.length, dl ++ [(foldN (es.take i)).2], rfl, e2, by simpa using n1, ?_, ?_, ?_, ?_, by simp; omega, ?_⟩
      · have h2 : (foldN (es.take (i + 1))).2 = [] := by
          rw [hst]
          unfold stepN
          simp only
          split
          · rfl
          · rename_i hc
            cases h : (foldN (es.take i)).2 with
            | nil => rfl
            | cons _ _ => rw [h] at hc; simp at hc
        rw [h2]
        have := LLD.snoc n2 (hD2.fr f2 (fun p hp => by have := (hfr p hp).2; simpa using this))
        simpa [eis] using this
      · rw [hst]
        unfold stepN
        simp only [List.filter_append]
        split
        · rename_i hc
          simp [hfo, hc]
        · rename_i hc
          simp [hfo, hc]
      · intro p hp
        rcases List.mem_append.mp hp with z | z
        · exact hfr p z
        · rw [List.mem_singleton] at z; subst z; omega
      · rw [List.nodup_append]
        refine ⟨hnd, by simp, fun a ha b hb hab => ?_⟩
        rw [List.mem_singleton] at hb
        subst hb
        have := hD2.lt a ha
        omega
      · rw [hst]
        unfold stepN
        simp only
        split
        · simp
        · omega
    | some n =>
      have eN : isN (D.int n) = false := rfl
      have itl : ∀ S', itemR (some (qs.map D.ref ++ [.ref o])) (-1) S' = .ok (.ref o) S' := fun S' => itemR_last (by simp)
      have hlim2 : (foldN (es.take i)).2.length < lim := by unfold lim; omega
      simp [wpx, wpo, wps, en_seq, numD, eN, g1, itl, ho, hlim2]
      have f2 : Fr [o] S2 (S2.set o (Cell.lst ((foldN (es.take i)).2.map eiD ++ [enD (m, some n)]))) := Fr.set (by simp)
      have h2 : foldN (es.take (i + 1)) = ((foldN (es.take i)).1, (foldN (es.take i)).2 ++ [(m, n)]) := by rw [hst]; rfl
      have n2 : getL (S2.set o (Cell.lst ((foldN (es.take i)).2.map eiD ++ [enD (m, some n)]))) o = some (((foldN (es.take i)).2 ++ [(m, n)]).map eiD) := by
        rw [getL_set lto]; simp; rfl
      refine ⟨_, qs, o, dl, rfl, hE.fr f2 (by simp [ho1]), f2.getL g1 (by simp; omega), ?_, ?_, hfr, hnd, by omega, by rw [h2]; simp; omega⟩
      · rw [h2]
        have := LLD.snoc n2 (hD3.fr f2 (fun p hp => by
          simp only [List.mem_singleton]
          intro z; subst z; exact hon hp))
        simpa [eis] using this
      · rw [h2]; exact hfo
  · rintro e S2 ⟨x2, qs, o, dl, rfl, hE, g1, hD, hfo, hfr, hnd, hdl, hcl⟩
    refine ⟨hE.getL hr, ?_⟩
    rw [List.take_of_length_le (by simp)] at *
    simp [wpx, wpo, wps, wipeE]
    have hlq : (qs ++ [o]).length = (dl ++ [(foldN es).2]).length := by
      have := hD.len
      simpa [eis] using this
    have hql : (qs ++ [o]).length ≤ 200 := by
      rw [hlq]
      simp at hdl ⊢
      omega
    have hrn : runsN es = (dl ++ [(foldN es).2]).filter (fun r => decide (0 < r.length)) := by
      unfold runsN closeN
      rw [List.filter_append, ← hfo]
      split
      · rename_i hc; simp [hc]
      · rename_i hc; simp [hc]
    rw [hrn]
    generalize dl ++ [(foldN es).2] = rs at *
    generalize qs ++ [o] = ps at *
    have g1' : seqOf S2 (.ref (S.length + 1)) = some (ps.map .ref) := g1
    refine lcI_seq (xs := ps.map .ref) (fun i acc S3 => S3 = S2 ∧ ∃ us, acc = us.map D.ref ∧ LLD S2 us (eis ((rs.take i).filter (fun r => decide (0 < r.length)))) ∧ (∀ u ∈ us, u ∈ ps) ∧ us.length ≤ i) g1' ⟨rfl, [], rfl, trivial, fun u hu => (nomatch hu), by simp⟩ ?_ ?_
    · rintro i y acc S3 hy hi ⟨rfl, us, rfl, hu1, hu2, hu3⟩
      obtain ⟨c, hc, rfl⟩ := map_get hy
      refine ⟨g1', _, bind_name (by simp), ?_⟩
      obtain ⟨rd, hrd, hcd⟩ := hD.get hc
      unfold eis at hrd
      rw [List.getElem?_map, Option.map_eq_some_iff] at hrd
      obtain ⟨rr, hrr, rfl⟩ := hrd
      have tke : rs.take (i + 1) = rs.take i ++ [rr] := by rw [List.take_succ, hrr]; rfl
      have hil : i < 200 := by
        simp at hi
        omega
      have hlim : us.length < lim := by unfold lim; omega
      by_cases hp : 0 < rr.length
      · simp [wpx, wpo, wps, hcd, hp, hlim]
        refine ⟨us ++ [c], by simp, ?_, ?_, by simp; omega⟩
        · rw [tke, List.filter_append]
          have := LLD.snoc hcd hu1
          simpa [eis, hp] using this
        · intro u hu
          rcases List.mem_append.mp hu with z | z
          · exact hu2 u z
          · rw [List.mem_singleton] at z; subst z; exact List.mem_of_getElem? hc
      · simp [wpx, wpo, wps, hcd, hp]
        refine ⟨us, rfl, ?_, hu2, by omega⟩
        rw [tke, List.filter_append]
        simpa [hp] using hu1
    · rintro acc S3 ⟨rfl, us, rfl, hu1, hu2, hu3⟩
      refine ⟨g1', ?_⟩
      rw [List.take_of_length_le (by simp; omega)] at hu1
      refine ⟨hE.app, _, us, rfl, hE.len, by simp [getL], hu1.fr (Fr.of Ext.one : Fr [] _ _) (by simp), fun u hu => (hfr u (hu2 u hu)).1⟩
def raP (q : Rat) : PySem.PyData := .tuple [.int q.num, .int q.den]
end
theorem fold_allN : ∀ (es : List EnN) (s : List (List EnI) × List EnI), (es.foldl stepN s).1.flatten ++ (es.foldl stepN s).2 = s.1.flatten ++ s.2 ++ heldI es ∧ ((∀ r ∈ s.1, r ≠ []) → ∀ r ∈ (es.foldl stepN s).1, r ≠ []) := by
  intro es
  induction es with
  | nil => intro s; simp [heldI]
  | cons e es ih =>
    intro s
    obtain ⟨h1, h2⟩ := ih (stepN s e)
    rw [List.foldl_cons]
    obtain ⟨m, v⟩ := e
    cases v with
    | some n =>
      refine ⟨?_, fun hs => h2 (by simpa [stepN] using hs)⟩
      rw [h1]
      simp [stepN, heldI]
    | none =>
      by_cases hc : 0 < s.2.length
      · refine ⟨?_, fun hs => h2 ?_⟩
        · rw [h1]
          simp [stepN, heldI, hc]
        · simp only [stepN, hc, if_true]
          intro r hr
          simp at hr
          rcases hr with z | z
          · exact hs r z
          · subst z
            intro w
            rw [w] at hc
            simp at hc
      · have : s.2 = [] := by cases h : s.2 with
          | nil => rfl
          | cons _ _ => rw [h] at hc; simp at hc
        refine ⟨?_, fun hs => h2 (by simpa [stepN, hc] using hs)⟩
        rw [h1]
        simp [stepN, heldI, this]
theorem runsN_all (es : List EnN) : (runsN es).flatten = heldI es ∧ ∀ r ∈ runsN es, r ≠ [] := by
  obtain ⟨h1, h2⟩ := fold_allN es ([], [])
  have h2 := h2 (fun r hr => (nomatch hr))
  have h1 : (foldN es).1.flatten ++ (foldN es).2 = heldI es := by simpa [foldN] using h1
  unfold runsN closeN
  by_cases hc : 0 < (foldN es).2.length
  · rw [if_pos hc]
    refine ⟨by simpa using h1, fun r hr => ?_⟩
    simp at hr
    rcases hr with z | z
    · exact h2 r z
    · subst z
      intro w
      rw [w] at hc
      simp at hc
  · rw [if_neg hc]
    have : (foldN es).2 = [] := by cases h : (foldN es).2 with
      | nil => rfl
      | cons _ _ => rw [h] at hc; simp at hc
    rw [this] at h1
    exact ⟨by simpa using h1, h2⟩
theorem runsN_P {es : List EnN} (h : RowN 130 es) (hl : es.length ≤ 90) : ∀ r ∈ runsN es, HeI r ∧ 1 ≤ r.length := by
  intro r hr
  obtain ⟨h1, h2⟩ := runsN_all es
  have hs : r.Sublist (heldI es) := by rw [← h1]; exact List.sublist_flatten_of_mem hr
  have hb := heldI_b h
  refine ⟨⟨(heldI_up h).sublist hs, fun e he => ?_, by have := hs.length_le; have := heldI_len es; omega⟩, ?_⟩
  · have := hb e (hs.subset he)
    exact ⟨by omega, this.2⟩
  · have := h2 r hr
    cases r with
    | nil => exact absurd rfl this
    | cons _ _ => simp
/-- the handed row's entries -/
theorem hd_up {b : Int} {n : Nat} {es : List EnN} (h : RowN n es) : (es.map (hdN b)).Pairwise fun a c => a.1 < c.1 := by
  rw [List.pairwise_map]
  exact h.1
theorem gap_ent (g : GapS) : gapD g = entD g := (entD_eq g).symm
end Lt
set_option maxRecDepth 100000
set_option maxHeartbeats 2000000
namespace Lt
set_option exponentiation.threshold 9000
open PySem (Str)
open L2 (Key)
open LawT
end Lt
set_option maxRecDepth 100000
set_option maxHeartbeats 2000000
namespace Lt
open PySem (Str)
open LawT
def offQ (s l : Rat) (x : Smp) : Rat := x.2 - (s * (x.1 : Rat) + l)
theorem absQ_le {x y : Rat} : absQ x ≤ y ↔ x ≤ y ∧ -x ≤ y := by
  unfold absQ
  split
  · constructor
    · intro h; grind
    · intro h; exact h.2
  · constructor
    · intro h; grind
    · intro h; exact h.1
theorem absQ_nn (x : Rat) : 0 ≤ absQ x := by
  unfold absQ
  split <;> grind
theorem st_off {a b c : Smp} (h : a.1 < c.1) (s l : Rat) : stq a b c * ((c.1 : Rat) - (a.1 : Rat)) = offQ s l b * ((c.1 : Rat) - (a.1 : Rat)) - offQ s l a * ((c.1 : Rat) - (b.1 : Rat)) - offQ s l c * ((b.1 : Rat) - (a.1 : Rat)) := by
  have := stq_mul (b := b) h s
  unfold offQ; grind
theorem mul_lt3 {x y d : Rat} (hd : 0 < d) (h : x < y) : x * d < y * d := Rat.mul_lt_mul_of_pos_right h hd
theorem mul_le3 {x y d : Rat} (hd : 0 < d) (h : x ≤ y) : x * d ≤ y * d := by rw [mul_le_right hd]; exact h
def Rise3 (n : Nat) (p : Nat × Nat × Nat) : Prop := p.1 < p.2.1 ∧ p.2.1 < p.2.2 ∧ p.2.2 < n
def st3 (ts : List Smp) (p : Nat × Nat × Nat) : Rat := stq (sA ts p.1) (sA ts p.2.1) (sA ts p.2.2)
end Lt
set_option maxRecDepth 100000
set_option maxHeartbeats 2000000
namespace Lt
set_option exponentiation.threshold 9000
open PySem (Str)
open LawT
structure LnB (s l : Rat) : Prop where
  s : Sz 800 s
  l : Sz 2400 l
section
variable {P : Prog} {F k : Nat} {S : Store} {E : XP}
/-- what is told of a best line -/
structure BestP (ts : List Smp) (s l w : Rat) (o : Option (Nat × Nat × Nat)) : Prop where
  ln : LnB s l
  wz : Sz 3600 w
  le : ∀ i, i < ts.length → absQ (offQ s l (sA ts i)) ≤ w
  w0 : 0 ≤ w
  on : o = none ↔ w = 0
  os : ∀ p, o = some p → Rise3 ts.length p ∧ ∃ e, absQ e = w ∧ offQ s l (sA ts p.1) = -e ∧ offQ s l (sA ts p.2.1) = e ∧ offQ s l (sA ts p.2.2) = -e
  one : ts.length = 1 → s = 0 ∧ l = (sA ts 0).2
end
end Lt
set_option maxRecDepth 100000
set_option maxHeartbeats 2000000
namespace Lt
open PySem (Str)
theorem stand_le {a b c : Smp} (h1 : a.1 < b.1) (h2 : b.1 < c.1) {s l w : Rat} (ha : absQ (offQ s l a) ≤ w) (hb : absQ (offQ s l b) ≤ w) (hc : absQ (offQ s l c) ≤ w) : absQ (stq a b c) ≤ 2 * w := by
  have hac : a.1 < c.1 := by omega
  have e := st_off (b := b) hac s l
  have d1 := cast_pos h1
  have d2 := cast_pos h2
  have d3 := cast_pos hac
  obtain ⟨a1, a2⟩ := absQ_le.mp ha
  obtain ⟨b1, b2⟩ := absQ_le.mp hb
  obtain ⟨c1, c2⟩ := absQ_le.mp hc
  have k1 := mul_le3 (d2) a1
  have k2 := mul_le3 (d2) a2
  have k3 := mul_le3 (d3) b1
  have k4 := mul_le3 (d3) b2
  have k5 := mul_le3 (d1) c1
  have k6 := mul_le3 (d1) c2
  rw [absQ_le]
  constructor
  · rw [← mul_le_right d3]; grind
  · rw [← mul_le_right d3]; grind
theorem lines_eq {s l s' l' : Rat} {a b : Smp} (h : a.1 < b.1) (ha : offQ s l a = offQ s' l' a) (hb : offQ s l b = offQ s' l' b) : s = s' ∧ l = l' := by
  have d := cast_pos h
  unfold offQ at ha hb
  have e : (s - s') * ((b.1 : Rat) - (a.1 : Rat)) = 0 := by grind
  have hs : s = s' := by
    rcases Rat.mul_eq_zero.mp e with z | z
    · grind
    · grind
  subst hs
  exact ⟨rfl, by grind⟩
/-- a stand that the misses just reach forces them -/
theorem forced_up {a b c : Smp} (h1 : a.1 < b.1) (h2 : b.1 < c.1) {s l w : Rat} (ha : absQ (offQ s l a) ≤ w) (hb : absQ (offQ s l b) ≤ w) (hc : absQ (offQ s l c) ≤ w) (h : 2 * w ≤ stq a b c) : offQ s l a = -w ∧ offQ s l b = w ∧ offQ s l c = -w := by
  have hac : a.1 < c.1 := by omega
  have e := st_off (b := b) hac s l
  have d1 := cast_pos h1
  have d2 := cast_pos h2
  have d3 := cast_pos hac
  have h3 := mul_le3 (d3) h
  obtain ⟨a1, a2⟩ := absQ_le.mp ha
  obtain ⟨b1, b2⟩ := absQ_le.mp hb
  obtain ⟨c1, c2⟩ := absQ_le.mp hc
  have k2 := mul_le3 (d2) a2
  have k3 := mul_le3 (d3) b1
  have k6 := mul_le3 (d1) c2
  refine ⟨?_, ?_, ?_⟩
  · apply Classical.byContradiction; intro z
    have z : -offQ s l a < w := by grind
    have := mul_lt3 d2 z; grind
  · apply Classical.byContradiction; intro z
    have z : offQ s l b < w := by grind
    have := mul_lt3 d3 z; grind
  · apply Classical.byContradiction; intro z
    have z : -offQ s l c < w := by grind
    have := mul_lt3 d1 z; grind
theorem forced_dn {a b c : Smp} (h1 : a.1 < b.1) (h2 : b.1 < c.1) {s l w : Rat} (ha : absQ (offQ s l a) ≤ w) (hb : absQ (offQ s l b) ≤ w) (hc : absQ (offQ s l c) ≤ w) (h : 2 * w ≤ -stq a b c) : offQ s l a = w ∧ offQ s l b = -w ∧ offQ s l c = w := by
  have hac : a.1 < c.1 := by omega
  have e := st_off (b := b) hac s l
  have d1 := cast_pos h1
  have d2 := cast_pos h2
  have d3 := cast_pos hac
  have h3 := mul_le3 (d3) h
  obtain ⟨a1, a2⟩ := absQ_le.mp ha
  obtain ⟨b1, b2⟩ := absQ_le.mp hb
  obtain ⟨c1, c2⟩ := absQ_le.mp hc
  have k2 := mul_le3 (d2) a1
  have k3 := mul_le3 (d3) b2
  have k6 := mul_le3 (d1) c1
  refine ⟨?_, ?_, ?_⟩
  · apply Classical.byContradiction; intro z
    have z : offQ s l a < w := by grind
    have := mul_lt3 d2 z; grind
  · apply Classical.byContradiction; intro z
    have z : -offQ s l b < w := by grind
    have := mul_lt3 d3 z; grind
  · apply Classical.byContradiction; intro z
    have z : offQ s l c < w := by grind
    have := mul_lt3 d1 z; grind
theorem up_lt {ts : List Smp} (hup : ts.Pairwise fun a c => a.1 < c.1) {i j : Nat} (hij : i < j) (hj : j < ts.length) : (sA ts i).1 < (sA ts j).1 := by
  have := List.pairwise_iff_getElem.mp hup i j (by omega) hj hij
  unfold sA
  simpa [List.getD, show i < ts.length by omega, hj] using this
/-- the forcing three has just that stand -/
theorem BestP.st_eq {ts : List Smp} {s l w : Rat} {o : Option (Nat × Nat × Nat)} (h : BestP ts s l w o) (hup : ts.Pairwise fun a c => a.1 < c.1) {p : Nat × Nat × Nat} (hp : o = some p) : Rise3 ts.length p ∧ absQ (st3 ts p) = 2 * w := by
  obtain ⟨hr, e, he, e1, e2, e3⟩ := h.os p hp
  obtain ⟨h1, h2, h3⟩ := hr
  have l1 := up_lt hup h1 (by omega)
  have l2 := up_lt hup h2 h3
  have lac : (sA ts p.1).1 < (sA ts p.2.2).1 := by omega
  have d3 := cast_pos lac
  have k := st_off (b := sA ts p.2.1) lac s l
  refine ⟨⟨h1, h2, h3⟩, ?_⟩
  have : st3 ts p = 2 * e := by
    unfold st3
    rw [e1, e2, e3] at k
    have z : (stq (sA ts p.1) (sA ts p.2.1) (sA ts p.2.2) - 2 * e) * (((sA ts p.2.2).1 : Rat) - ((sA ts p.1).1 : Rat)) = 0 := by grind
    rcases Rat.mul_eq_zero.mp z with z | z <;> grind
  rw [this, ← he]
  unfold absQ
  split <;> split <;> grind
/-- any line misses some by as much; by more where it is another -/
theorem BestP.least {ts : List Smp} {s l w : Rat} {o : Option (Nat × Nat × Nat)} (h : BestP ts s l w o) (hup : ts.Pairwise fun a c => a.1 < c.1) {s' l' w' : Rat} (h0 : 0 ≤ w') (h' : ∀ x ∈ ts, absQ (offQ s' l' x) ≤ w') : w ≤ w' ∧ (w' ≤ w → 2 ≤ ts.length → s' = s ∧ l' = l) := by
  have hA : ∀ i, i < ts.length → absQ (offQ s' l' (sA ts i)) ≤ w' := fun i hi => h' _ (getD_mem hi)
  by_cases hw : w = 0
  · refine ⟨by grind, fun hle h2 => ?_⟩
    have z : ∀ i, i < ts.length → offQ s' l' (sA ts i) = offQ s l (sA ts i) := fun i hi => by
      have k1 := absQ_le.mp (hA i hi)
      have k2 := absQ_le.mp (h.le i hi)
      grind
    exact lines_eq (up_lt hup (i := 0) (j := 1) (by omega) (by omega)) (z 0 (by omega)) (z 1 (by omega))
  · cases o with
    | none => exact absurd (h.on.mp rfl) hw
    | some p =>
      obtain ⟨⟨h1, h2, h3⟩, he⟩ := h.st_eq hup rfl
      have l1 := up_lt hup h1 (by omega)
      have l2 := up_lt hup h2 h3
      have k := stand_le l1 l2 (hA _ (by omega)) (hA _ (by omega)) (hA _ h3)
      have k' : absQ (st3 ts p) ≤ 2 * w' := k
      refine ⟨by grind, fun hle hn => ?_⟩
      have hww : w' = w := by grind
      subst hww
      have e1 : absQ (stq (sA ts p.1) (sA ts p.2.1) (sA ts p.2.2)) = 2 * w' := he
      have hcase : 2 * w' ≤ stq (sA ts p.1) (sA ts p.2.1) (sA ts p.2.2) ∨ 2 * w' ≤ -stq (sA ts p.1) (sA ts p.2.1) (sA ts p.2.2) := by
        unfold absQ at e1
        split at e1
        · right; grind
        · left; grind
      rcases hcase with z | z
      · obtain ⟨a1, a2, a3⟩ := forced_up l1 l2 (hA _ (by omega)) (hA _ (by omega)) (hA _ h3) z
        obtain ⟨b1, b2, b3⟩ := forced_up l1 l2 (h.le _ (by omega)) (h.le _ (by omega)) (h.le _ h3) z
        exact lines_eq l1 (by rw [a1, b1]) (by rw [a2, b2])
      · obtain ⟨a1, a2, a3⟩ := forced_dn l1 l2 (hA _ (by omega)) (hA _ (by omega)) (hA _ h3) z
        obtain ⟨b1, b2, b3⟩ := forced_dn l1 l2 (h.le _ (by omega)) (h.le _ (by omega)) (h.le _ h3) z
        exact lines_eq l1 (by rw [a1, b1]) (by rw [a2, b2])
theorem BestP.all {ts : List Smp} {s l w : Rat} {o : Option (Nat × Nat × Nat)} (h : BestP ts s l w o) : ∀ x ∈ ts, absQ (offQ s l x) ≤ w := fun x hx => by
  obtain ⟨i, hi, rfl⟩ := List.getElem_of_mem hx
  have := h.le i hi
  unfold sA at this
  simpa [List.getD, hi] using this
theorem BestP.uniq {ts : List Smp} {s l w s' l' w' : Rat} {o o' : Option (Nat × Nat × Nat)} (h : BestP ts s l w o) (h' : BestP ts s' l' w' o') (hup : ts.Pairwise fun a c => a.1 < c.1) (h1 : 1 ≤ ts.length) : s = s' ∧ l = l' ∧ w = w' := by
  obtain ⟨k1, k2⟩ := h.least hup h'.w0 h'.all
  obtain ⟨k3, k4⟩ := h'.least hup h.w0 h.all
  have hw : w = w' := by grind
  by_cases h2 : 2 ≤ ts.length
  · obtain ⟨e1, e2⟩ := k2 k3 h2
    exact ⟨e1.symm, e2.symm, hw⟩
  · have hl : ts.length = 1 := by omega
    obtain ⟨a1, a2⟩ := h.one hl
    obtain ⟨b1, b2⟩ := h'.one hl
    exact ⟨by rw [a1, b1], by rw [a2, b2], hw⟩
end Lt
set_option maxRecDepth 100000
set_option maxHeartbeats 2000000
namespace Lt
set_option exponentiation.threshold 9000
open PySem (Str)
open LawT
def htQ (s l : Rat) (m : Int) : Rat := s * (m : Rat) + l
section
variable {P : Prog} {F k : Nat} {S : Store} {E : XP}
def mo3 (ts : List Smp) (p : Nat × Nat × Nat) : T3 := ((sA ts p.1).1, (sA ts p.2.1).1, (sA ts p.2.2).1)
end
abbrev P4 := Rat × Rat × Rat × Rat
def p4D (p : P4) : D := .tup [rD p.1, rD p.2.1, rD p.2.2.1, rD p.2.2.2]
def alP (s l : Rat) (m m' : Int) : P4 := ((m : Rat), htQ s l m, (m' : Rat), htQ s l m')
def PieceP (part : List Smp) (p : P4) : Prop := ∃ s l w o, BestP part s l w o ∧ p = alP s l (sA part 0).1 (sA part (part.length - 1)).1
def ThreeP (ts : List Smp) (t : T3) : Prop := ∃ s l w p, BestP ts s l w (some p) ∧ t = mo3 ts p
def TelP : List (List Smp) → List P4 → Prop
  | [], [] => True
  | p :: ps, d :: ds => PieceP p d ∧ TelP ps ds
  | _, _ => False
theorem TelP.snoc {p : List Smp} {d : P4} (h : PieceP p d) : ∀ {ps : List (List Smp)} {ds : List P4}, TelP ps ds → TelP (ps ++ [p]) (ds ++ [d])
  | [], [], _ => ⟨h, trivial⟩
  | _ :: _, _ :: _, k => ⟨k.1, TelP.snoc h k.2⟩
theorem TelP.len : ∀ {ps : List (List Smp)} {ds : List P4}, TelP ps ds → ps.length = ds.length
  | [], [], _ => rfl
  | _ :: _, _ :: _, k => by simp [TelP.len k.2]
/-- one three for each two neighbours -/
def PapP : List (List Smp) → List T3 → Prop
  | [], [] => True
  | [_], [] => True
  | p :: p' :: r, t :: ts => ThreeP (p ++ [sA p' 0]) t ∧ PapP (p' :: r) ts
  | _, _ => False
theorem PapP.snoc {p p' : List Smp} {t : T3} (h : ThreeP (p ++ [sA p' 0]) t) : ∀ {ps : List (List Smp)} {ts : List T3}, PapP (ps ++ [p]) ts → PapP (ps ++ [p] ++ [p']) (ts ++ [t])
  | [], [], _ => ⟨h, trivial⟩
  | [q], ts, k => by
    cases ts with
    | nil => exact k.elim
    | cons u us => exact ⟨k.1, PapP.snoc (ps := []) h k.2⟩
  | q :: q' :: r, ts, k => by
    cases ts with
    | nil => exact k.elim
    | cons u us => exact ⟨k.1, PapP.snoc (ps := q' :: r) h k.2⟩
theorem PapP.len : ∀ {ps : List (List Smp)} {ds : List T3}, PapP ps ds → ds.length = ps.length - 1
  | [], [], _ => rfl
  | [_], [], _ => rfl
  | p :: p' :: r, t :: ts, k => by
    have := PapP.len k.2
    simp at this ⊢
    exact this
/-- what is told of one run -/
def RunT (sp : Rat) (ts : List Smp) (tel : List P4) (pap : List T3) : Prop := ∃ ps, AllP sp ts ps ∧ TelP ps tel ∧ PapP ps pap
def RowT (sp : Rat) : List (List Smp) → List P4 → List T3 → Prop
  | [], d, t => d = [] ∧ t = []
  | ts :: r, d, t => ∃ d1 d2 t1 t2, d = d1 ++ d2 ∧ t = t1 ++ t2 ∧ RunT sp ts d1 t1 ∧ RowT sp r d2 t2
theorem RowT.snoc {sp : Rat} {ts : List Smp} {d1 : List P4} {t1 : List T3} (h : RunT sp ts d1 t1) : ∀ {rs : List (List Smp)} {d : List P4} {t : List T3}, RowT sp rs d t → RowT sp (rs ++ [ts]) (d ++ d1) (t ++ t1)
  | [], d, t, k => by
    obtain ⟨rfl, rfl⟩ := k
    exact ⟨d1, [], t1, [], by simp, by simp, h, rfl, rfl⟩
  | x :: r, d, t, k => by
    obtain ⟨a, b, c, e, rfl, rfl, h1, h2⟩ := k
    exact ⟨a, b ++ d1, c, e ++ t1, by simp, by simp, h1, RowT.snoc h h2⟩
structure PtsP (sp : Rat) (ps : List (List Smp)) : Prop where
  z : ∀ s ∈ ps.flatten, SmB s
  l : ps.flatten.length ≤ 89
  ne : ∀ p ∈ ps, 1 ≤ p.length
  up : ps.flatten.Pairwise fun a c => a.1 < c.1
  sh : Shuts sp ps
section
variable {P : Prog} {F k : Nat} {S : Store} {E : XP}
theorem allp_pts {sp : Rat} {ts : List Smp} {ps : List (List Smp)} (h : AllP sp ts ps) (hz : ∀ s ∈ ts, SmB s) (hl : ts.length ≤ 89) (hup : ts.Pairwise fun a c => a.1 < c.1) : PtsP sp ps ∧ ps.length ≤ ts.length ∧ ps.flatten = ts := by
  rcases h with ⟨rfl, rfl⟩ | ⟨qs, cur, rfl, hp⟩
  · exact ⟨⟨fun s hs => (nomatch hs), by simp, fun p hp => (nomatch hp), List.Pairwise.nil, trivial⟩, by simp, rfl⟩
  · have hf : (qs ++ [cur]).flatten = ts := by
      rw [← hp.flat]; simp
    have hn := hp.ne
    refine ⟨⟨by rw [hf]; exact hz, by rw [hf]; exact hl, fun p h => ?_, by rw [hf]; exact hup, hp.shuts⟩, ?_, hf⟩
    · have : p ≠ [] := by
        rcases List.mem_append.mp h with z | z
        · exact hn.2 p z
        · rw [List.mem_singleton] at z; subst z; exact hn.1
      exact List.length_pos_iff.mpr this
    · have := parts_len hp
      simp; omega
end
end Lt
set_option maxRecDepth 100000
set_option maxHeartbeats 2000000
namespace Lt
open PySem (Str)
section
open Classical
noncomputable def stepQ (sp : Rat) (s : List (List Smp) × List Smp) (x : Smp) : List (List Smp) × List Smp := if Borne sp (s.2 ++ [x]) then (s.1, s.2 ++ [x]) else (s.1 ++ [s.2], [x])
noncomputable def foldQ (sp : Rat) (ts : List Smp) : List (List Smp) × List Smp := ts.foldl (stepQ sp) ([], [])
noncomputable def partsF (sp : Rat) (ts : List Smp) : List (List Smp) := if (foldQ sp ts).2 = [] then [] else (foldQ sp ts).1 ++ [(foldQ sp ts).2]
theorem foldQ_snoc (sp : Rat) (ts : List Smp) (x : Smp) : foldQ sp (ts ++ [x]) = stepQ sp (foldQ sp ts) x := by
  unfold foldQ; rw [List.foldl_append]; rfl
theorem parts_fold {sp : Rat} {ts : List Smp} {ps : List (List Smp)} {cur : List Smp} (h : Parts sp ts ps cur) : foldQ sp ts = (ps, cur) := by
  induction h with
  | start =>
    unfold foldQ stepQ
    simp [borne_one]
  | more h hb ih =>
    rw [foldQ_snoc, ih]
    unfold stepQ
    rw [if_pos hb]
  | next h hb ih =>
    rw [foldQ_snoc, ih]
    unfold stepQ
    rw [if_neg hb]
theorem allp_eq {sp : Rat} {ts : List Smp} {ps : List (List Smp)} (h : AllP sp ts ps) : ps = partsF sp ts := by
  rcases h with ⟨rfl, rfl⟩ | ⟨qs, cur, rfl, hp⟩
  · rfl
  · unfold partsF
    rw [parts_fold hp, if_neg hp.ne.1]
theorem fold_parts {sp : Rat} (ts : List Smp) (x : Smp) : Parts sp (ts ++ [x]) (foldQ sp (ts ++ [x])).1 (foldQ sp (ts ++ [x])).2 := by
  have key : ∀ n, ∀ ts : List Smp, ts.length = n → ∀ x, Parts sp (ts ++ [x]) (foldQ sp (ts ++ [x])).1 (foldQ sp (ts ++ [x])).2 := by
    intro n
    induction n with
    | zero =>
      intro ts h x
      have : ts = [] := List.length_eq_zero_iff.mp h
      subst this
      have : foldQ sp ([] ++ [x]) = ([], [x]) := by
        unfold foldQ stepQ
        simp [borne_one]
      rw [this]
      exact .start
    | succ n ih =>
      intro ts h x
      have hne : ts ≠ [] := fun z => by rw [z] at h; simp at h
      have e := List.dropLast_concat_getLast hne
      have hp := ih ts.dropLast (by simp; omega) (ts.getLast hne)
      rw [e] at hp
      rw [foldQ_snoc]
      generalize foldQ sp ts = s at *
      unfold stepQ
      by_cases hb : Borne sp (s.2 ++ [x])
      · rw [if_pos hb]; exact .more hp hb
      · rw [if_neg hb]; exact .next hp hb
  exact key _ ts rfl x
theorem allp_partsF {sp : Rat} (ts : List Smp) : AllP sp ts (partsF sp ts) := by
  by_cases h : ts = []
  · subst h; exact .inl ⟨rfl, rfl⟩
  · right
    have e := List.dropLast_concat_getLast h
    have hp := fold_parts (sp := sp) ts.dropLast (ts.getLast h)
    rw [e] at hp
    refine ⟨_, _, ?_, hp⟩
    unfold partsF
    rw [if_neg hp.ne.1]
end
/-- how many stretches -/
noncomputable def gP (sp : Rat) (ts : List Smp) : Nat := (partsF sp ts).length
end Lt
set_option maxRecDepth 100000
set_option maxHeartbeats 2000000
namespace Lt
set_option exponentiation.threshold 9000
open PySem (Str)
open LawT
end Lt
set_option maxRecDepth 100000
set_option maxHeartbeats 2000000
namespace Lt
set_option exponentiation.threshold 9000
open PySem (Str)
open LawT
section
variable {P : Prog} {F k n m : Nat} {S : Store} {p q : Rat}
theorem rD_P (S : Store) (n : Nat) (q : Rat) : toP S (n + 2) (rD q) = some (raP q) := by
  simp [rD, raP, toP, mapO]
theorem eqv_raP {p q : Rat} : PySem.PyData.eqv (raP p) (raP q) = decide (p = q) := by
  have h := eqD_rD (S := []) (p := p) (q := q)
  unfold eqD at h
  rw [rD_P [] 10 p, rD_P [] 10 q] at h
  exact Option.some.inj h
theorem rD_seq {q : Rat} : seqOf S (rD q) = some [.int q.num, .int q.den] := rfl
end
/-- the greatest miss -/
structure WorP (ts : List Smp) (s l w : Rat) : Prop where
  le : ∀ x ∈ ts, absQ (offQ s l x) ≤ w
  at_ : w = 0 ∨ ∃ x ∈ ts, w = absQ (offQ s l x)
  nn : 0 ≤ w
theorem WorP.snoc {ts : List Smp} {s l w : Rat} {x : Smp} (h : WorP ts s l w) : WorP (ts ++ [x]) s l (if w < absQ (offQ s l x) then absQ (offQ s l x) else w) := by
  by_cases k : w < absQ (offQ s l x)
  · rw [if_pos k]
    refine ⟨fun y hy => ?_, .inr ⟨x, by simp, rfl⟩, absQ_nn _⟩
    rcases List.mem_append.mp hy with z | z
    · have := h.le y z; grind
    · rw [List.mem_singleton] at z; subst z; exact Rat.le_refl
  · rw [if_neg k]
    refine ⟨fun y hy => ?_, ?_, h.nn⟩
    · rcases List.mem_append.mp hy with z | z
      · exact h.le y z
      · rw [List.mem_singleton] at z; subst z; exact Rat.not_lt.mp k
    · rcases h.at_ with z | ⟨y, hy, z⟩
      · exact .inl z
      · exact .inr ⟨y, by simp [hy], z⟩
end Lt
set_option maxRecDepth 100000
set_option maxHeartbeats 2000000
namespace Lt
set_option exponentiation.threshold 9000
open PySem (Str)
open LawT
def SzP (n : Nat) (p : P4) : Prop := Sz n p.1 ∧ Sz n p.2.1 ∧ Sz n p.2.2.1 ∧ Sz n p.2.2.2
def spanI (p : P4) : Int := p.2.2.1.num * p.1.den - p.1.num * p.2.2.1.den
def hgI (p : P4) (m : Int) : Int × Int := (p.2.1.num * p.2.2.2.den * spanI p + (p.2.2.2.num * p.2.1.den - p.2.1.num * p.2.2.2.den) * ((m * p.1.den - p.1.num) * p.2.2.1.den), p.2.1.den * p.2.2.2.den * spanI p)
def hgQ (p : P4) (m : Rat) : Rat := p.2.1 + (p.2.2.2 - p.2.1) * (m - p.1) / (p.2.2.1 - p.1)
theorem den_posQ (q : Rat) : (0 : Rat) < ((q.den : Int) : Rat) := cast_posI (den_pos q)
theorem num_eq (q : Rat) : (q.num : Rat) = q * ((q.den : Int) : Rat) := by
  have := Rat.num_divInt_den q
  rw [divInt_eq_div] at this
  have hd := den_posQ q
  grind
theorem span_eq (p : P4) : (spanI p : Rat) = (p.2.2.1 - p.1) * (((p.1.den : Int) : Rat) * ((p.2.2.1.den : Int) : Rat)) := by
  unfold spanI
  rw [Rat.intCast_sub, Rat.intCast_mul, Rat.intCast_mul, num_eq, num_eq]
  grind
theorem span_pos {p : P4} (h : p.1 < p.2.2.1) : 0 < spanI p := by
  have e := span_eq p
  have h1 : (0 : Rat) < p.2.2.1 - p.1 := by grind
  have h2 := Rat.mul_pos h1 (Rat.mul_pos (den_posQ p.1) (den_posQ p.2.2.1))
  rw [← e] at h2
  exact Rat.intCast_lt_intCast.mp h2
theorem hg_pos {p : P4} {m : Int} (h : p.1 < p.2.2.1) : 0 < (hgI p m).2 :=
  Int.mul_pos (Int.mul_pos (den_pos _) (den_pos _)) (span_pos h)
theorem hg_val {p : P4} {m : Int} (h : p.1 < p.2.2.1) : frV (hgI p m) = hgQ p (m : Rat) := by
  unfold frV hgI hgQ
  simp only [Rat.intCast_add, Rat.intCast_sub, Rat.intCast_mul, num_eq, span_eq]
  have d1 := den_posQ p.1
  have d2 := den_posQ p.2.1
  have d3 := den_posQ p.2.2.1
  have d4 := den_posQ p.2.2.2
  generalize ((p.1.den : Int) : Rat) = a at *
  generalize ((p.2.1.den : Int) : Rat) = c at *
  generalize ((p.2.2.1.den : Int) : Rat) = b at *
  generalize ((p.2.2.2.den : Int) : Rat) = d at *
  generalize (m : Rat) = mm at *
  obtain ⟨s, f, e, l⟩ := p
  simp only at *
  have h1 : (0 : Rat) < e - s := by grind
  have hy : (0 : Rat) < c * d * ((e - s) * (a * b)) := Rat.mul_pos (Rat.mul_pos d2 d4) (Rat.mul_pos h1 (Rat.mul_pos d1 d3))
  have e1 : f * c * d * ((e - s) * (a * b)) + (l * d * c - f * c * d) * ((mm * a - s * a) * b) = (f + (l - f) * (mm - s) / (e - s)) * (c * d * ((e - s) * (a * b))) := by
    have : (l - f) * (mm - s) = ((l - f) * (mm - s) / (e - s)) * (e - s) := by grind
    generalize (l - f) * (mm - s) / (e - s) = x at *
    grind
  rw [e1]
  generalize c * d * ((e - s) * (a * b)) = y at *
  grind
theorem dn_lt {n : Nat} {q : Rat} (h : Sz n q) : ((q.den : Nat) : Int).natAbs < 2 ^ n := h.dn
theorem p4_seq {S : Store} {p : P4} : seqOf S (p4D p) = some [rD p.1, rD p.2.1, rD p.2.2.1, rD p.2.2.2] := rfl
section
variable {P : Prog} {F k n : Nat} {S : Store} {E : XP} {p : P4} {m : Int}
theorem height4_e (h : Has P "_law_height" 2 10 b__law_height) (hp : SzP n p) (hm : m.natAbs < 2 ^ 100) (hn : n ≤ 8000) :
    callN P F (k + 1) "_law_height" [p4D p, .int m] S = .ok (.tup [.int (hgI p m).1, .int (hgI p m).2]) S := by
  obtain ⟨h1, h2, h3, h4⟩ := hp
  have y1 : IZ p.1.num n := ⟨h1.1⟩
  have y2 : IZ p.2.1.num n := ⟨h2.1⟩
  have y3 : IZ p.2.2.1.num n := ⟨h3.1⟩
  have y4 : IZ p.2.2.2.num n := ⟨h4.1⟩
  have z1 : IZ (p.1.den : Int) n := ⟨dn_lt h1⟩
  have z2 : IZ (p.2.1.den : Int) n := ⟨dn_lt h2⟩
  have z3 : IZ (p.2.2.1.den : Int) n := ⟨dn_lt h3⟩
  have z4 : IZ (p.2.2.2.den : Int) n := ⟨dn_lt h4⟩
  have zm : IZ m 100 := ⟨hm⟩
  have q1 : IZ (spanI p) (n + n + (n + n) + 1) := ⟨(inferInstance : IZ (p.2.2.1.num * p.1.den - p.1.num * p.2.2.1.den) _).z⟩
  have m1 : Sm p.2.2.1.num (p.1.den : Int) := sm_iz (by omega)
  have m2 : Sm p.1.num (p.2.2.1.den : Int) := sm_iz (by omega)
  have m3 : Sm m (p.1.den : Int) := sm_iz (by omega)
  have m4 : Sm (m * p.1.den - p.1.num) (p.2.2.1.den : Int) := sm_iz (by omega)
  have m5 : Sm p.2.2.2.num (p.2.1.den : Int) := sm_iz (by omega)
  have m6 : Sm p.2.1.num (p.2.2.2.den : Int) := sm_iz (by omega)
  have m7 : Sm (p.2.1.num * p.2.2.2.den) (spanI p) := sm_iz (by omega)
  have m8 : Sm (p.2.2.2.num * p.2.1.den - p.2.1.num * p.2.2.2.den) ((m * p.1.den - p.1.num) * p.2.2.1.den) := sm_iz (by omega)
  have m9 : Sm (p.2.1.den : Int) (p.2.2.2.den : Int) := sm_iz (by omega)
  have m10 : Sm ((p.2.1.den : Int) * p.2.2.2.den) (spanI p) := sm_iz (by omega)
  unfold spanI at m7 m10
  apply has_eq h rfl
  simp only [b__law_height]
  simp [wpx, wpo, wps, p4_seq, rD_seq, m1, m2, m3, m4, m5, m6, m7, m8, m9, m10, hgI, spanI]
theorem hg_b (hp : SzP n p) (hm : m.natAbs < 2 ^ 100) : (hgI p m).1.natAbs < 2 ^ (13 * n + 110) ∧ (hgI p m).2.natAbs < 2 ^ (13 * n + 110) := by
  obtain ⟨h1, h2, h3, h4⟩ := hp
  have y1 : IZ p.1.num n := ⟨h1.1⟩
  have y2 : IZ p.2.1.num n := ⟨h2.1⟩
  have y3 : IZ p.2.2.1.num n := ⟨h3.1⟩
  have y4 : IZ p.2.2.2.num n := ⟨h4.1⟩
  have z1 : IZ (p.1.den : Int) n := ⟨dn_lt h1⟩
  have z2 : IZ (p.2.1.den : Int) n := ⟨dn_lt h2⟩
  have z3 : IZ (p.2.2.1.den : Int) n := ⟨dn_lt h3⟩
  have z4 : IZ (p.2.2.2.den : Int) n := ⟨dn_lt h4⟩
  have zm : IZ m 100 := ⟨hm⟩
  have q1 : IZ (spanI p) (n + n + (n + n) + 1) := ⟨(inferInstance : IZ (p.2.2.1.num * p.1.den - p.1.num * p.2.2.1.den) _).z⟩
  constructor
  · have := (inferInstance : IZ (p.2.1.num * p.2.2.2.den * spanI p + (p.2.2.2.num * p.2.1.den - p.2.1.num * p.2.2.2.den) * ((m * p.1.den - p.1.num) * p.2.2.1.den)) _).z
    exact Nat.lt_of_lt_of_le this (nat_pow_mono (by omega))
  · have := (inferInstance : IZ ((p.2.1.den : Int) * p.2.2.2.den * spanI p) _).z
    exact Nat.lt_of_lt_of_le this (nat_pow_mono (by omega))
end
end Lt
set_option maxRecDepth 100000
set_option maxHeartbeats 2000000
namespace Lt
set_option exponentiation.threshold 9000
open PySem (Str)
open LawT
def eA (hs : List EnI) (i : Nat) : EnI := hs.getD i zI
theorem eA_mem {hs : List EnI} {i : Nat} (h : i < hs.length) : eA hs i ∈ hs := getD_mem h
structure GrM (f : Nat × Nat × Nat → Rat) (d : Nat × Nat × Nat → Prop) (q : Int × Int) : Prop where
  pos : 0 < q.2
  le : ∀ p, d p → f p ≤ frV q
  at_ : q = (0, 1) ∨ ∃ p, d p ∧ frV q = f p
  z1 : q.1.natAbs < 2 ^ 300
  z2 : q.2.natAbs < 2 ^ 300
theorem GrM.step {f : Nat × Nat × Nat → Rat} {d d' : Nat × Nat × Nat → Prop} {q q' : Int × Int} {p0 : Nat × Nat × Nat} (h : GrM f d q) (hq : 0 < q'.2) (hf : frV q' = f p0) (y1 : q'.1.natAbs < 2 ^ 300) (y2 : q'.2.natAbs < 2 ^ 300) (e : ∀ p, d' p ↔ d p ∨ p = p0) :
    GrM f d' (if frV q < frV q' then q' else q) := by
  by_cases k : frV q < frV q'
  · rw [if_pos k]
    refine ⟨hq, fun p hp => ?_, .inr ⟨p0, (e p0).mpr (.inr rfl), hf⟩, y1, y2⟩
    rcases (e p).mp hp with z | z
    · have := h.le p z; grind
    · subst z; rw [hf]; exact Rat.le_refl
  · rw [if_neg k]
    refine ⟨h.pos, fun p hp => ?_, ?_, h.z1, h.z2⟩
    · rcases (e p).mp hp with z | z
      · exact h.le p z
      · subst z; rw [← hf]; exact Rat.not_lt.mp k
    · rcases h.at_ with z | ⟨p, hp, z⟩
      · exact .inl z
      · exact .inr ⟨p, (e p).mpr (.inl hp), z⟩
theorem eA_item {S : Store} {hs : List EnI} {i : Nat} (h : i < hs.length) : itemR (some (hs.map eiD)) (i : Int) S = .ok (eiD (eA hs i)) S := ei_item (get_getD zI h)
theorem sA_eA {hs : List EnI} {b : Int} {i : Nat} : sA (hs.map (smo b)) i = smo b (eA hs i) := by
  unfold sA eA; exact getD_smo
theorem eA_lt {hs : List EnI} (h : hs.Pairwise fun a c => a.1 < c.1) {i j : Nat} (hij : i < j) (hj : j < hs.length) : (eA hs i).1 < (eA hs j).1 := by
  have := List.pairwise_iff_getElem.mp h i j (by omega) hj hij
  unfold eA
  simpa [List.getD, show i < hs.length by omega, hj] using this
theorem TelP.app : ∀ {ps : List (List Smp)} {ds : List P4} {ps' : List (List Smp)} {ds' : List P4}, TelP ps ds → TelP ps' ds' → TelP (ps ++ ps') (ds ++ ds')
  | [], [], _, _, _, h => h
  | _ :: _, _ :: _, _, _, h, h' => ⟨h.1, TelP.app h.2 h'⟩
theorem TelP.at : ∀ {ps : List (List Smp)} {ds : List P4} {i : Nat} {p : List Smp}, TelP ps ds → ps[i]? = some p → ∃ d, ds[i]? = some d ∧ PieceP p d
  | [], [], i, p, _, h => by simp at h
  | a :: ps, d :: ds, 0, p, h, hp => by
    simp at hp; subst hp
    exact ⟨d, rfl, h.1⟩
  | a :: ps, d :: ds, i + 1, p, h, hp => by
    have hp : ps[i]? = some p := by simpa using hp
    obtain ⟨e, he, h'⟩ := TelP.at h.2 hp
    exact ⟨e, by simpa using he, h'⟩
theorem rowT_tel {sp : Rat} : ∀ {rss : List (List Smp)} {tel : List P4} {pap : List T3}, RowT sp rss tel pap → TelP (rss.flatMap (partsF sp)) tel
  | [], d, t, h => by
    obtain ⟨rfl, rfl⟩ := h
    trivial
  | ts :: r, d, t, h => by
    obtain ⟨d1, d2, t1, t2, rfl, rfl, ⟨ps, hA, hT, hP⟩, h2⟩ := h
    rw [List.flatMap_cons, ← allp_eq hA]
    exact TelP.app hT (rowT_tel h2)
theorem rowT_len {sp : Rat} {rss : List (List Smp)} {d : List P4} {t : List T3} (h : RowT sp rss d t) : d.length = (rss.map (gP sp)).sum := by
  have := (rowT_tel h).len
  rw [← this]
  clear this h
  induction rss with
  | nil => rfl
  | cons a r ih => rw [List.flatMap_cons, List.length_append, ih]; simp [gP]
end Lt
set_option maxRecDepth 100000
set_option maxHeartbeats 2000000
namespace Lt
abbrev Seq := Nat → Smp
theorem le_of_mul {x y d : Rat} (hd : 0 < d) (h : x * d ≤ y * d) : x ≤ y := Rat.not_lt.mp fun z => by
  have := mul_pos_lt hd z
  grind
/-- rising moments -/
def Inc (t : Seq) (n : Nat) : Prop := ∀ i j, i < j → j < n → (t i).1 < (t j).1
def mir (s : Smp) : Smp := (s.1, -s.2)
def mirT (t : Seq) : Seq := fun i => mir (t i)
/-- the slope from a high end to a low end -/
def slL (b : Rat) (t : Seq) (q p : Nat) : Rat := ((t p).2 - b - ((t q).2 + b)) / (((t p).1 : Rat) - ((t q).1 : Rat))
def slH (b : Rat) (t : Seq) (q p : Nat) : Rat := ((t p).2 + b - ((t q).2 - b)) / (((t p).1 : Rat) - ((t q).1 : Rat))
def evL (l : Rat × Rat) (x : Int) : Rat := l.1 * (x : Rat) + l.2
/-- the line through a high end and a low end behind it -/
def lnL (b : Rat) (t : Seq) (qp : Nat × Nat) : Rat × Rat := (slL b t qp.1 qp.2, (t qp.2).2 - b - slL b t qp.1 qp.2 * ((t qp.2).1 : Rat))
def lnH (b : Rat) (t : Seq) (qp : Nat × Nat) : Rat × Rat := (slH b t qp.1 qp.2, (t qp.2).2 + b - slH b t qp.1 qp.2 * ((t qp.2).1 : Rat))
def upF (b : Rat) (t : Seq) (o : Option (Nat × Nat)) (qp : Nat × Nat) : Option (Nat × Nat) := match o with
  | none => some qp
  | some x => if slL b t x.1 x.2 ≤ slL b t qp.1 qp.2 then some qp else some x
def inL (b : Rat) (t : Seq) (r p : Nat) (o : Option (Nat × Nat)) : Nat → Option (Nat × Nat)
  | 0 => o
  | n + 1 => if r ≤ n then upF b t (inL b t r p o n) (n, p) else inL b t r p o n
/-- the pair that holds a link from below -/
def loF (b : Rat) (t : Seq) (f r : Nat) : Nat → Option (Nat × Nat)
  | 0 => none
  | k + 1 => if f ≤ k then inL b t r k (loF b t f r k) k else loF b t f r k
def hiF (b : Rat) (t : Seq) (f r k : Nat) : Option (Nat × Nat) := loF b (mirT t) r f k
/-- does the link end at a sample: in a cap, in a cup -/
def capP (b : Rat) (t : Seq) (f r k : Nat) : Option (Nat × Nat) := match loF b t f r k with
  | none => none
  | some x => if (t k).2 + b < evL (lnL b t x) (t k).1 then some x else none
def cupP (b : Rat) (t : Seq) (f r k : Nat) : Option (Nat × Nat) := capP b (mirT t) r f k
/-- from which samples on the link is held, below and above -/
def stF (b : Rat) (t : Seq) : Nat → Nat × Nat
  | 0 => (0, 0)
  | k + 1 => match capP b t (stF b t k).1 (stF b t k).2 k with
    | some x => (x.2, k)
    | none => match cupP b t (stF b t k).1 (stF b t k).2 k with
      | some x => (k, x.2)
      | none => stF b t k
section
variable {b : Rat} {t : Seq} {f r k n : Nat}
theorem mir_mir (t : Seq) : mirT (mirT t) = t := by
  funext i; simp [mirT, mir]
theorem mirT_1 (i : Nat) : (mirT t i).1 = (t i).1 := rfl
theorem mirT_2 (i : Nat) : (mirT t i).2 = -(t i).2 := rfl
theorem Inc.mir (h : Inc t n) : Inc (mirT t) n := h
theorem Inc.pos (h : Inc t n) {i j : Nat} (hij : i < j) (hj : j < n) : (0 : Rat) < ((t j).1 : Rat) - ((t i).1 : Rat) := cast_pos (h i j hij hj)
theorem Inc.mono (h : Inc t n) {m : Nat} (hm : m ≤ n) : Inc t m := fun i j a c => h i j a (by omega)
theorem Inc.le_iff (h : Inc t n) {i j : Nat} (hi : i < n) (hj : j < n) : (t i).1 ≤ (t j).1 ↔ i ≤ j := by
  constructor
  · intro z
    by_cases c : j < i
    · have := h j i c hi; omega
    · omega
  · intro z
    by_cases c : i = j
    · subst c; omega
    · have := h i j (by omega) hj; omega
theorem sl_neg {a d : Rat} : (-a) / d = -(a / d) := by grind
theorem slL_mir {q p : Nat} : slL b (mirT t) q p = -slH b t q p := by
  unfold slL slH mirT mir
  simp only
  rw [← sl_neg]
  congr 1
  grind
theorem slH_mir {q p : Nat} : slH b (mirT t) q p = -slL b t q p := by
  have := slL_mir (b := b) (t := mirT t) (q := q) (p := p)
  rw [mir_mir] at this
  grind
theorem slL_m (h : Inc t n) {q p : Nat} (hq : q < p) (hp : p < n) : slL b t q p * (((t p).1 : Rat) - ((t q).1 : Rat)) = (t p).2 - b - ((t q).2 + b) := by
  have := h.pos hq hp
  unfold slL; grind
theorem slH_m (h : Inc t n) {q p : Nat} (hq : q < p) (hp : p < n) : slH b t q p * (((t p).1 : Rat) - ((t q).1 : Rat)) = (t p).2 + b - ((t q).2 - b) := by
  have := h.pos hq hp
  unfold slH; grind
/-- the greatest of the pairs -/
def LoS (b : Rat) (t : Seq) (f r k : Nat) (o : Option (Nat × Nat)) : Prop := match o with
  | none => ∀ q p, r ≤ q → q < p → f ≤ p → p < k → False
  | some x => r ≤ x.1 ∧ x.1 < x.2 ∧ f ≤ x.2 ∧ x.2 < k ∧ ∀ q p, r ≤ q → q < p → f ≤ p → p < k → slL b t q p ≤ slL b t x.1 x.2
def LoS2 (b : Rat) (t : Seq) (f r k m : Nat) (o : Option (Nat × Nat)) : Prop := match o with
  | none => ∀ q p, r ≤ q → q < p → f ≤ p → (p < k ∨ p = k ∧ q < m) → False
  | some x => r ≤ x.1 ∧ x.1 < x.2 ∧ f ≤ x.2 ∧ (x.2 < k ∨ x.2 = k ∧ x.1 < m) ∧ ∀ q p, r ≤ q → q < p → f ≤ p → (p < k ∨ p = k ∧ q < m) → slL b t q p ≤ slL b t x.1 x.2
theorem LoS2.step {m : Nat} {o : Option (Nat × Nat)} (h : LoS2 b t f r k m o) (hr : r ≤ m) (hf : f ≤ k) (hm : m < k) : LoS2 b t f r k (m + 1) (upF b t o (m, k)) := by
  cases o with
  | none =>
    refine ⟨hr, hm, hf, .inr ⟨rfl, Nat.lt_succ_self m⟩, fun q p h1 h2 h3 h4 => ?_⟩
    by_cases c : p < k ∨ p = k ∧ q < m
    · exact (h q p h1 h2 h3 c).elim
    · have e1 : p = k := by omega
      have e2 : q = m := by omega
      subst e1; subst e2; exact Rat.le_refl
  | some x =>
    obtain ⟨y1, y2, y3, y4, y5⟩ := h
    unfold upF
    simp only
    by_cases c : slL b t x.1 x.2 ≤ slL b t m k
    · rw [if_pos c]
      refine ⟨hr, hm, hf, .inr ⟨rfl, Nat.lt_succ_self m⟩, fun q p h1 h2 h3 h4 => ?_⟩
      by_cases c2 : p < k ∨ p = k ∧ q < m
      · exact Rat.le_trans (y5 q p h1 h2 h3 c2) c
      · have e1 : p = k := by omega
        have e2 : q = m := by omega
        subst e1; subst e2; exact Rat.le_refl
    · rw [if_neg c]
      refine ⟨y1, y2, y3, by omega, fun q p h1 h2 h3 h4 => ?_⟩
      by_cases c2 : p < k ∨ p = k ∧ q < m
      · exact y5 q p h1 h2 h3 c2
      · have e1 : p = k := by omega
        have e2 : q = m := by omega
        subst e1; subst e2; grind
theorem LoS2.skip {m : Nat} {o : Option (Nat × Nat)} (h : LoS2 b t f r k m o) (hr : ¬ r ≤ m) : LoS2 b t f r k (m + 1) o := by
  cases o with
  | none => exact fun q p h1 h2 h3 h4 => h q p h1 h2 h3 (by omega)
  | some x => exact ⟨h.1, h.2.1, h.2.2.1, by have := h.2.2.2.1; omega, fun q p h1 h2 h3 h4 => h.2.2.2.2 q p h1 h2 h3 (by omega)⟩
theorem inL_spec {o : Option (Nat × Nat)} (h : LoS b t f r k o) (hf : f ≤ k) : ∀ m, m ≤ k → LoS2 b t f r k m (inL b t r k o m)
  | 0, _ => by
    cases o with
    | none => exact fun q p h1 h2 h3 h4 => h q p h1 h2 h3 (by omega)
    | some x => exact ⟨h.1, h.2.1, h.2.2.1, .inl h.2.2.2.1, fun q p h1 h2 h3 h4 => h.2.2.2.2 q p h1 h2 h3 (by omega)⟩
  | m + 1, hm => by
    have ih := inL_spec h hf m (by omega)
    unfold inL
    by_cases c : r ≤ m
    · rw [if_pos c]; exact ih.step c hf (by omega)
    · rw [if_neg c]; exact ih.skip c
theorem loF_spec : ∀ k, LoS b t f r k (loF b t f r k)
  | 0 => fun q p _ _ _ h => absurd h (Nat.not_lt_zero _)
  | k + 1 => by
    have ih := loF_spec k
    unfold loF
    by_cases c : f ≤ k
    · rw [if_pos c]
      have h2 := inL_spec ih c k (Nat.le_refl _)
      cases hx : inL b t r k (loF b t f r k) k with
      | none => rw [hx] at h2; exact fun q p h1 h3 h4 h5 => h2 q p h1 h3 h4 (by omega)
      | some x =>
        rw [hx] at h2
        obtain ⟨y1, y2, y3, y4, y5⟩ := h2
        exact ⟨y1, y2, y3, by omega, fun q p h1 h3 h4 h5 => y5 q p h1 h3 h4 (by omega)⟩
    · rw [if_neg c]
      cases hx : loF b t f r k with
      | none => rw [hx] at ih; exact fun q p h1 h3 h4 h5 => ih q p h1 h3 h4 (by omega)
      | some x =>
        rw [hx] at ih
        obtain ⟨y1, y2, y3, y4, y5⟩ := ih
        exact ⟨y1, y2, y3, by omega, fun q p h1 h3 h4 h5 => y5 q p h1 h3 h4 (by omega)⟩
theorem loF_some {x : Nat × Nat} (h : loF b t f r k = some x) : r ≤ x.1 ∧ x.1 < x.2 ∧ f ≤ x.2 ∧ x.2 < k ∧ ∀ q p, r ≤ q → q < p → f ≤ p → p < k → slL b t q p ≤ slL b t x.1 x.2 := by
  have := loF_spec (b := b) (t := t) (f := f) (r := r) k
  rw [h] at this; exact this
theorem loF_none (h : loF b t f r k = none) : ∀ q p, r ≤ q → q < p → f ≤ p → p < k → False := by
  have := loF_spec (b := b) (t := t) (f := f) (r := r) k
  rw [h] at this; exact this
def Ov (b : Rat) (t : Seq) (l : Rat × Rat) (i : Nat) : Prop := (t i).2 - b ≤ evL l (t i).1
def Un (b : Rat) (t : Seq) (l : Rat × Rat) (i : Nat) : Prop := evL l (t i).1 ≤ (t i).2 + b
def Ln (b : Rat) (t : Seq) (f r k : Nat) (l : Rat × Rat) : Prop := (∀ i, f ≤ i → i < k → Ov b t l i) ∧ ∀ i, r ≤ i → i < k → Un b t l i
/-- some line goes through -/
def Fe (b : Rat) (t : Seq) (f r k : Nat) : Prop := ∀ q p q' p', r ≤ q → q < p → f ≤ p → p < k → f ≤ q' → q' < p' → r ≤ p' → p' < k → slL b t q p ≤ slH b t q' p'
def mirL (l : Rat × Rat) : Rat × Rat := (-l.1, -l.2)
theorem evL_mir {l : Rat × Rat} {x : Int} : evL (mirL l) x = -evL l x := by unfold evL mirL; grind
theorem lnL_mir {x : Nat × Nat} : lnL b (mirT t) x = mirL (lnH b t x) := by
  unfold lnL lnH mirL
  rw [slL_mir, mirT_2, mirT_1]
  congr 1
  grind
theorem Ln.mir {l : Rat × Rat} (h : Ln b t f r k l) : Ln b (mirT t) r f k (mirL l) := by
  refine ⟨fun i a c => ?_, fun i a c => ?_⟩
  · have := h.2 i a c
    unfold Ov Un at *
    rw [evL_mir, mirT_2, mirT_1]; grind
  · have := h.1 i a c
    unfold Ov Un at *
    rw [evL_mir, mirT_2, mirT_1]; grind
theorem Ln.of_mir {l : Rat × Rat} (h : Ln b (mirT t) r f k (mirL l)) : Ln b t f r k l := by
  have := h.mir
  rw [mir_mir] at this
  have e : mirL (mirL l) = l := by unfold mirL; simp
  rw [e] at this
  exact this
theorem Fe.mir (h : Fe b t f r k) : Fe b (mirT t) r f k := fun q p q' p' h1 h2 h3 h4 h5 h6 h7 h8 => by
  rw [slL_mir, slH_mir]
  have := h q' p' q p h5 h6 h7 h8 h1 h2 h3 h4
  grind
theorem Ln.mono {l : Rat × Rat} {m : Nat} (h : Ln b t f r k l) (hm : m ≤ k) : Ln b t f r m l := ⟨fun i a c => h.1 i a (by omega), fun i a c => h.2 i a (by omega)⟩
/-- the line of the low pair at its two ends -/
theorem lnL_p {x : Nat × Nat} : evL (lnL b t x) (t x.2).1 = (t x.2).2 - b := by
  unfold evL lnL; grind
theorem lnL_q (h : Inc t n) {x : Nat × Nat} (h1 : x.1 < x.2) (h2 : x.2 < n) : evL (lnL b t x) (t x.1).1 = (t x.1).2 + b := by
  have := slL_m (b := b) h h1 h2
  unfold evL lnL; grind
theorem low_line (h : Inc t n) (h0 : 0 ≤ b) (hF : Fe b t f r k) (hk : k ≤ n) {x : Nat × Nat} (hx : loF b t f r k = some x) : Ln b t f r k (lnL b t x) := by
  obtain ⟨y1, y2, y3, y4, y5⟩ := loF_some hx
  have eq := lnL_q (b := b) h y2 (by omega)
  have ep := lnL_p (b := b) (t := t) (x := x)
  have es : (lnL b t x).1 = slL b t x.1 x.2 := rfl
  refine ⟨fun i a c => ?_, fun i a c => ?_⟩
  · unfold Ov
    rcases Nat.lt_trichotomy x.1 i with z | z | z
    · have m := slL_m (b := b) h z (show i < n by omega)
      have d := h.pos z (show i < n by omega)
      have le := mul_nn_le (Rat.le_of_lt d) (y5 x.1 i y1 z a c)
      simp only [evL, es] at *
      clear hF y5 hx
      grind
    · rw [← z, eq]; grind
    · have m := slH_m (b := b) h z (show x.1 < n by omega)
      have d := h.pos z (show x.1 < n by omega)
      have le := mul_nn_le (Rat.le_of_lt d) (hF x.1 x.2 i x.1 y1 y2 y3 y4 a z y1 (by omega))
      simp only [evL, es] at *
      clear hF y5 hx
      grind
  · unfold Un
    rcases Nat.lt_trichotomy i x.2 with z | z | z
    · have m := slL_m (b := b) h z (show x.2 < n by omega)
      have d := h.pos z (show x.2 < n by omega)
      have le := mul_nn_le (Rat.le_of_lt d) (y5 i x.2 a z y3 y4)
      simp only [evL, es] at *
      clear hF y5 hx
      grind
    · rw [z, ep]; grind
    · have m := slH_m (b := b) h z (show i < n by omega)
      have d := h.pos z (show i < n by omega)
      have le := mul_nn_le (Rat.le_of_lt d) (hF x.1 x.2 x.2 i y1 y2 y3 y4 y3 z a c)
      simp only [evL, es] at *
      clear hF y5 hx
      grind
theorem high_line (h : Inc t n) (h0 : 0 ≤ b) (hF : Fe b t f r k) (hk : k ≤ n) {x : Nat × Nat} (hx : hiF b t f r k = some x) : Ln b t f r k (lnH b t x) := by
  have := low_line h.mir h0 hF.mir hk hx
  rw [lnL_mir] at this
  exact this.of_mir
/-- the next sample: what its pairs with the held ones are -/
theorem step_a (h : Inc t n) (h0 : 0 ≤ b) (hF : Fe b t f r k) (hk : k < n) (hl : capP b t f r k = none) : ∀ q p q', r ≤ q → q < p → f ≤ p → p < k → f ≤ q' → q' < k → slL b t q p ≤ slH b t q' k := by
  intro q p q' h1 h2 h3 h4 h5 h6
  cases hx : loF b t f r k with
  | none => exact (loF_none hx q p h1 h2 h3 h4).elim
  | some x =>
    have le := (loF_some hx).2.2.2.2 q p h1 h2 h3 h4
    have hL := low_line h h0 hF (by omega) hx
    have ov := hL.1 q' h5 h6
    unfold capP at hl
    rw [hx] at hl
    simp only at hl
    split at hl
    · cases hl
    · rename_i nc
      refine Rat.le_trans le ?_
      have d := h.pos h6 hk
      have m := slH_m (b := b) h h6 hk
      have es : (lnL b t x).1 = slL b t x.1 x.2 := rfl
      unfold Ov at ov
      simp only [evL, es] at ov nc
      clear hF
      have : slL b t x.1 x.2 * (((t k).1 : Rat) - ((t q').1 : Rat)) ≤ slH b t q' k * (((t k).1 : Rat) - ((t q').1 : Rat)) := by grind
      exact le_of_mul d this
theorem fe_step (h : Inc t n) (h0 : 0 ≤ b) (hF : Fe b t f r k) (hk : k < n) (h1 : capP b t f r k = none) (h2 : cupP b t f r k = none) : Fe b t f r (k + 1) := by
  have A := step_a h h0 hF hk h1
  have B := step_a h.mir h0 hF.mir hk h2
  intro q p q' p' a1 a2 a3 a4 a5 a6 a7 a8
  by_cases c1 : p < k
  · by_cases c2 : p' < k
    · exact hF q p q' p' a1 a2 a3 c1 a5 a6 a7 c2
    · have : p' = k := by omega
      subst this
      exact A q p q' a1 a2 a3 c1 a5 a6
  · have : p = k := by omega
    subst this
    by_cases c2 : p' < p
    · have := B q' p' q a5 a6 a7 c2 a1 a2
      rw [slL_mir, slH_mir] at this
      grind
    · have : p' = p := by omega
      subst this
      have m1 := slL_m (b := b) h a2 hk
      have m2 := slH_m (b := b) h a6 hk
      have d1 := h.pos a2 hk
      have d2 := h.pos a6 hk
      rcases Nat.lt_trichotomy q q' with z | z | z
      · have le := A q q' q' a1 z a5 a6 a5 a6
        have m3 := slL_m (b := b) h z (show q' < n by omega)
        have d3 := h.pos z (show q' < n by omega)
        have k1 := mul_nn_le (Rat.le_of_lt d3) le
        have : slL b t q p' * (((t p').1 : Rat) - ((t q).1 : Rat)) ≤ slH b t q' p' * (((t p').1 : Rat) - ((t q).1 : Rat)) := by grind
        exact le_of_mul d1 this
      · subst z
        have : slL b t q p' * (((t p').1 : Rat) - ((t q).1 : Rat)) ≤ slH b t q p' * (((t p').1 : Rat) - ((t q).1 : Rat)) := by grind
        exact le_of_mul d1 this
      · have le := B q' q q a5 z a1 a2 a1 a2
        rw [slL_mir, slH_mir] at le
        have m3 := slH_m (b := b) h z (show q < n by omega)
        have d3 := h.pos z (show q < n by omega)
        have le2 : slL b t q p' ≤ slH b t q' q := by grind
        have k1 := mul_nn_le (Rat.le_of_lt d3) le2
        have : slL b t q p' * (((t p').1 : Rat) - ((t q').1 : Rat)) ≤ slH b t q' p' * (((t p').1 : Rat) - ((t q').1 : Rat)) := by grind
        exact le_of_mul d2 this
theorem capP_some {x : Nat × Nat} (h : capP b t f r k = some x) : loF b t f r k = some x ∧ (t k).2 + b < evL (lnL b t x) (t k).1 := by
  unfold capP at h
  split at h
  · cases h
  · rename_i y e
    split at h
    · cases h; exact ⟨e, by assumption⟩
    · cases h
/-- what holds of each state -/
structure LkI (b : Rat) (t : Seq) (f r k : Nat) : Prop where
  fe : Fe b t f r k
  lt : 0 < k → f < k ∧ r < k
  z : k = 0 → f = 0 ∧ r = 0
theorem stF_cap {x : Nat × Nat} (h : capP b t (stF b t k).1 (stF b t k).2 k = some x) : stF b t (k + 1) = (x.2, k) := by
  conv => lhs; unfold stF
  rw [h]
theorem stF_cup {x : Nat × Nat} (h1 : capP b t (stF b t k).1 (stF b t k).2 k = none) (h2 : cupP b t (stF b t k).1 (stF b t k).2 k = some x) : stF b t (k + 1) = (k, x.2) := by
  conv => lhs; unfold stF
  rw [h1, h2]
theorem stF_thr (h1 : capP b t (stF b t k).1 (stF b t k).2 k = none) (h2 : cupP b t (stF b t k).1 (stF b t k).2 k = none) : stF b t (k + 1) = stF b t k := by
  conv => lhs; unfold stF
  rw [h1, h2]
theorem lkI (h : Inc t n) (h0 : 0 ≤ b) : ∀ k, k ≤ n → LkI b t (stF b t k).1 (stF b t k).2 k
  | 0, _ => ⟨fun q p q' p' _ _ _ h => absurd h (Nat.not_lt_zero _), fun h => absurd h (Nat.lt_irrefl _), fun _ => ⟨rfl, rfl⟩⟩
  | k + 1, hk => by
    have ih := lkI h h0 k (by omega)
    cases c1 : capP b t (stF b t k).1 (stF b t k).2 k with
    | some x =>
      rw [stF_cap c1]
      obtain ⟨e, _⟩ := capP_some c1
      obtain ⟨y1, y2, y3, y4, y5⟩ := loF_some e
      exact ⟨fun q p q' p' a1 a2 a3 a4 => absurd a4 (by simp only at a1; omega), fun _ => ⟨by simp only; omega, by simp only; omega⟩, fun z => absurd z (by omega)⟩
    | none =>
      cases c2 : cupP b t (stF b t k).1 (stF b t k).2 k with
      | some x =>
        rw [stF_cup c1 c2]
        obtain ⟨e, _⟩ := capP_some c2
        obtain ⟨y1, y2, y3, y4, y5⟩ := loF_some e
        exact ⟨fun q p q' p' a1 a2 a3 a4 a5 a6 a7 a8 => absurd a8 (by simp only at a5; omega), fun _ => ⟨by simp only; omega, by simp only; omega⟩, fun z => absurd z (by omega)⟩
      | none =>
        rw [stF_thr c1 c2]
        refine ⟨fe_step h h0 ih.fe (by omega) c1 c2, fun _ => ?_, fun z => absurd z (by omega)⟩
        by_cases hk0 : k = 0
        · have := ih.z hk0; omega
        · have := ih.lt (by omega); omega
end
end Lt
set_option maxRecDepth 100000
set_option maxHeartbeats 2000000
namespace Lt
open PySem (Str)
open LawT
def bdFs (a b c d e g : D) : List (Str × D) := [("bound", a), ("floor", b), ("roof", c), ("low", d), ("high", e), ("newest", g)]
def lowE (b : Rat) (t : Seq) (i : Nat) : D := smD (t i).1 ((t i).2 - b)
def higE (b : Rat) (t : Seq) (i : Nat) : D := smD (t i).1 ((t i).2 + b)
def loD (b : Rat) (t : Seq) : Option (Nat × Nat) → D
  | none => .non
  | some x => .tup [higE b t x.1, lowE b t x.2]
def hiD (b : Rat) (t : Seq) : Option (Nat × Nat) → D
  | none => .non
  | some x => .tup [lowE b t x.1, higE b t x.2]
def lnDD (l : Rat × Rat) : D := lnD l.1 l.2
def nwD (t : Seq) : Nat → D
  | 0 => .non
  | k + 1 => smpD (t k)
def rg (f k : Nat) : List Nat := List.range' f (k - f)
section
variable {P : Prog} {F k : Nat} {S : Store} {E : XP} {a b' c d e g v : D} {n : Nat}
section
variable {b : Rat} {t : Seq} {N : Nat}
/-- sizes of the samples -/
def SzT (t : Seq) (N : Nat) : Prop := ∀ i, i < N → (t i).1.natAbs < 2 ^ 64 ∧ Sz 340 (t i).2
end
end
end Lt
set_option maxRecDepth 100000
set_option maxHeartbeats 2000000
namespace Lt
open PySem (Str)
open LawT
theorem rg_snoc {f k : Nat} (h : f ≤ k) : rg f (k + 1) = rg f k ++ [k] := by
  unfold rg
  have : k + 1 - f = (k - f) + 1 := by omega
  rw [this, List.range'_concat]
  congr 2; omega
/-- what an object holds -/
structure BdS (S : Store) (n fq rq : Nat) (b : Rat) (t : Seq) (fl rf : List Nat) (lo hi : Option (Nat × Nat)) (nw : D) : Prop where
  fs : getI S n = some (("Bend" : Str), bdFs (rD b) (.ref fq) (.ref rq) (loD b t lo) (hiD b t hi) nw)
  fl : getL S fq = some (fl.map (lowE b t))
  rf : getL S rq = some (rf.map (higE b t))
  ne : fq ≠ rq
theorem BdS.fr {S S' : Store} {n fq rq : Nat} {b : Rat} {t : Seq} {fl rf : List Nat} {lo hi : Option (Nat × Nat)} {nw : D} {W : List Nat} (h : BdS S n fq rq b t fl rf lo hi nw) (f : Fr W S S') (h1 : n ∉ W) (h2 : fq ∉ W) (h3 : rq ∉ W) : BdS S' n fq rq b t fl rf lo hi nw :=
  ⟨f.getI h.fs h1, f.getL h.fl h2, f.getL h.rf h3, h.ne⟩
section
variable {P : Prog} {F k : Nat} {S : Store} {E : XP} {b : Rat} {t : Seq} {N n fq rq m f r : Nat} {lo hi : Option (Nat × Nat)} {nw : D}
/-- an object that took the samples ahead of a place -/
def BendO (S : Store) (n fq rq : Nat) (b : Rat) (t : Seq) (k : Nat) : Prop :=
  BdS S n fq rq b t (rg (stF b t k).1 k) (rg (stF b t k).2 k) (loF b t (stF b t k).1 (stF b t k).2 k) (hiF b t (stF b t k).1 (stF b t k).2 k) (nwD t k)
theorem BendO.fr {S S' : Store} {k : Nat} {W : List Nat} (h : BendO S n fq rq b t k) (f : Fr W S S') (h1 : n ∉ W) (h2 : fq ∉ W) (h3 : rq ∉ W) : BendO S' n fq rq b t k := BdS.fr h f h1 h2 h3
/-- the filters -/
def FlI (S : Store) (g : Nat → D) (f p : Nat) (i : Nat) (acc : List D) (S2 : Store) : Prop := S2 = S ∧ acc = ((rg f (f + i)).filter (fun j => decide (p ≤ j))).map g
theorem FlI.step {S S2 : Store} {g : Nat → D} {f p i : Nat} {acc : List D} (h : FlI S g f p i acc S2) : FlI S g f p (i + 1) (if p ≤ f + i then acc ++ [g (f + i)] else acc) S2 := by
  obtain ⟨rfl, rfl⟩ := h
  refine ⟨rfl, ?_⟩
  show _ = ((rg f ((f + i) + 1)).filter _).map g
  rw [rg_snoc (by omega), List.filter_append, List.map_append]
  by_cases c : p ≤ f + i
  · rw [if_pos c]; simp [c]
  · rw [if_neg c]; simp [c]
end
end Lt
set_option maxRecDepth 100000
set_option maxHeartbeats 2000000
namespace Lt
abbrev Line := Rat × Rat
/-- a link that ended: its line; the places of the three -/
abbrev Lnk := Line × Nat × Nat × Nat
def endO (b : Rat) (t : Seq) (k : Nat) : Option Lnk := match capP b t (stF b t k).1 (stF b t k).2 k with
  | some x => some (lnL b t x, x.1, x.2, k)
  | none => match cupP b t (stF b t k).1 (stF b t k).2 k with
    | some x => some (lnH b t x, x.1, x.2, k)
    | none => none
def endsF (b : Rat) (t : Seq) : Nat → List Lnk
  | 0 => []
  | k + 1 => endsF b t k ++ (endO b t k).toList
/-- where two lines meet -/
def mx (l l2 : Line) : Rat := (l2.2 - l.2) / (l.1 - l2.1)
def htl (l : Line) (w : Rat) : Rat := l.1 * w + l.2
theorem mx_mir {l l2 : Line} : mx (mirL l) (mirL l2) = mx l l2 := by
  unfold mx mirL
  grind
/-- a line and the next one -/
structure Nxt (b : Rat) (t : Seq) (l l2 : Line) (p c k : Nat) : Prop where
  ne : l.1 ≠ l2.1
  lo : ((t p).1 : Rat) ≤ mx l l2
  hi : mx l l2 < ((t c).1 : Rat)
  be : ∀ n, n < k → mx l l2 ≤ ((t n).1 : Rat) → Ov b t l2 n ∧ Un b t l2 n
section
variable {b : Rat} {t : Seq} {f r k n : Nat}
theorem Ov.mir {l : Line} {i : Nat} : Ov b (mirT t) (mirL l) i ↔ Un b t l i := by
  unfold Ov Un
  rw [evL_mir, mirT_2, mirT_1]
  constructor <;> intro h <;> grind
theorem Un.mir {l : Line} {i : Nat} : Un b (mirT t) (mirL l) i ↔ Ov b t l i := by
  unfold Ov Un
  rw [evL_mir, mirT_2, mirT_1]
  constructor <;> intro h <;> grind
theorem Nxt.mir {l l2 : Line} {p c : Nat} (h : Nxt b (mirT t) (mirL l) (mirL l2) p c k) : Nxt b t l l2 p c k := by
  obtain ⟨h1, h2, h3, h4⟩ := h
  rw [mx_mir] at h2 h3 h4
  refine ⟨fun z => h1 (by unfold mirL; simp [z]), h2, h3, fun n a c => ?_⟩
  have := h4 n a c
  rw [Ov.mir, Un.mir] at this
  exact ⟨this.2, this.1⟩
/-- what ended the link before: in a cap -/
structure CapB (b : Rat) (t : Seq) (l : Line) (p c : Nat) : Prop where
  pc : p < c
  tp : evL l (t p).1 = (t p).2 - b
  ov : (t c).2 + b < evL l (t c).1
  un : ∀ i, p ≤ i → i < c → Un b t l i
theorem cap_next (h : Inc t n) (hk : k ≤ n) {l l2 : Line} {p c : Nat} (hc : CapB b t l p c) (hck : c < k) (h2 : Ln b t p c k l2) : Nxt b t l l2 p c k ∧ l2.1 < l.1 := by
  obtain ⟨e1, e2, e3, e4⟩ := hc
  have d := h.pos e1 (show c < n by omega)
  have o := h2.1 p (Nat.le_refl _) (by omega)
  have u := h2.2 c (Nat.le_refl _) hck
  have hs : l2.1 < l.1 := by
    refine Rat.not_le.mp fun z => ?_
    have := mul_nn_le (Rat.le_of_lt d) z
    unfold Ov Un evL at *
    grind
  have hd : 0 < l.1 - l2.1 := by grind
  have m1 : ((t p).1 : Rat) ≤ mx l l2 := by
    unfold mx
    rw [le_div hd]
    unfold Ov evL at *
    grind
  have m2 : mx l l2 < ((t c).1 : Rat) := by
    unfold mx
    rw [div_lt hd]
    unfold Un evL at *
    grind
  refine ⟨⟨by grind, m1, m2, fun i hi hx => ?_⟩, hs⟩
  have hpi : p ≤ i := by
    refine (h.le_iff (by omega) (by omega)).mp ?_
    have := Rat.le_trans m1 hx
    exact Rat.intCast_le_intCast.mp this
  refine ⟨h2.1 i hpi hi, ?_⟩
  by_cases hci : c ≤ i
  · exact h2.2 i hci hi
  · have := e4 i hpi (by omega)
    have k1 : l2.2 - l.2 ≤ ((t i).1 : Rat) * (l.1 - l2.1) := by
      have := (div_le hd).mp hx
      exact this
    unfold Un evL at *
    grind
/-- in a cup -/
def CupB (b : Rat) (t : Seq) (l : Line) (p c : Nat) : Prop := CapB b (mirT t) (mirL l) p c
theorem cup_next (h : Inc t n) (hk : k ≤ n) {l l2 : Line} {p c : Nat} (hc : CupB b t l p c) (hck : c < k) (h2 : Ln b t c p k l2) : Nxt b t l l2 p c k ∧ l.1 < l2.1 := by
  obtain ⟨h1, h3⟩ := cap_next h.mir hk hc hck h2.mir
  refine ⟨h1.mir, ?_⟩
  unfold mirL at h3
  simp only at h3
  grind
/-- the link under way, and the one before it -/
def PvI (b : Rat) (t : Seq) (k : Nat) : Option Lnk → Prop
  | none => stF b t k = (0, 0)
  | some (l, q, p, c) => c < k ∧ ((stF b t k = (p, c) ∧ CapB b t l p c) ∨ (stF b t k = (c, p) ∧ CupB b t l p c))
theorem PvI.next (h : Inc t n) (hk : k ≤ n) {l : Line} {q p c : Nat} (hp : PvI b t k (some (l, q, p, c))) {l2 : Line} (h2 : Ln b t (stF b t k).1 (stF b t k).2 k l2) : Nxt b t l l2 p c k := by
  obtain ⟨h1, ⟨e, hc⟩ | ⟨e, hc⟩⟩ := hp
  · rw [e] at h2; exact (cap_next h hk hc h1 h2).1
  · rw [e] at h2; exact (cup_next h hk hc h1 h2).1
theorem capB_of (h : Inc t n) (h0 : 0 ≤ b) (hF : Fe b t f r k) (hk : k < n) {x : Nat × Nat} (hx : capP b t f r k = some x) : CapB b t (lnL b t x) x.2 k := by
  obtain ⟨e, o⟩ := capP_some hx
  obtain ⟨y1, y2, y3, y4, y5⟩ := loF_some e
  have hL := low_line h h0 hF (by omega) e
  exact ⟨y4, lnL_p, o, fun i a c => hL.2 i (by omega) c⟩
theorem cupB_of (h : Inc t n) (h0 : 0 ≤ b) (hF : Fe b t f r k) (hk : k < n) {x : Nat × Nat} (hx : cupP b t f r k = some x) : CupB b t (lnH b t x) x.2 k := by
  have := capB_of h.mir h0 hF.mir hk hx
  rw [lnL_mir] at this
  exact this
/-- a link that ends goes through to the sample just ahead -/
theorem endO_ln (h : Inc t n) (h0 : 0 ≤ b) (hk : k < n) {e : Lnk} (he : endO b t k = some e) : Ln b t (stF b t k).1 (stF b t k).2 k e.1 ∧ e.2.1 < e.2.2.1 ∧ e.2.2.1 < k ∧ e.2.2.2 = k ∧ (stF b t k).1 ≤ e.2.2.1 ∧ (stF b t k).2 ≤ e.2.2.1 ∧ PvI b t (k + 1) (some e) := by
  have I := lkI h h0 k (by omega)
  unfold endO at he
  cases c1 : capP b t (stF b t k).1 (stF b t k).2 k with
  | some x =>
    rw [c1] at he
    cases he
    obtain ⟨e, o⟩ := capP_some c1
    obtain ⟨y1, y2, y3, y4, y5⟩ := loF_some e
    refine ⟨low_line h h0 I.fe (by omega) e, y2, y4, rfl, y3, by simp only; omega, Nat.lt_succ_self k, .inl ⟨stF_cap c1, capB_of h h0 I.fe hk c1⟩⟩
  | none =>
    rw [c1] at he
    cases c2 : cupP b t (stF b t k).1 (stF b t k).2 k with
    | some x =>
      rw [c2] at he
      cases he
      obtain ⟨e, o⟩ := capP_some c2
      obtain ⟨y1, y2, y3, y4, y5⟩ := loF_some e
      refine ⟨high_line h h0 I.fe (by omega) e, y2, y4, rfl, by simp only; omega, y3, Nat.lt_succ_self k, .inr ⟨stF_cup c1 c2, cupB_of h h0 I.fe hk c2⟩⟩
    | none => rw [c2] at he; cases he
theorem endO_none (he : endO b t k = none) : stF b t (k + 1) = stF b t k := by
  unfold endO at he
  cases c1 : capP b t (stF b t k).1 (stF b t k).2 k with
  | some x => rw [c1] at he; cases he
  | none =>
    rw [c1] at he
    cases c2 : cupP b t (stF b t k).1 (stF b t k).2 k with
    | some x => rw [c2] at he; cases he
    | none => exact stF_thr c1 c2
/-- the links that ended -/
structure Chn (b : Rat) (t : Seq) (k : Nat) (es : List Lnk) : Prop where
  pv : PvI b t k es.getLast?
  pl : ∀ e ∈ es, e.2.1 < e.2.2.1 ∧ e.2.2.1 < e.2.2.2 ∧ e.2.2.2 < k
  first : ∀ e, es[0]? = some e → ∀ i, i < e.2.2.2 → Ov b t e.1 i ∧ Un b t e.1 i
  nx : ∀ i e e', es[i]? = some e → es[i + 1]? = some e' → Nxt b t e.1 e'.1 e.2.2.1 e.2.2.2 e'.2.2.2 ∧ e.2.2.2 ≤ e'.2.2.1
theorem chn (h : Inc t n) (h0 : 0 ≤ b) : ∀ k, k ≤ n → Chn b t k (endsF b t k)
  | 0, _ => ⟨rfl, fun e he => (nomatch he), fun e he => (nomatch he), fun i e e' he => (nomatch he)⟩
  | k + 1, hk => by
    have ih := chn h h0 k (by omega)
    unfold endsF
    cases he : endO b t k with
    | none =>
      have hs := endO_none he
      show Chn b t (k + 1) (endsF b t k ++ [])
      rw [List.append_nil]
      refine ⟨?_, fun e hm => ?_, ih.first, ih.nx⟩
      · have := ih.pv
        cases hl : (endsF b t k).getLast? with
        | none => rw [hl] at this; unfold PvI at this ⊢; rw [hs]; exact this
        | some e =>
          rw [hl] at this
          obtain ⟨l, q, p, c⟩ := e
          unfold PvI at this ⊢
          rw [hs]
          exact ⟨by omega, this.2⟩
      · have := ih.pl e hm; omega
    | some e =>
      obtain ⟨L, p1, p2, p3, p4, p5, pv⟩ := endO_ln h h0 (show k < n by omega) he
      show Chn b t (k + 1) (endsF b t k ++ [e])
      refine ⟨by rw [List.getLast?_append]; exact pv, fun e' hm => ?_, fun e' he' => ?_, fun i e1 e2 h1 h2 => ?_⟩
      · rcases List.mem_append.mp hm with z | z
        · have := ih.pl e' z; omega
        · rw [List.mem_singleton] at z; subst z; omega
      · by_cases hl : 0 < (endsF b t k).length
        · rw [List.getElem?_append_left hl] at he'
          exact ih.first e' he'
        · have hn : endsF b t k = [] := List.length_eq_zero_iff.mp (by omega)
          rw [hn] at he'
          cases he'
          have := ih.pv
          rw [hn] at this
          have this : stF b t k = (0, 0) := this
          rw [this] at L
          intro i hi
          rw [p3] at hi
          exact ⟨L.1 i (Nat.zero_le _) hi, L.2 i (Nat.zero_le _) hi⟩
      · by_cases hl : i + 1 < (endsF b t k).length
        · rw [List.getElem?_append_left (by omega)] at h1
          rw [List.getElem?_append_left hl] at h2
          exact ih.nx i e1 e2 h1 h2
        · have hi : i + 1 = (endsF b t k).length := by
            have := (List.getElem?_eq_some_iff.mp h2).1
            simp at this; omega
          rw [List.getElem?_append_left (by omega)] at h1
          rw [List.getElem?_append_right (by omega), hi] at h2
          simp at h2
          subst h2
          have hlast : (endsF b t k).getLast? = some e1 := by
            rw [List.getLast?_eq_getElem?, ← hi]; exact h1
          have pv1 := ih.pv
          rw [hlast] at pv1
          obtain ⟨l, q, p, c⟩ := e1
          rw [p3]
          refine ⟨pv1.next h (by omega) L, ?_⟩
          obtain ⟨_, ⟨e, _⟩ | ⟨e, _⟩⟩ := pv1
          · rw [e] at p5; exact p5
          · rw [e] at p4; exact p4
/-- the line of the link under way -/
def nowL (b : Rat) (t : Seq) (k : Nat) : Option (Rat × Rat) := match loF b t (stF b t k).1 (stF b t k).2 k with
  | some x => some (lnL b t x)
  | none => match hiF b t (stF b t k).1 (stF b t k).2 k with
    | some x => some (lnH b t x)
    | none => match k with
      | 0 => none
      | j + 1 => some (0, (t j).2)
end
end Lt
set_option maxRecDepth 100000
set_option maxHeartbeats 2000000
namespace Lt
open PySem (Str)
open LawT
end Lt
set_option maxRecDepth 100000
set_option maxHeartbeats 2000000
namespace Lt
set_option exponentiation.threshold 9000
open PySem (Str)
open LawT
end Lt
set_option maxRecDepth 100000
set_option maxHeartbeats 2000000
namespace Lt
set_option exponentiation.threshold 9000
open PySem (Str)
open LawT
end Lt
set_option maxRecDepth 100000
set_option maxHeartbeats 2000000
namespace Lt
def gL (ls : List Line) (i : Nat) : Line := ls.getD i (0, 0)
def wS (ls : List Line) (s0 : Rat) (i : Nat) : Rat := if i = 0 then s0 else mx (gL ls (i - 1)) (gL ls i)
def hS (ls : List Line) (s0 : Rat) (i : Nat) : Rat := if i = 0 then htl (gL ls 0) s0 else htl (gL ls (i - 1)) (wS ls s0 i)
def eS (ls : List Line) (s0 e : Rat) (i : Nat) : Rat := if i + 1 = ls.length then e else wS ls s0 (i + 1)
def pcA (ls : List Line) (s0 e : Rat) (i : Nat) : P4 := (wS ls s0 i, hS ls s0 i, eS ls s0 e i, htl (gL ls i) (eS ls s0 e i))
def pcsJ (ls : List Line) (s0 e : Rat) : List P4 := (List.range ls.length).map (pcA ls s0 e)
def nowV (b : Rat) (t : Seq) (k : Nat) : Line := (nowL b t k).getD (0, 0)
def linesF (b : Rat) (t : Seq) (n : Nat) : List Line := (endsF b t n).map (·.1) ++ [nowV b t n]
def thJ (t : Seq) (e : Lnk) : T3 := ((t e.2.1).1, (t e.2.2.1).1, (t e.2.2.2).1)
def sqA (ts : List Smp) : Seq := fun i => sA ts i
def telJ (b : Rat) (ts : List Smp) : List P4 := pcsJ (linesF b (sqA ts) ts.length) ((sqA ts 0).1 : Rat) ((sqA ts (ts.length - 1)).1 : Rat)
def papJ (b : Rat) (ts : List Smp) : List T3 := (endsF b (sqA ts) ts.length).map (thJ (sqA ts))
end Lt
set_option maxRecDepth 100000
set_option maxHeartbeats 2000000
namespace Lt
open PySem (Str)
open LawT
section
variable {P : Prog} {F k : Nat} {S : Store} {E : XP}
/-- a run that joined takes -/
structure RunJ (b : Rat) (ts : List Smp) : Prop where
  p : RunP ts
  z : ∀ s ∈ ts, Sz 230 s.2
  l : ts.length ≤ 90
theorem RunJ.sz {b : Rat} {ts : List Smp} (h : RunJ b ts) : SzT (sqA ts) ts.length := fun i hi => by
  have hm : sqA ts i ∈ ts := getD_mem hi
  exact ⟨(h.p.z _ hm).1, (h.z _ hm).mono (by decide)⟩
end
end Lt
set_option maxRecDepth 100000
set_option maxHeartbeats 2000000
namespace Lt
end Lt
set_option maxRecDepth 100000
set_option maxHeartbeats 2000000
namespace Lt
set_option exponentiation.threshold 9000
open PySem (Str)
open LawT
end Lt
set_option maxRecDepth 100000
set_option maxHeartbeats 2000000
namespace Lt
set_option exponentiation.threshold 9000
open PySem (Str)
open LawT
section
variable {P : Prog} {F k : Nat} {S : Store} {E : XP}
def p4P2 (p : P4) : PySem.PyData := .tuple [raP p.1, raP p.2.1, raP p.2.2.1, raP p.2.2.2]
theorem toP_p4s2 (S : Store) (n : Nat) : ∀ es : List P4, mapO (toP S (n + 3)) (es.map p4D) = some (es.map p4P2)
  | [] => rfl
  | e :: es => by simp [mapO, p4D, p4P2, toP, rD_P, toP_p4s2 S n es]
theorem eqv_p4s2 : ∀ es : List P4, PySem.PyData.eqvAll (es.map p4P2) (es.map p4P2) = true
  | [] => by simp [PySem.PyData.eqvAll]
  | e :: es => by simp [PySem.PyData.eqvAll, PySem.PyData.eqv, p4P2, eqv_raP, eqv_p4s2 es]
theorem eqD_p4l {S : Store} {a b : Nat} {es : List P4} (ha : getL S a = some (es.map p4D)) (hb : getL S b = some (es.map p4D)) : eqD S (.ref a) (.ref b) = some true := by
  unfold eqD
  have h : ∀ c, getL S c = some (es.map p4D) → toP S 12 (.ref c) = some (.list (es.map p4P2)) := fun c hc => by
    show (match getL S c with
      | some xs => (mapO (toP S 11) xs).map PySem.PyData.list
      | none => none) = _
    rw [hc]
    simp only
    rw [toP_p4s2 S 8]
    rfl
  rw [h a ha, h b hb]
  simp only [PySem.PyData.eqv, eqv_p4s2]
end
end Lt
namespace Lt
set_option exponentiation.threshold 9000
end Lt
set_option maxRecDepth 100000
set_option maxHeartbeats 2000000
namespace Lt
set_option exponentiation.threshold 9000
open PySem (Str)
open LawT
inductive Way where
  | apart | joined | spans | chain
  deriving DecidableEq
def wayS : Way → Str
  | .apart => "apart"
  | .joined => "joined"
  | .spans => "spans"
  | .chain => "chain"
def wayD (w : Way) : D := .str (wayS w)
section
variable {S : Store} {w : Way}
theorem way_eq (w v : Way) : eqD S (wayD w) (.str (wayS v)) = some (decide (w = v)) := by
  unfold wayD
  rw [eqD_str (by cases w <;> decide +kernel) (by cases v <;> decide +kernel)]
  cases w <;> cases v <;> decide +kernel
theorem way_chain : eqD S (wayD w) (.str "chain") = some (decide (w = .chain)) := way_eq w .chain
def Way.free : Way → Bool
  | .apart => true
  | .joined => true
  | _ => false
def Way.tied (w : Way) : Bool := !w.free
def Way.loose : Way → Bool
  | .apart => true
  | .spans => true
  | _ => false
theorem way_loose : inO S (wayD w) (.tup [.str "apart", .str "spans"]) = some w.loose := by
  show inO [] (wayD w) (.tup [.str "apart", .str "spans"]) = some w.loose
  cases w <;> decide +kernel
theorem way_tied : inO S (wayD w) (.tup [.str "spans", .str "chain"]) = some w.tied := by
  show inO [] (wayD w) (.tup [.str "spans", .str "chain"]) = some w.tied
  cases w <;> decide +kernel
end
section
variable {P : Prog} {F k : Nat} {S : Store} {E : XP}
/-- the number of pieces -/
noncomputable def cntW (w : Way) (rss : List (List Smp)) (q : Rat) : Nat := match w with
  | .apart => (rss.map (gP (2 * q))).sum
  | .joined => (rss.flatMap (telJ q)).length
  | .spans => (telF rss q false).length
  | .chain => (telF rss q true).length
def TelW (w : Way) (rss : List (List Smp)) (q : Rat) (S : Store) (te pa : Nat) : Prop := match w with
  | .apart => ∃ tel pap, getL S te = some (tel.map p4D) ∧ getL S pa = some (pap.map thD) ∧ RowT (2 * q) rss tel pap ∧ tel.length ≤ 9000 ∧ pap.length ≤ 9000
  | .joined => getL S te = some ((rss.flatMap (telJ q)).map p4D) ∧ getL S pa = some ((rss.flatMap (papJ q)).map thD) ∧ (rss.flatMap (telJ q)).length ≤ 10000 ∧ (rss.flatMap (papJ q)).length ≤ 10000
  | .spans => getL S te = some ((telF rss q false).map pcD) ∧ (telF rss q false).length ≤ 12000 ∧ ∃ ps, getL S pa = some (ps.map papD) ∧ PaP S ps (papF rss q false) ∧ (∀ p ∈ ps, pa < p.1 ∧ pa < p.2) ∧ Sep ps
  | .chain => getL S te = some ((telF rss q true).map pcD) ∧ (telF rss q true).length ≤ 12000 ∧ ∃ ps, getL S pa = some (ps.map papD) ∧ PaP S ps (papF rss q true) ∧ (∀ p ∈ ps, pa < p.1 ∧ pa < p.2) ∧ Sep ps
theorem TelW.len {w : Way} {rss : List (List Smp)} {q : Rat} {te pa : Nat} (h : TelW w rss q S te pa) : ∃ ds, getL S te = some ds ∧ ds.length = cntW w rss q ∧ ds.length ≤ 12000 := by
  cases w with
  | apart =>
    obtain ⟨tel, pap, h1, h2, h3, h4, h5⟩ := h
    refine ⟨_, h1, ?_, by simp; omega⟩
    rw [List.length_map]
    exact rowT_len h3
  | joined => exact ⟨_, h.1, by rw [List.length_map]; rfl, by simp only [List.length_map]; have := h.2.2.1; omega⟩
  | spans => exact ⟨_, h.1, by rw [List.length_map]; rfl, by simp only [List.length_map]; exact h.2.1⟩
  | chain => exact ⟨_, h.1, by rw [List.length_map]; rfl, by simp only [List.length_map]; exact h.2.1⟩
/-- a row of usual sizes -/
structure RowE (es : List Ent) : Prop where
  up : es.Pairwise fun a c => a.1 < c.1
  z : ∀ e ∈ es, ∀ q, e.2 = some q → SmB (e.1, q) ∧ Sz 230 q
  l : es.length ≤ 40
end
end Lt
set_option maxRecDepth 100000
set_option maxHeartbeats 2000000
namespace Lt
set_option exponentiation.threshold 9000
def ixM (us : List Smp) (m : Int) : Nat := us.findIdx fun s => decide (s.1 = m)
def smAt (us : List Smp) (m : Int) : Smp := sA us (ixM us m)
def hasM (us : List Smp) (m : Int) : Prop := ∃ s ∈ us, s.1 = m
def stT (us : List Smp) (t : T3) : Rat := stq (smAt us t.1) (smAt us t.2.1) (smAt us t.2.2)
/-- three rising moments of samples -/
structure InM (ts : List Smp) (t : T3) : Prop where
  a : hasM ts t.1
  b : hasM ts t.2.1
  c : hasM ts t.2.2
  ab : t.1 < t.2.1
  bc : t.2.1 < t.2.2
def kindQ (x : Rat) : Int := if 0 < x then 1 else if x < 0 then -1 else 0
/-- may not lie over one another -/
def Clash (w : Way) (x y : Rat) : Prop := w = .apart ∨ kindQ x = kindQ y
structure PapFree (w : Way) (rss : List (List Smp)) (b : Rat) (pap : List T3) : Prop where
  good : ∀ t ∈ pap, ∃ ts ∈ rss, InM ts t ∧ 2 * b < absQ (stT rss.flatten t)
  od : pap.Pairwise fun t t' => Clash w (stT rss.flatten t) (stT rss.flatten t') → t.2.2 ≤ t'.1
/-- rows' runs -/
structure RunsOk (rss : List (List Smp)) : Prop where
  up : rss.flatten.Pairwise fun a c => a.1 < c.1
  ne : ∀ ts ∈ rss, 1 ≤ ts.length
theorem RunsOk.run {rss : List (List Smp)} (h : RunsOk rss) {ts : List Smp} (ht : ts ∈ rss) : ts.Pairwise fun a c => a.1 < c.1 := h.up.sublist (List.sublist_flatten_of_mem ht)
end Lt
set_option maxRecDepth 100000
set_option maxHeartbeats 2000000
namespace Lt
set_option exponentiation.threshold 9000
end Lt
set_option maxRecDepth 100000
set_option maxHeartbeats 2000000
namespace Lt
set_option exponentiation.threshold 9000
open PySem (Str)
open LawT
def worW (w : Way) (x : Rat) : Rat := if w.free = true then absQ x * (1 / 2) else absQ x
def getK (S : Store) (r : Nat) : Option (List (L2.Key × D)) := match S[r]? with
  | some (.dK kvs) => some kvs
  | _ => none
section
variable {S S' : Store} {r : Nat} {kvs : List (L2.Key × D)} {m : Int} {v : D} {W : List Nat}
theorem getK_e (h : getK S r = some kvs) : S[r]? = some (.dK kvs) := by
  unfold getK at h
  split at h
  · rename_i e; cases h; exact e
  · cases h
theorem getK_lt (h : getK S r = some kvs) : r < S.length := (List.getElem?_eq_some_iff.mp (getK_e h)).1
theorem Fr.getK (a : Fr W S S') (h : Lt.getK S r = some kvs) (hp : r ∉ W) : Lt.getK S' r = some kvs := by
  have := a.2 r (getK_lt h) hp
  unfold Lt.getK
  rw [this, getK_e h]
end
section
variable {P : Prog} {F k : Nat} {S : Store} {E : XP}
def LwI (S : Store) (r : Nat) (xs : List Rat) (i : Nat) (e : Env) (S2 : Store) : Prop := S2 = S ∧ ∃ (v : Rat) (x2 : Option D), e = [some (.ref r), some (rD v), x2] ∧ v ∈ xs ∧ ∀ j y, j < i → xs[j]? = some y → v ≤ y
theorem sruns_flat (es : List Ent) : (sruns es).flatten = (sampF es).map smE := by
  unfold sruns
  rw [← List.map_flatten, (runs_all es).1]; rfl
end
end Lt
set_option maxRecDepth 100000
set_option maxHeartbeats 2000000
namespace Lt
set_option exponentiation.threshold 9000
open PySem (Str)
open LawT
section
variable {rss : List (List Smp)} {q : Rat} {w : Way} {S : Store} {te pa : Nat}
/-- a paper of threes worth at least a bound -/
structure PapGe (w : Way) (rss : List (List Smp)) (b : Rat) (pap : List T3) : Prop where
  good : ∀ t ∈ pap, ∃ ts ∈ rss, InM ts t ∧ 2 * b ≤ absQ (stT rss.flatten t) ∧ 0 < absQ (stT rss.flatten t)
  od : pap.Pairwise fun t t' => Clash w (stT rss.flatten t) (stT rss.flatten t') → t.2.2 ≤ t'.1
theorem PapGe.lt {b b' : Rat} {pap : List T3} (h : PapGe w rss b pap) (hb : b' < b) : PapFree w rss b' pap := ⟨fun t ht => by
  obtain ⟨ts, h1, h2, h3, h4⟩ := h.good t ht
  exact ⟨ts, h1, h2, by grind⟩, h.od⟩
theorem PapGe.sub {b : Rat} {pap p2 : List T3} (h : PapGe w rss b pap) (hs : p2.Sublist pap) : PapGe w rss b p2 := ⟨fun t ht => h.good t (hs.subset ht), h.od.sublist hs⟩
theorem InM.mono {ts us : List Smp} {t : T3} (h : InM ts t) (hs : ∀ s ∈ ts, s ∈ us) : InM us t := by
  have up : ∀ {m}, hasM ts m → hasM us m := fun ⟨s, h1, h2⟩ => ⟨s, hs s h1, h2⟩
  exact ⟨up h.a, up h.b, up h.c, h.ab, h.bc⟩
end
section
variable {P : Prog} {F k : Nat} {S : Store} {E : XP}
/-- nought, or what three of a run are worth -/
def IsWor (w : Way) (rss : List (List Smp)) (q : Rat) : Prop := q = 0 ∨ ∃ ts ∈ rss, ∃ a ∈ ts, ∃ c ∈ ts, ∃ d ∈ ts, a.1 < c.1 ∧ c.1 < d.1 ∧ q = worW w (stq a c d)
/-- the state of the search -/
structure LfreeP (w : Way) (rss : List (List Smp)) (most : Nat) (q : Rat) (pk : List T3) : Prop where
  nn : 0 ≤ q
  sz : Sz 180 q
  lo : ∀ b, 0 ≤ b → b < q → most < cntW w rss b
  wo : IsWor w rss q
  kp : (q = 0 ∧ pk = []) ∨ (most + 1 ≤ rss.length + pk.length ∧ PapGe w rss q pk ∧ 0 < q)
end
end Lt
set_option maxRecDepth 100000
set_option maxHeartbeats 2000000
namespace Lt
set_option exponentiation.threshold 9000
open PySem (Str)
open LawT
def MaxQ (ts : List Smp) (f l : Nat) (x : Rat) : Prop := (∃ k, f < k ∧ k < l ∧ x = msQ ts f l k) ∧ ∀ k, f < k → k < l → msQ ts f l k ≤ x
theorem MaxQ.gt {ts : List Smp} {f l : Nat} {x b : Rat} (h : MaxQ ts f l x) (hn : ¬ LeadQ ts f l b) : b < x := by
  apply Classical.byContradiction
  intro z
  exact hn fun k k1 k2 => Rat.le_trans (h.2 k k1 k2) (Rat.not_lt.mp z)
section
variable {P : Prog} {F k : Nat} {S : Store} {E : XP}
def TbL (S : Store) : List Nat → List (List Smp) → Prop
  | [], [] => True
  | t :: ts, r :: rs => (∃ kvs, getT S t = some kvs ∧ TbP r kvs) ∧ TbL S ts rs
  | _, _ => False
theorem TbL.len : ∀ {ts : List Nat} {rs : List (List Smp)}, TbL S ts rs → ts.length = rs.length
  | [], [], _ => rfl
  | _ :: _, _ :: _, h => by simp [TbL.len h.2]
theorem TbL.snoc {t : Nat} {r : List Smp} {kvs : List (List L2.Key × D)} (h1 : getT S t = some kvs) (h2 : TbP r kvs) : ∀ {ts : List Nat} {rs : List (List Smp)}, TbL S ts rs → TbL S (ts ++ [t]) (rs ++ [r])
  | [], [], _ => ⟨⟨kvs, h1, h2⟩, trivial⟩
  | _ :: _, _ :: _, h => ⟨h.1, TbL.snoc h1 h2 h.2⟩
theorem TbL.fr {S' : Store} {W : List Nat} (f : Fr W S S') : ∀ {ts : List Nat} {rs : List (List Smp)}, TbL S ts rs → (∀ t ∈ ts, t ∉ W) → TbL S' ts rs
  | [], [], _, _ => trivial
  | t :: ts, _ :: _, h, hn => ⟨by
      obtain ⟨kvs, h1, h2⟩ := h.1
      exact ⟨kvs, f.getT h1 (hn t (by simp)), h2⟩, TbL.fr f h.2 fun x hx => hn x (by simp [hx])⟩
theorem TbL.get : ∀ {ts : List Nat} {rs : List (List Smp)} {i : Nat} {t : Nat}, TbL S ts rs → ts[i]? = some t → ∃ r kvs, rs[i]? = some r ∧ getT S t = some kvs ∧ TbP r kvs
  | [], [], _, _, _, e => by simp at e
  | t :: ts, r :: rs, i, p, h, e => by
    cases i with
    | zero =>
      simp at e; subst e
      obtain ⟨kvs, h1, h2⟩ := h.1
      exact ⟨r, kvs, rfl, h1, h2⟩
    | succ i => simp at e; obtain ⟨x, kvs, h1, h2, h3⟩ := TbL.get h.2 e; exact ⟨x, kvs, by simpa using h1, h2, h3⟩
def Way.chn (w : Way) : Bool := decide (w = .chain)
/-- what the jumps of some labels are worth -/
def JmpGe (rss : List (List Smp)) (tied : Bool) (q0 q : Rat) : Prop := ∀ ts ∈ rss, ∀ s a, s < a → a < cnt tied ts.length → jump (labF ts q0 tied) s a = true → ∃ x, MaxQ ts s (epT tied a) x ∧ q ≤ x
structure LtdP (w : Way) (rss : List (List Smp)) (most : Nat) (q : Rat) (o : Option Rat) : Prop where
  nn : 0 ≤ q
  sz : Sz 180 q
  lo : ∀ b, 0 ≤ b → b < q → most < cntW w rss b
  wo : IsWor w rss q
  bf : (q = 0 ∧ o = none) ∨ ∃ q0, o = some q0 ∧ 0 ≤ q0 ∧ q0 < q ∧ Sz 180 q0 ∧ most < cntW w rss q0 ∧ JmpGe rss w.chn q0 q
theorem cm_isin2 {x y : D} {S : Store} : cmpop .isin x y S = eqR (inO S x y) S := by
  unfold cmpop eqR; cases inO S x y <;> rfl
/-- the paper of the least -/
def PapLe (w : Way) (rss : List (List Smp)) (most : Nat) (q : Rat) (S : Store) (pa : Nat) : Prop := (w.free = true ∧ ∃ pk, getL S pa = some ((pk.take (most + 1 - rss.length)).map thD) ∧ LfreeP w rss most q pk) ∨ (w.free = false ∧ ∃ o, LtdP w rss most q o ∧ (o = none → getL S pa = some []) ∧ ∀ q0, o = some q0 → ∃ te, TelW w rss q0 S te pa)
structure LeastP (w : Way) (rss : List (List Smp)) (most : Nat) (q : Rat) : Prop where
  nn : 0 ≤ q
  sz : Sz 180 q
  lo : ∀ b, 0 ≤ b → b < q → most < cntW w rss b
  wo : IsWor w rss q
  up : cntW w rss q ≤ most
theorem TelW.ext {w : Way} {rss : List (List Smp)} {q : Rat} {te pa : Nat} {S S' : Store} (h : TelW w rss q S te pa) (e : Ext S S') : TelW w rss q S' te pa := by
  cases w with
  | apart =>
    obtain ⟨tel, pap, h1, h2, h3⟩ := h
    exact ⟨tel, pap, e.getL h1, e.getL h2, h3⟩
  | joined => exact ⟨e.getL h.1, e.getL h.2.1, h.2.2⟩
  | spans =>
    obtain ⟨h1, h2, ps, h3, h4, h5⟩ := h
    exact ⟨e.getL h1, h2, ps, e.getL h3, h4.fr (Fr.of e : Fr [] _ _) (fun p _ => by simp), h5⟩
  | chain =>
    obtain ⟨h1, h2, ps, h3, h4, h5⟩ := h
    exact ⟨e.getL h1, h2, ps, e.getL h3, h4.fr (Fr.of e : Fr [] _ _) (fun p _ => by simp), h5⟩
theorem PapLe.ext {w : Way} {rss : List (List Smp)} {most : Nat} {q : Rat} {pa : Nat} {S S' : Store} (h : PapLe w rss most q S pa) (e : Ext S S') : PapLe w rss most q S' pa := by
  rcases h with ⟨h1, pk, h2, h3⟩ | ⟨h1, o, h2, h3, h4⟩
  · exact .inl ⟨h1, pk, e.getL h2, h3⟩
  · exact .inr ⟨h1, o, h2, fun z => e.getL (h3 z), fun q0 z => by
      obtain ⟨te, ht⟩ := h4 q0 z
      exact ⟨te, ht.ext e⟩⟩
end
end Lt
set_option maxRecDepth 100000
set_option maxHeartbeats 2000000
namespace Lt
set_option exponentiation.threshold 9000
open PySem (Str)
open LawT
theorem runsOk_hd {b : Int} {n : Nat} {row : List EnN} (h : RowN n row) : RunsOk (sruns (row.map (hdN b))) := by
  refine ⟨?_, fun ts hts => ?_⟩
  · rw [sruns_flat, List.pairwise_map]
    exact (hd_up h).sublist List.filter_sublist
  · unfold sruns at hts
    obtain ⟨r, hr, rfl⟩ := List.mem_map.mp hts
    have := (runs_all (row.map (hdN b))).2 r hr
    cases r with
    | nil => exact absurd rfl this
    | cons _ _ => simp
section
variable {P : Prog} {F k : Nat} {S : Store} {E : XP}
/-- a row handed to the program -/
theorem hand_wp (h : Has P "_law_handed" 2 5 b__law_handed) (hr : P.defs.lookup ("_law_ratio" : Str) = some a__law_ratio) (hF : BIG ≤ F) {t : Nat} {es : List EnN} {b : Int} (ht : getL S t = some (es.map enD)) (hb : 0 < b) (hb2 : b.natAbs < 2 ^ 90) (hl : es.length ≤ 40) :
    Wp (callN P F (k + 2) "_law_handed" [.ref t, .int b] S) E fun r S' => IsG S S' r ((es.map (hdN b)).map entD) := by
  refine (handed_wp h hr hF ht hb (Nat.lt_of_lt_of_le hb2 (nat_pow_mono (by decide))) (by omega)).imp ?_
  rintro x S' ⟨h1, q, h2, h3, h4⟩
  refine ⟨h1, q, h2, h3, ?_⟩
  rw [h4, List.map_map]
  congr 1
  exact List.map_congr_left fun e _ => gap_ent _
end
end Lt
set_option maxRecDepth 100000
set_option maxHeartbeats 2000000
namespace Lt
set_option exponentiation.threshold 9000
open PySem (Str)
open LawT
end Lt
set_option maxRecDepth 100000
set_option maxHeartbeats 2000000
namespace Lt
set_option exponentiation.threshold 9000
open PySem (Str)
open LawT
/-- behind the last one of a kind among the first ones -/
def cutA {α : Type} (p : α → Bool) (l : List α) : Nat → Nat
  | 0 => 0
  | i + 1 => if (l[i]?.map p) = some true then i + 1 else cutA p l i
def gapE (e : Ent) : Bool := e.2.isNone
def heldE (m : Int) (es : List Ent) : List Ent := es.filter fun e => decide (e.1 ≤ m)
def shutE (m : Int) (es : List Ent) : List Ent := (heldE m es).take (cutA gapE (heldE m es) (heldE m es).length)
def stillE (m : Int) (es : List Ent) : List Ent := (heldE m es).drop (cutA gapE (heldE m es) (heldE m es).length)
section
variable {P : Prog} {F k : Nat} {S : Store} {E : XP} {r : Nat} {es : List Ent} {m : Int}
def MaxO (f : Nat → Rat) (i : Nat) (o : Option Rat) : Prop := (i = 0 ∧ o = none) ∨ ∃ v, o = some v ∧ (∃ j, j < i ∧ v = f j) ∧ ∀ j, j < i → f j ≤ v
def MinO (f : Nat → Rat) (i : Nat) (o : Option Rat) : Prop := (i = 0 ∧ o = none) ∨ ∃ v, o = some v ∧ (∃ j, j < i ∧ v = f j) ∧ ∀ j, j < i → v ≤ f j
theorem MaxO.keep {f : Nat → Rat} {i : Nat} {v : Rat} (h : MaxO f i (some v)) (hl : f i ≤ v) : MaxO f (i + 1) (some v) := by
  rcases h with ⟨_, z⟩ | ⟨w, e, ⟨j, j1, j2⟩, k⟩
  · cases z
  · cases e
    exact .inr ⟨v, rfl, ⟨j, by omega, j2⟩, fun j' hj' => by
      by_cases z : j' = i
      · subst z; exact hl
      · exact k j' (by omega)⟩
theorem MaxO.take {f : Nat → Rat} {i : Nat} {o : Option Rat} (h : MaxO f i o) (hl : ∀ v, o = some v → v < f i) : MaxO f (i + 1) (some (f i)) := by
  refine .inr ⟨f i, rfl, ⟨i, by omega, rfl⟩, fun j hj => ?_⟩
  by_cases z : j = i
  · subst z; exact Rat.le_refl
  · rcases h with ⟨rfl, _⟩ | ⟨w, e, _, k⟩
    · omega
    · have := hl w e
      have := k j (by omega)
      grind
theorem MinO.keep {f : Nat → Rat} {i : Nat} {v : Rat} (h : MinO f i (some v)) (hl : v ≤ f i) : MinO f (i + 1) (some v) := by
  rcases h with ⟨_, z⟩ | ⟨w, e, ⟨j, j1, j2⟩, k⟩
  · cases z
  · cases e
    exact .inr ⟨v, rfl, ⟨j, by omega, j2⟩, fun j' hj' => by
      by_cases z : j' = i
      · subst z; exact hl
      · exact k j' (by omega)⟩
theorem MinO.take {f : Nat → Rat} {i : Nat} {o : Option Rat} (h : MinO f i o) (hl : ∀ v, o = some v → f i < v) : MinO f (i + 1) (some (f i)) := by
  refine .inr ⟨f i, rfl, ⟨i, by omega, rfl⟩, fun j hj => ?_⟩
  by_cases z : j = i
  · subst z; exact Rat.le_refl
  · rcases h with ⟨rfl, _⟩ | ⟨w, e, _, k⟩
    · omega
    · have := hl w e
      have := k j (by omega)
      grind
end
end Lt
set_option maxRecDepth 100000
set_option maxHeartbeats 2000000
namespace Lt
set_option exponentiation.threshold 9000
open PySem (Str)
open LawT
theorem RowE.sub {es fs : List Ent} (h : RowE es) (s : fs.Sublist es) : RowE fs := ⟨h.up.sublist s, fun e he => h.z e (s.subset he), Nat.le_trans s.length_le h.l⟩
theorem held_sub {m : Int} {es : List Ent} : (heldE m es).Sublist es := List.filter_sublist
theorem shut_sub {m : Int} {es : List Ent} : (shutE m es).Sublist es := (List.take_sublist _ _).trans held_sub
theorem still_sub {m : Int} {es : List Ent} : (stillE m es).Sublist es := (List.drop_sublist _ _).trans held_sub
theorem MaxO.uniq {f : Nat → Rat} {i : Nat} {v w : Rat} (h : MaxO f i (some v)) (h' : MaxO f i (some w)) : v = w := by
  rcases h with ⟨_, z⟩ | ⟨_, e, ⟨j, j1, rfl⟩, k⟩
  · cases z
  rcases h' with ⟨_, z⟩ | ⟨_, e', ⟨j', j1', rfl⟩, k'⟩
  · cases z
  cases e; cases e'
  have := k j' j1'
  have := k' j j1
  grind
theorem MinO.uniq {f : Nat → Rat} {i : Nat} {v w : Rat} (h : MinO f i (some v)) (h' : MinO f i (some w)) : v = w := by
  rcases h with ⟨_, z⟩ | ⟨_, e, ⟨j, j1, rfl⟩, k⟩
  · cases z
  rcases h' with ⟨_, z⟩ | ⟨_, e', ⟨j', j1', rfl⟩, k'⟩
  · cases z
  cases e; cases e'
  have := k j' j1'
  have := k' j j1
  grind
end Lt
set_option maxRecDepth 100000
set_option maxHeartbeats 2000000
namespace Lt
set_option exponentiation.threshold 9000
open PySem (Str)
open LawT
end Lt
set_option maxRecDepth 100000
set_option maxHeartbeats 2000000
namespace Lt
set_option exponentiation.threshold 9000
open PySem (Str)
open LawT
end Lt
set_option maxRecDepth 100000
set_option maxHeartbeats 2000000
namespace Lt
set_option exponentiation.threshold 9000
open PySem (Str)
open LawT
theorem TelP.uniq : ∀ {ps : List (List Smp)} {ds ds' : List P4}, TelP ps ds → TelP ps ds' → (∀ p ∈ ps, 1 ≤ p.length ∧ p.Pairwise fun a c => a.1 < c.1) → ds = ds'
  | [], [], [], _, _, _ => rfl
  | p :: ps, d :: ds, d' :: ds', h, h', hp => by
    obtain ⟨⟨s, l, w, o, b1, rfl⟩, h2⟩ := h
    obtain ⟨⟨s', l', w', o', b1', rfl⟩, h2'⟩ := h'
    obtain ⟨rfl, rfl, _⟩ := b1.uniq b1' (hp p (by simp)).2 (hp p (by simp)).1
    rw [TelP.uniq h2 h2' fun x hx => hp x (by simp [hx])]
theorem partsF_ok {sp : Rat} {ts : List Smp} (hz : ∀ s ∈ ts, SmB s) (hl : ts.length ≤ 89) (hup : ts.Pairwise fun a c => a.1 < c.1) : ∀ p ∈ partsF sp ts, 1 ≤ p.length ∧ p.Pairwise fun a c => a.1 < c.1 := fun p hp => by
  obtain ⟨h1, _, _⟩ := allp_pts (allp_partsF (sp := sp) ts) hz hl hup
  exact ⟨h1.ne p hp, h1.up.sublist (List.sublist_flatten_of_mem hp)⟩
structure RunsB (rss : List (List Smp)) : Prop where
  z : ∀ r ∈ rss, (∀ s ∈ r, SmB s) ∧ r.length ≤ 89 ∧ r.Pairwise fun a c => a.1 < c.1
theorem RunsB.parts {rss : List (List Smp)} (h : RunsB rss) {sp : Rat} : ∀ p ∈ rss.flatMap (partsF sp), 1 ≤ p.length ∧ p.Pairwise fun a c => a.1 < c.1 := fun p hp => by
  obtain ⟨r, hr, hp⟩ := List.mem_flatMap.mp hp
  obtain ⟨h1, h2, h3⟩ := h.z r hr
  exact partsF_ok h1 h2 h3 p hp
theorem rowE_runsB {es : List Ent} (h : RowE es) : RunsB (sruns es) := ⟨fun r hr => by
  unfold sruns at hr
  obtain ⟨r', hr', rfl⟩ := List.mem_map.mp hr
  have hs : r'.Sublist es := (by
    have h4 : r'.Sublist (runsF es).flatten := List.sublist_flatten_of_mem hr'
    rw [(runs_all es).1] at h4
    exact h4.trans List.filter_sublist)
  have hsm : ∀ e ∈ r', e.2.isSome = true := fun e he => by
    have h4 : e ∈ (runsF es).flatten := List.mem_flatten.mpr ⟨r', hr', he⟩
    rw [(runs_all es).1] at h4
    exact (List.mem_filter.mp h4).2
  refine ⟨fun s hs' => ?_, ?_, ?_⟩
  · obtain ⟨e, he, rfl⟩ := List.mem_map.mp hs'
    obtain ⟨v, hv⟩ := Option.isSome_iff_exists.mp (hsm e he)
    have := (h.z e (hs.subset he) v hv).1
    unfold smE
    rw [hv]
    exact this
  · rw [List.length_map]
    have := hs.length_le
    have := h.l
    omega
  · rw [List.pairwise_map]
    exact h.up.sublist hs⟩
/-- what is told, as a list of values -/
def isTel (w : Way) (rss : List (List Smp)) (q : Rat) (ds : List D) : Prop := match w with
  | .apart => ∃ tel, ds = tel.map p4D ∧ TelP (rss.flatMap (partsF (2 * q))) tel
  | .joined => ds = (rss.flatMap (telJ q)).map p4D
  | .spans => ds = (telF rss q false).map pcD
  | .chain => ds = (telF rss q true).map pcD
section
variable {w : Way} {rss : List (List Smp)} {q : Rat} {S : Store} {te pa : Nat} {ds ds' : List D}
theorem isTel.uniq (hB : RunsB rss) (h : isTel w rss q ds) (h' : isTel w rss q ds') : ds = ds' := by
  cases w with
  | apart =>
    obtain ⟨tel, rfl, h1⟩ := h
    obtain ⟨tel', rfl, h1'⟩ := h'
    rw [h1.uniq h1' hB.parts]
  | joined => exact Eq.trans h (Eq.symm h')
  | spans => exact Eq.trans h (Eq.symm h')
  | chain => exact Eq.trans h (Eq.symm h')
theorem isTel.app {rss' : List (List Smp)} (h : isTel w rss q ds) (h' : isTel w rss' q ds') : isTel w (rss ++ rss') q (ds ++ ds') := by
  cases w with
  | apart =>
    obtain ⟨tel, rfl, h1⟩ := h
    obtain ⟨tel', rfl, h1'⟩ := h'
    exact ⟨tel ++ tel', by simp, by rw [List.flatMap_append]; exact h1.app h1'⟩
  | joined => cases h; cases h'; simp [isTel]
  | spans => cases h; cases h'; simp [isTel, telF]
  | chain => cases h; cases h'; simp [isTel, telF]
end
/-- the least is one -/
theorem LeastP.uniq {w : Way} {rss : List (List Smp)} {m : Nat} {q q' : Rat} (h : LeastP w rss m q) (h' : LeastP w rss m q') : q = q' := by
  have a : ¬ q < q' := fun z => by have := h'.lo q h.nn z; have := h.up; omega
  have b : ¬ q' < q := fun z => by have := h.lo q' h'.nn z; have := h'.up; omega
  grind
end Lt
set_option maxRecDepth 100000
set_option maxHeartbeats 2000000
namespace Lt
set_option exponentiation.threshold 9000
open PySem (Str)
open LawT
end Lt
set_option maxRecDepth 100000
set_option maxHeartbeats 2000000
namespace Lt
set_option exponentiation.threshold 9000
open PySem (Str)
open LawT
section
variable {b : Rat} {t t' : Seq} {n : Nat}
def OkP (n : Nat) (o : Option (Nat × Nat)) : Prop := ∀ x, o = some x → x.1 < n ∧ x.2 < n
theorem OkP.mono {m : Nat} {o : Option (Nat × Nat)} (h : OkP n o) (hm : n ≤ m) : OkP m o := fun x hx => by have := h x hx; omega
end
/-- what stays of the rest's telling -/
def sureD (w : Way) (d : List D) : List D := match w with
  | .apart => d.take (d.length - 1)
  | .joined => d.take (d.length - 2)
  | _ => []
/-- what is told as sure -/
def isSure (w : Way) (es : List Ent) (q : Rat) (m : Int) (ds : List D) : Prop := ∃ d1 d2, isTel w (sruns (shutE m es)) q d1 ∧ (w.free = true → isTel w (sruns (stillE m es)) q d2) ∧ ds = d1 ++ sureD w d2
theorem isSure.uniq {w : Way} {es : List Ent} {q : Rat} {m : Int} {ds ds' : List D} (he : RowE es) (h : isSure w es q m ds) (h' : isSure w es q m ds') : ds = ds' := by
  obtain ⟨d1, d2, a1, a2, rfl⟩ := h
  obtain ⟨d1', d2', a1', a2', rfl⟩ := h'
  have := a1.uniq (rowE_runsB (he.sub shut_sub)) a1'
  subst this
  congr 1
  by_cases hw : w.free = true
  · rw [(a2 hw).uniq (rowE_runsB (he.sub still_sub)) (a2' hw)]
  · cases w with
    | apart => exact absurd rfl hw
    | joined => exact absurd rfl hw
    | spans => rfl
    | chain => rfl
end Lt
set_option maxRecDepth 100000
set_option maxHeartbeats 1000000
namespace Lt
open PySem L2
abbrev AM := Nat → Nat → Prop
mutual
/-- values alike but for addresses -/
inductive DR (M : AM) : D → D → Prop where
  | non : DR M .non .non
  | bl (b : Bool) : DR M (.bl b) (.bl b)
  | int (i : Int) : DR M (.int i) (.int i)
  | str (s : Str) : DR M (.str s) (.str s)
  | tup {xs ys : List D} (h : DRs M xs ys) : DR M (.tup xs) (.tup ys)
  | frl {xs ys : List D} (h : DRs M xs ys) : DR M (.frl xs) (.frl ys)
  | frt {xs ys : List D} (h : DRs M xs ys) : DR M (.frt xs) (.frt ys)
  | ref {n m : Nat} (h : M n m) : DR M (.ref n) (.ref m)
inductive DRs (M : AM) : List D → List D → Prop where
  | nil : DRs M [] []
  | cons {x y : D} {xs ys : List D} (h : DR M x y) (t : DRs M xs ys) : DRs M (x :: xs) (y :: ys)
end
inductive OR (M : AM) : Option D → Option D → Prop where
  | none : OR M none none
  | some {x y : D} (h : DR M x y) : OR M (some x) (some y)
inductive LR (M : AM) : Option (List D) → Option (List D) → Prop where
  | none : LR M none none
  | some {x y : List D} (h : DRs M x y) : LR M (some x) (some y)
/-- pairs with the same first parts -/
inductive PR {κ : Type} (M : AM) : List (κ × D) → List (κ × D) → Prop where
  | nil : PR M [] []
  | cons {k : κ} {x y : D} {xs ys : List (κ × D)} (h : DR M x y) (t : PR M xs ys) : PR M ((k, x) :: xs) ((k, y) :: ys)
inductive CR (M : AM) : Cell → Cell → Prop where
  | lst {xs ys : List D} (h : DRs M xs ys) : CR M (.lst xs) (.lst ys)
  | dK {a b : List (Key × D)} (h : PR M a b) : CR M (.dK a) (.dK b)
  | dT {a b : List (List Key × D)} (h : PR M a b) : CR M (.dT a) (.dT b)
  | ins {C : Str} {a b : List (Str × D)} (h : PR M a b) : CR M (.ins C a) (.ins C b)
inductive VR (M : AM) : Env → Env → Prop where
  | nil : VR M [] []
  | cons {x y : Option D} {e f : Env} (h : OR M x y) (t : VR M e f) : VR M (x :: e) (y :: f)
theorem lr_by {M : AM} {a b : Option (List D)} (h : LR M a b) : (a = none ∧ b = none) ∨ ∃ xs ys, a = some xs ∧ b = some ys ∧ DRs M xs ys := by
  cases h with
  | none => exact .inl ⟨rfl, rfl⟩
  | some h => exact .inr ⟨_, _, rfl, rfl, h⟩
def Le (M N : AM) : Prop := ∀ n m, M n m → N n m
theorem Le.refl {M : AM} : Le M M := fun _ _ h => h
theorem Le.trans {M N K : AM} (a : Le M N) (b : Le N K) : Le M K := fun n m h => b n m (a n m h)
mutual
theorem DR.mono {M N : AM} (l : Le M N) : ∀ {x y : D}, DR M x y → DR N x y
  | _, _, .non => .non
  | _, _, .bl b => .bl b
  | _, _, .int i => .int i
  | _, _, .str s => .str s
  | _, _, .tup h => .tup (DRs.mono l h)
  | _, _, .frl h => .frl (DRs.mono l h)
  | _, _, .frt h => .frt (DRs.mono l h)
  | _, _, .ref h => .ref (l _ _ h)
theorem DRs.mono {M N : AM} (l : Le M N) : ∀ {x y : List D}, DRs M x y → DRs N x y
  | _, _, .nil => .nil
  | _, _, .cons h t => .cons (DR.mono l h) (DRs.mono l t)
end
theorem OR.mono {M N : AM} (l : Le M N) {x y : Option D} (h : OR M x y) : OR N x y := by
  cases h with
  | none => exact .none
  | some h => exact .some (h.mono l)
theorem PR.mono {κ : Type} {M N : AM} (l : Le M N) : ∀ {x y : List (κ × D)}, PR M x y → PR N x y
  | _, _, .nil => .nil
  | _, _, .cons h t => .cons (h.mono l) (PR.mono l t)
theorem CR.mono {M N : AM} (l : Le M N) {x y : Cell} (h : CR M x y) : CR N x y := by
  cases h with
  | lst h => exact .lst (h.mono l)
  | dK h => exact .dK (h.mono l)
  | dT h => exact .dT (h.mono l)
  | ins h => exact .ins (h.mono l)
theorem VR.mono {M N : AM} (l : Le M N) : ∀ {x y : Env}, VR M x y → VR N x y
  | _, _, .nil => .nil
  | _, _, .cons h t => .cons (h.mono l) (VR.mono l t)
/-- stores alike -/
structure SAl (M : AM) (S T : Store) : Prop where
  cell : ∀ n m, M n m → ∃ c d, S[n]? = some c ∧ T[m]? = some d ∧ CR M c d
  fn : ∀ n m m', M n m → M n m' → m = m'
  inj : ∀ n n' m, M n m → M n' m → n = n'
section
variable {M N : AM} {S T : Store} {x y z w : D} {xs ys us vs : List D}
theorem SAl.ltS (h : SAl M S T) {n m : Nat} (hm : M n m) : n < S.length := by
  obtain ⟨c, d, e, _⟩ := h.cell n m hm
  exact (List.getElem?_eq_some_iff.mp e).1
theorem SAl.ltT (h : SAl M S T) {n m : Nat} (hm : M n m) : m < T.length := by
  obtain ⟨c, d, _, e, _⟩ := h.cell n m hm
  exact (List.getElem?_eq_some_iff.mp e).1
/-- a new cell on both sides -/
def add (M : AM) (a b : Nat) : AM := fun n m => M n m ∨ (n = a ∧ m = b)
/-- a cell written on both sides -/
theorem SAl.set (h : SAl M S T) {n m : Nat} (hm : M n m) {c d : Cell} (hc : CR M c d) : SAl M (S.set n c) (T.set m d) := by
  refine ⟨fun a b hab => ?_, h.fn, h.inj⟩
  by_cases e : a = n
  · subst e
    have := h.fn _ _ _ hab hm
    subst this
    exact ⟨c, d, List.getElem?_set_self (h.ltS hm), List.getElem?_set_self (h.ltT hm), hc⟩
  · have e2 : b ≠ m := fun z => by subst z; exact e (h.inj _ _ _ hab hm)
    obtain ⟨c', d', e1, e3, e4⟩ := h.cell a b hab
    exact ⟨c', d', by rw [List.getElem?_set_ne (Ne.symm e)]; exact e1, by rw [List.getElem?_set_ne (Ne.symm e2)]; exact e3, e4⟩
theorem DRs.len : ∀ {xs ys : List D}, DRs M xs ys → xs.length = ys.length
  | _, _, .nil => rfl
  | _, _, .cons _ t => by simp [DRs.len t]
theorem DRs.get : ∀ {xs ys : List D}, DRs M xs ys → ∀ i : Nat, OR M xs[i]? ys[i]?
  | _, _, .nil, i => by simp; exact .none
  | _, _, .cons h t, 0 => by simp; exact .some h
  | _, _, .cons h t, i + 1 => by simp; exact DRs.get t i
theorem DRs.app : ∀ {xs ys us vs : List D}, DRs M xs ys → DRs M us vs → DRs M (xs ++ us) (ys ++ vs)
  | _, _, _, _, .nil, h => h
  | _, _, _, _, .cons h t, g => .cons h (DRs.app t g)
theorem DRs.take : ∀ {xs ys : List D} (n : Nat), DRs M xs ys → DRs M (xs.take n) (ys.take n)
  | _, _, 0, _ => by simp; exact .nil
  | _, _, n + 1, .nil => by simp; exact .nil
  | _, _, n + 1, .cons h t => .cons h (DRs.take n t)
theorem DRs.drop : ∀ {xs ys : List D} (n : Nat), DRs M xs ys → DRs M (xs.drop n) (ys.drop n)
  | _, _, 0, h => h
  | _, _, n + 1, .nil => .nil
  | _, _, n + 1, .cons h t => DRs.drop n t
theorem DRs.rev : ∀ {xs ys : List D}, DRs M xs ys → DRs M xs.reverse ys.reverse
  | _, _, .nil => .nil
  | _, _, .cons h t => by
    rw [List.reverse_cons, List.reverse_cons]
    exact DRs.app (DRs.rev t) (.cons h .nil)
theorem DRs.set : ∀ {xs ys : List D} (n : Nat), DRs M xs ys → DR M x y → DRs M (xs.set n x) (ys.set n y)
  | _, _, _, .nil, _ => .nil
  | _, _, 0, .cons h t, g => .cons g t
  | _, _, n + 1, .cons h t, g => .cons h (DRs.set n t g)
theorem DRs.dropLast (h : DRs M xs ys) : DRs M xs.dropLast ys.dropLast := by
  rw [List.dropLast_eq_take, List.dropLast_eq_take, h.len]
  exact h.take _
theorem DRs.rep (h : DRs M xs ys) : ∀ n, DRs M (List.replicate n xs).flatten (List.replicate n ys).flatten
  | 0 => .nil
  | n + 1 => by
    rw [List.replicate_succ, List.replicate_succ, List.flatten_cons, List.flatten_cons]
    exact h.app (DRs.rep h n)
theorem DRs.cut (h : DRs M xs ys) (lo hi : Option Int) : DRs M (cutD xs lo hi) (cutD ys lo hi) := by
  unfold cutD
  rw [h.len]
  exact (h.drop _).take _
theorem getL_al (h : SAl M S T) {n m : Nat} (hm : M n m) : LR M (getL S n) (getL T m) := by
  obtain ⟨c, d, e1, e2, e3⟩ := h.cell n m hm
  unfold getL
  rw [e1, e2]
  cases e3 with
  | lst h => exact .some h
  | _ => exact .none
theorem mapO_al {α : Type} {f g : D → Option α} (h : ∀ x y, DR M x y → f x = g y) : ∀ {xs ys : List D}, DRs M xs ys → mapO f xs = mapO g ys
  | _, _, .nil => rfl
  | _, _, .cons a t => by simp only [mapO, h _ _ a, mapO_al h t]
theorem toP_al (h : SAl M S T) : ∀ (n : Nat) {x y : D}, DR M x y → toP S n x = toP T n y
  | 0, _, _, _ => by simp [toP]
  | n + 1, _, _, r => by
    have ih : ∀ {xs ys : List D}, DRs M xs ys → mapO (toP S n) xs = mapO (toP T n) ys := fun t => mapO_al (M := M) (fun x y h' => toP_al h n (x := x) (y := y) h') t
    cases r with
    | non => simp only [toP]
    | bl b => simp only [toP]
    | int i => simp only [toP]
    | str s => simp only [toP]
    | tup t => simp only [toP, ih t]
    | frl t => simp only [toP, ih t]
    | frt t => simp only [toP, ih t]
    | ref hm =>
      simp only [toP]
      rcases lr_by (getL_al h hm) with ⟨e1, e2⟩ | ⟨xs, ys, e1, e2, t⟩
      · rw [e1, e2]
      · rw [e1, e2]
        simp only [ih t]
def RR {α β : Type} (M : AM) (Q : AM → α → β → Prop) : R α → R β → Prop
  | .bad, _ => True
  | .ok a S, .ok b T => ∃ N, Le M N ∧ SAl N S T ∧ Q N a b
  | .exc c S, .exc d T => ∃ N, Le M N ∧ SAl N S T ∧ c.cls = d.cls ∧ OR N c.at_ d.at_
  | _, _ => False
theorem RR.bad {α β : Type} {M : AM} {Q : AM → α → β → Prop} {s : R β} : RR M Q (.bad : R α) s := by cases s <;> exact True.intro
theorem RR.ok {α β : Type} {Q : AM → α → β → Prop} {a : α} {b : β} (h : SAl M S T) (q : Q M a b) : RR M Q (.ok a S) (.ok b T) := ⟨M, Le.refl, h, q⟩
theorem RR.bind {α β γ δ : Type} {Q : AM → α → β → Prop} {P : AM → γ → δ → Prop} {r : R α} {s : R β} {k : α → Store → R γ} {l : β → Store → R δ} (h : RR M Q r s)
    (hk : ∀ N a b S T, Le M N → SAl N S T → Q N a b → RR N P (k a S) (l b T)) : RR M P (r.bind k) (s.bind l) := by
  have lift : ∀ {N}, Le M N → ∀ {r s}, RR N P r s → RR M P r s := fun {N} le {r s} q => by
    cases r <;> cases s <;> first | trivial | exact q.elim | skip
    · obtain ⟨K, l1, q1, q2⟩ := q
      exact ⟨K, le.trans l1, q1, q2⟩
    · obtain ⟨K, l1, q1, q2⟩ := q
      exact ⟨K, le.trans l1, q1, q2⟩
  cases r <;> cases s <;> first | trivial | exact h.elim | skip
  · obtain ⟨N, le, h1, h2⟩ := h
    exact lift le (hk N _ _ _ _ le h1 h2)
section
variable {κ : Type} [DecidableEq κ] {a b : List (κ × D)}
theorem PR.len {κ : Type} {M : AM} : ∀ {a b : List (κ × D)}, PR M a b → a.length = b.length
  | _, _, .nil => rfl
  | _, _, .cons _ t => by simp [PR.len t]
theorem PR.any : ∀ {a b : List (κ × D)}, PR M a b → ∀ k : κ, (a.any fun kv => decide (kv.1 = k)) = (b.any fun kv => decide (kv.1 = k))
  | _, _, .nil, k => rfl
  | _, _, .cons h t, k => by simp only [List.any_cons, PR.any t k]
theorem PR.app {κ : Type} {M : AM} : ∀ {a b c d : List (κ × D)}, PR M a b → PR M c d → PR M (a ++ c) (b ++ d)
  | _, _, _, _, .nil, h => h
  | _, _, _, _, .cons h t, g => .cons h (PR.app t g)
theorem PR.drop : ∀ {a b : List (κ × D)}, PR M a b → ∀ k : κ, PR M (dropKD a k) (dropKD b k)
  | _, _, .nil, k => .nil
  | _, _, .cons (k := k') h t, k => by
    have ih := PR.drop t k
    unfold dropKD at *
    simp only [List.filter_cons]
    by_cases e : k' ≠ k
    · simp only [decide_eq_true e, if_true]
      exact .cons h ih
    · simp only [decide_eq_false e]
      exact ih
end
theorem RR.set (h : SAl M S T) {n m : Nat} (hm : M n m) {c d : Cell} (hc : CR M c d) (r : DR M x y) : RR M DR (.ok x (S.set n c)) (.ok y (T.set m d)) := .ok (h.set hm hc) r
theorem PR.lookup {a b : List (Str × D)} (p : PR M a b) (f : Str) : OR M (a.lookup f) (b.lookup f) := by
  induction p with
  | nil => exact .none
  | cons h t ih =>
    rename_i k x y xs ys
    simp only [List.lookup_cons]
    cases f == k with
    | true => exact .some h
    | false => exact ih
end
end Lt
set_option maxRecDepth 100000
set_option maxHeartbeats 4000000
namespace Lt
open PySem L2
section
variable {M N : AM} {S T : Store} {x y z w : D} {xs ys us vs : List D} {e f : Env}
theorem VR.len : ∀ {e f : Env}, VR M e f → e.length = f.length
  | _, _, .nil => rfl
  | _, _, .cons _ t => by simp [VR.len t]
theorem VR.get : ∀ {e f : Env}, VR M e f → ∀ i : Nat, (e[i]? = none ∧ f[i]? = none) ∨ ∃ a b, e[i]? = some a ∧ f[i]? = some b ∧ OR M a b
  | _, _, .nil, i => .inl ⟨by simp, by simp⟩
  | _, _, .cons h t, 0 => .inr ⟨_, _, rfl, rfl, h⟩
  | _, _, .cons h t, i + 1 => by
    simp only [List.getElem?_cons_succ]
    exact VR.get t i
theorem VR.set : ∀ {e f : Env} (i : Nat) {a b : Option D}, VR M e f → OR M a b → VR M (e.set i a) (f.set i b)
  | _, _, _, _, _, .nil, _ => .nil
  | _, _, 0, _, _, .cons h t, g => .cons g t
  | _, _, i + 1, _, _, .cons h t, g => .cons h (VR.set i t g)
theorem VR.rep : ∀ n : Nat, VR M (List.replicate n none) (List.replicate n none)
  | 0 => .nil
  | n + 1 => .cons .none (VR.rep n)
theorem VR.app : ∀ {e f e2 f2 : Env}, VR M e f → VR M e2 f2 → VR M (e ++ e2) (f ++ f2)
  | _, _, _, _, .nil, h => h
  | _, _, _, _, .cons h t, g => .cons h (VR.app t g)
def EO (M : AM) (a b : Option Exc) : Prop := (a = none ∧ b = none) ∨ ∃ c d, a = some c ∧ b = some d ∧ c.cls = d.cls ∧ OR M c.at_ d.at_
structure CXr (M : AM) (G G' : Cxt) : Prop where
  cl : ∀ f N S T ds es, SAl N S T → DRs N ds es → RR N DR (G.cl f ds S) (G'.cl f es T)
  glo : ∀ x, (G.glo x = none ∧ G'.glo x = none) ∨ ∃ d, G.glo x = some d ∧ G'.glo x = some d ∧ ∀ N, DR N d d
  fuel : G.fuel = G'.fuel
  sub : G.sub = G'.sub
  isc : G.isc = G'.isc
  exc : EO M G.exc G'.exc
  clx : ∀ f N S T (c d : Exc), SAl N S T → c.cls = d.cls → OR N c.at_ d.at_ → RR N DR (G.clx f c S) (G'.clx f d T)
theorem EO.mono {a b : Option Exc} (l : Le M N) (h : EO M a b) : EO N a b := by
  rcases h with h | ⟨c, d, h1, h2, h3, h4⟩
  · exact .inl h
  · exact .inr ⟨c, d, h1, h2, h3, h4.mono l⟩
variable {G G' : Cxt}
theorem CXr.mono (l : Le M N) (h : CXr M G G') : CXr N G G' := ⟨h.cl, h.glo, h.fuel, h.sub, h.isc, h.exc.mono l, h.clx⟩
def SS (M : AM) : SR → SR → Prop
  | .bad, _ => True
  | .nx e S, .nx f T => ∃ N, Le M N ∧ SAl N S T ∧ VR N e f
  | .ret d S, .ret d' T => ∃ N, Le M N ∧ SAl N S T ∧ DR N d d'
  | .brk e S, .brk f T => ∃ N, Le M N ∧ SAl N S T ∧ VR N e f
  | .exc c e S, .exc d f T => ∃ N, Le M N ∧ SAl N S T ∧ VR N e f ∧ c.cls = d.cls ∧ OR N c.at_ d.at_
  | _, _ => False
theorem SS.lift (l : Le M N) {r s : SR} (h : SS N r s) : SS M r s := by
  cases r <;> cases s <;> first | trivial | exact h.elim | skip
  · obtain ⟨K, l1, q⟩ := h; exact ⟨K, l.trans l1, q⟩
  · obtain ⟨K, l1, q⟩ := h; exact ⟨K, l.trans l1, q⟩
  · obtain ⟨K, l1, q⟩ := h; exact ⟨K, l.trans l1, q⟩
  · obtain ⟨K, l1, q⟩ := h; exact ⟨K, l.trans l1, q⟩
theorem SS.nx (h : SAl M S T) (v : VR M e f) : SS M (.nx e S) (.nx f T) := ⟨M, Le.refl, h, v⟩
theorem SS.ret (h : SAl M S T) (r : DR M x y) : SS M (.ret x S) (.ret y T) := ⟨M, Le.refl, h, r⟩
theorem RR.toS {α β : Type} {Q : AM → α → β → Prop} {r : R α} {s : R β} {k : α → Store → SR} {l : β → Store → SR} (h : RR M Q r s) (v : VR M e f)
    (hk : ∀ N a b S T, Le M N → SAl N S T → Q N a b → SS N (k a S) (l b T)) : SS M (r.toS e k) (s.toS f l) := by
  cases r <;> cases s <;> first | trivial | exact h.elim | skip
  · obtain ⟨N, le, h1, h2⟩ := h
    exact (hk N _ _ _ _ le h1 h2).lift le
  · obtain ⟨N, le, h1, h2, h3⟩ := h
    exact ⟨N, le, h1, v.mono le, h2, h3⟩
theorem RR.lift {α β : Type} {Q : AM → α → β → Prop} (l : Le M N) {r : R α} {s : R β} (h : RR N Q r s) : RR M Q r s := by
  cases r <;> cases s <;> first | trivial | exact h.elim | skip
  · obtain ⟨K, l1, q⟩ := h; exact ⟨K, l.trans l1, q⟩
  · obtain ⟨K, l1, q⟩ := h; exact ⟨K, l.trans l1, q⟩
theorem RR.bindX {α β γ δ : Type} {Q : AM → α → β → Prop} {P : AM → γ → δ → Prop} {r : R α} {s : R β} {k : α → Store → R γ} {l : β → Store → R δ} (h : RR M Q r s)
    (hk : ∀ N a b S T, Le M N → SAl N S T → Q N a b → RR N P (k a S) (l b T)) : RR M P (r.bindX k) (s.bindX l) := by
  cases r <;> cases s <;> first | trivial | exact h.elim | skip
  · obtain ⟨N, le, h1, h2⟩ := h
    exact (hk N _ _ _ _ le h1 h2).lift le
end
mutual
def flD : D → Bool
  | .ref _ => false
  | .tup xs => flDs xs
  | .frl xs => flDs xs
  | .frt xs => flDs xs
  | _ => true
def flDs : List D → Bool
  | [] => true
  | x :: xs => flD x && flDs xs
end
mutual
theorem flD_al (N : AM) : ∀ d, flD d = true → DR N d d
  | .non, _ => .non
  | .bl b, _ => .bl b
  | .int i, _ => .int i
  | .str s, _ => .str s
  | .tup xs, h => .tup (flDs_al N xs (by simpa only [flD] using h))
  | .frl xs, h => .frl (flDs_al N xs (by simpa only [flD] using h))
  | .frt xs, h => .frt (flDs_al N xs (by simpa only [flD] using h))
  | .ref n, h => by simp only [flD] at h; cases h
theorem flDs_al (N : AM) : ∀ ds, flDs ds = true → DRs N ds ds
  | [], _ => .nil
  | x :: xs, h => by
    simp only [flDs, Bool.and_eq_true] at h
    exact .cons (flD_al N x h.1) (flDs_al N xs h.2)
end
/-- flat values -/
theorem eqv_self {S : Store} : ∀ (n : Nat) (d : D) (p : PyData), toP S n d = some p → PyData.eqv p p = true
  | 0, d, p, h => by simp [toP] at h
  | n + 1, d, p, h => by
    have ls : ∀ {xs : List D} {ps : List PyData}, mapO (toP S n) xs = some ps → PyData.eqvAll ps ps = true := fun {xs} => by
      induction xs with
      | nil => intro ps h; simp only [mapO, Option.some.injEq] at h; subst h; simp [PyData.eqvAll]
      | cons x xs ih =>
        intro ps h
        simp only [mapO] at h
        cases e1 : toP S n x with
        | none => rw [e1] at h; cases h
        | some a =>
          cases e2 : mapO (toP S n) xs with
          | none => rw [e1, e2] at h; cases h
          | some as =>
            rw [e1, e2] at h
            cases h
            simp only [PyData.eqvAll, eqv_self n x a e1, ih e2, Bool.and_self]
    have sq : ∀ {xs : List D} {f : List PyData → PyData}, (f = PyData.list ∨ f = PyData.tuple) → (mapO (toP S n) xs).map f = some p → PyData.eqv p p = true := fun {xs f} hf h => by
      rw [Option.map_eq_some_iff] at h
      obtain ⟨ps, h1, rfl⟩ := h
      rcases hf with rfl | rfl <;> simp only [PyData.eqv, ls h1]
    cases d with
    | non => simp only [toP, Option.some.injEq] at h; subst h; simp [PyData.eqv]
    | bl b => simp only [toP, Option.some.injEq] at h; subst h; simp [PyData.eqv]
    | int i => simp only [toP, Option.some.injEq] at h; subst h; simp [PyData.eqv]
    | str s =>
      simp only [toP] at h
      split at h
      · cases h; simp [PyData.eqv]
      · cases h
    | tup xs => simp only [toP] at h; exact sq (.inr rfl) h
    | frl xs => simp only [toP] at h; exact sq (.inl rfl) h
    | frt xs => simp only [toP] at h; exact sq (.inr rfl) h
    | ref r =>
      simp only [toP] at h
      split at h
      · exact sq (.inl rfl) h
      · cases h
/-- what a def tells of a list and flat values, as plain data -/
def canP (P : Prog) (F K : Nat) (f : Str) (xs args : List D) : Option PyData := match callN P F K f (.ref 0 :: args) [.lst xs] with
  | .ok a S => toP S 12 a
  | _ => none
/-- an item of what it tells -/
def canI (P : Prog) (F K : Nat) (f : Str) (xs args : List D) (i : Nat) : Option PyData := match callN P F K f (.ref 0 :: args) [.lst xs] with
  | .ok (.tup ds) S => (ds[i]?).bind fun d => toP S 12 d
  | _ => none
end Lt
set_option maxRecDepth 100000
set_option maxHeartbeats 2000000
namespace Lt
set_option exponentiation.threshold 9000
open PySem (Str)
open L2 (Key)
open LawT
def entK (e : Ent) : Key × D := (.inl e.1, valD e.2)
def KUp (R : List Ent) : Prop := R.Pairwise fun a c => a.1 < c.1
/-- no two of one moment -/
def KNd (es : List Ent) : Prop := (es.map (·.1)).Nodup
section
variable {es R : List Ent} {m : Int} {v : Option Rat}
theorem KUp.nd (h : KUp R) : KNd R := by
  unfold KNd
  rw [List.nodup_iff_pairwise_ne, List.pairwise_map]
  exact h.imp fun {a c} z => by omega
end
def untD : Option Int → D
  | none => .non
  | some m => .int m
def kpFs (a b c d e : D) : List (Str × D) := [("way", a), ("bound", b), ("entries", c), ("until", d), ("ended", e)]
structure KpO (S : Store) (n d : Nat) (w : Way) (q : Rat) (R : List Ent) (u : Option Int) (en : Bool) : Prop where
  fs : getI S n = some (("Keeper" : Str), kpFs (wayD w) (rD q) (.ref d) (untD u) (.bl en))
  ds : ∃ es : List Ent, getK S d = some (es.map entK) ∧ es.Perm R
  up : KUp R
  l : R.length ≤ 40
theorem getI_neK {S : Store} {p q : Nat} {x : Str × List (Str × D)} {kvs : List (Key × D)} (h : getI S p = some x) (h2 : getK S q = some kvs) : p ≠ q := by
  intro z
  subst z
  have e := getK_e h2
  unfold getI at h
  rw [e] at h
  cases h
section
variable {S S' : Store} {n d : Nat} {w : Way} {q : Rat} {R : List Ent} {u : Option Int} {en : Bool} {W : List Nat} {a b c x e v : D}
theorem KpO.nd (o : KpO S n d w q R u en) : n ≠ d := by
  obtain ⟨es, h, _⟩ := o.ds
  exact getI_neK o.fs h
theorem KpO.lt (o : KpO S n d w q R u en) : n < S.length ∧ d < S.length := by
  obtain ⟨es, h, _⟩ := o.ds
  exact ⟨getI_lt o.fs, getK_lt h⟩
theorem KpO.fr (o : KpO S n d w q R u en) (f : Fr W S S') (h1 : n ∉ W) (h2 : d ∉ W) : KpO S' n d w q R u en := by
  obtain ⟨es, h, p⟩ := o.ds
  exact ⟨f.getI o.fs h1, ⟨es, f.getK h h2, p⟩, o.up, o.l⟩
theorem KpO.ext (o : KpO S n d w q R u en) (f : Ext S S') : KpO S' n d w q R u en := o.fr (W := []) (Fr.of f) (by simp) (by simp)
end
end Lt
set_option maxRecDepth 100000
set_option maxHeartbeats 2000000
namespace Lt
set_option exponentiation.threshold 9000
open PySem (Str)
open L2 (Key)
open LawT
/-- the pieces that are sure -/
def SuI (w : Way) (R : List Ent) (q : Rat) (u : Option Int) (en : Bool) (ds : List D) : Prop := if en = true then isTel w (sruns R) q ds else match u with
  | none => ds = []
  | some m => isSure w R q m ds
theorem flD_rat (q : Rat) : flD (rD q) = true := rfl
/-- what settle and close leave -/
def SlR (S S' : Store) (x : D) (n d : Nat) (w : Way) (q : Rat) (R : List Ent) (u u' : Option Int) (en en' : Bool) : Prop := Fr [n] S S' ∧ KpO S' n d w q R u' en' ∧ ∃ te d1 d2, x = .ref te ∧ S.length ≤ te ∧ SuI w R q u en d1 ∧ SuI w R q u' en' d2 ∧ getL S' te = some (d2.drop d1.length) ∧ d2.length ≤ 24000
/-- the answer of few, as plain data -/
noncomputable def fewP (P : Prog) (F K : Nat) (w : Way) (q : Rat) (R : List Ent) (u : Option Int) (en : Bool) : Option PySem.PyData := if en = true then some (.tuple [.int (cntW w (sruns R) q), .none]) else match u with
  | none => some (.tuple [.int 0, .none])
  | some m => canP P F K "few_certain" (R.map entD) [wayD w, rD q, .int m]
end Lt
set_option maxRecDepth 100000
set_option maxHeartbeats 2000000
namespace Lt
set_option exponentiation.threshold 9000
open PySem (Str)
open L2 (Key)
open LawT
theorem toP_keep {S S' : Store} (hk : ∀ r xs, getL S r = some xs → getL S' r = some xs) : ∀ (n : Nat) (d : D) (p : PySem.PyData), toP S n d = some p → toP S' n d = some p
  | 0, d, p, h => by simp [toP] at h
  | n + 1, d, p, h => by
    have ls : ∀ {xs : List D} {ps : List PySem.PyData}, mapO (toP S n) xs = some ps → mapO (toP S' n) xs = some ps := fun {xs} => by
      induction xs with
      | nil => intro ps h; exact h
      | cons x xs ih =>
        intro ps h
        simp only [mapO] at h ⊢
        cases e1 : toP S n x with
        | none => rw [e1] at h; cases h
        | some a =>
          cases e2 : mapO (toP S n) xs with
          | none => rw [e1, e2] at h; cases h
          | some as =>
            rw [e1, e2] at h
            rw [toP_keep hk n x a e1, ih e2]
            exact h
    have sq : ∀ {xs : List D} {f : List PySem.PyData → PySem.PyData}, (mapO (toP S n) xs).map f = some p → (mapO (toP S' n) xs).map f = some p := fun {xs f} h => by
      rw [Option.map_eq_some_iff] at h ⊢
      obtain ⟨ps, h1, h2⟩ := h
      exact ⟨ps, ls h1, h2⟩
    cases d with
    | non => exact h
    | bl b => exact h
    | int i => exact h
    | str s => simp only [toP] at h ⊢; exact h
    | tup xs => simp only [toP] at h ⊢; exact sq h
    | frl xs => simp only [toP] at h ⊢; exact sq h
    | frt xs => simp only [toP] at h ⊢; exact sq h
    | ref r =>
      simp only [toP] at h ⊢
      cases e : getL S r with
      | none => rw [e] at h; cases h
      | some xs =>
        rw [e] at h
        rw [hk r xs e]
        exact sq h
theorem toP_ext {S S' : Store} (e : Ext S S') {n : Nat} {d : D} {p : PySem.PyData} (h : toP S n d = some p) : toP S' n d = some p := toP_keep (fun r xs h => e.getL h) n d p h
theorem eqD_toP {S : Store} {x y : D} {p : PySem.PyData} (h1 : toP S 12 x = some p) (h2 : toP S 12 y = some p) : eqD S x y = some true := by
  unfold eqD
  rw [h1, h2]
  simp only [eqv_self 12 x p h1]
/-- flat values that are plain data -/
def Pln (ds : List D) : Prop := ∀ d ∈ ds, flD d = true ∧ (toP [] 11 d).isSome = true
theorem flat_toP {S : Store} {n : Nat} {d : D} (h : flD d = true) : toP S n d = toP [] n d := toP_al (M := fun _ _ => False) ⟨fun _ _ h => h.elim, fun _ _ _ h => h.elim, fun _ _ _ h => h.elim⟩ n (flD_al _ d h)
theorem Pln.toP {ds : List D} (h : Pln ds) : ∃ ps, ∀ S : Store, mapO (toP S 11) ds = some ps := by
  induction ds with
  | nil => exact ⟨[], fun S => rfl⟩
  | cons d ds ih =>
    obtain ⟨ps, ih⟩ := ih fun x hx => h x (by simp [hx])
    obtain ⟨h1, h2⟩ := h d (by simp)
    obtain ⟨p, hp⟩ := Option.isSome_iff_exists.mp h2
    refine ⟨p :: ps, fun S => ?_⟩
    simp only [mapO, ih S]
    rw [flat_toP h1, hp]
theorem eqD_pln {S : Store} {a b : Nat} {ds : List D} (h : Pln ds) (ha : getL S a = some ds) (hb : getL S b = some ds) : eqD S (.ref a) (.ref b) = some true := by
  obtain ⟨ps, hp⟩ := h.toP
  have key : ∀ a, getL S a = some ds → toP S 12 (.ref a) = some (.list ps) := fun a ha => by
    show (match getL S a with
      | some xs => (mapO (toP S 11) xs).map PySem.PyData.list
      | none => none) = _
    rw [ha]
    simp only [hp S]
    rfl
  exact eqD_toP (key a ha) (key b hb)
theorem pln_rats {xs : List Rat} : (toP [] 11 (.tup (xs.map rD))).isSome = true ∧ flD (.tup (xs.map rD)) = true := by
  have h1 : ∃ ps, mapO (toP [] 10) (xs.map rD) = some ps := by
    induction xs with
    | nil => exact ⟨[], rfl⟩
    | cons x xs ih =>
      obtain ⟨ps, ih⟩ := ih
      exact ⟨raP x :: ps, by simp only [List.map_cons, mapO, rD_P [] 8, ih]⟩
  have h2 : flDs (xs.map rD) = true := by
    induction xs with
    | nil => rfl
    | cons x xs ih =>
      rw [List.map_cons]
      simp only [flDs, flD_rat]
      simp
      exact ih (by
        obtain ⟨ps, h1⟩ := h1
        simp only [List.map_cons, mapO, rD_P [] 8] at h1
        cases e : mapO (toP [] 10) (xs.map rD) with
        | none => rw [e] at h1; cases h1
        | some ps => exact ⟨ps, rfl⟩)
  obtain ⟨ps, h1⟩ := h1
  refine ⟨?_, ?_⟩
  · show ((mapO (toP [] 10) (xs.map rD)).map PySem.PyData.tuple).isSome = true
    rw [h1]; rfl
  · simp only [flD]; exact h2
theorem pln_p4 (p : P4) : flD (p4D p) = true ∧ (toP [] 11 (p4D p)).isSome = true := ⟨(pln_rats (xs := [p.1, p.2.1, p.2.2.1, p.2.2.2])).2, (pln_rats (xs := [p.1, p.2.1, p.2.2.1, p.2.2.2])).1⟩
theorem pln_pc (p : Pc) : flD (pcD p) = true ∧ (toP [] 11 (pcD p)).isSome = true := ⟨(pln_rats (xs := [(p.1.1 : Rat), p.1.2, (p.2.1 : Rat), p.2.2])).2, (pln_rats (xs := [(p.1.1 : Rat), p.1.2, (p.2.1 : Rat), p.2.2])).1⟩
theorem isTel.pln {w : Way} {rss : List (List Smp)} {q : Rat} {ds : List D} (h : isTel w rss q ds) : Pln ds := by
  have a4 : ∀ l : List P4, Pln (l.map p4D) := fun l d hd => by
    obtain ⟨p, _, rfl⟩ := List.mem_map.mp hd
    exact pln_p4 p
  have ac : ∀ l : List Pc, Pln (l.map pcD) := fun l d hd => by
    obtain ⟨p, _, rfl⟩ := List.mem_map.mp hd
    exact pln_pc p
  cases w with
  | apart => obtain ⟨tel, rfl, _⟩ := h; exact a4 _
  | joined => rw [show ds = _ from h]; exact a4 _
  | spans => rw [show ds = _ from h]; exact ac _
  | chain => rw [show ds = _ from h]; exact ac _
theorem isSure.pln {w : Way} {es : List Ent} {q : Rat} {m : Int} {ds : List D} (h : isSure w es q m ds) : Pln ds := by
  obtain ⟨d1, d2, a1, a2, rfl⟩ := h
  intro d hd
  rcases List.mem_append.mp hd with z | z
  · exact a1.pln d z
  · cases w with
    | apart => exact (a2 rfl).pln d (List.mem_of_mem_take z)
    | joined => exact (a2 rfl).pln d (List.mem_of_mem_take z)
    | spans => cases z
    | chain => cases z
theorem SuI.pln {w : Way} {R : List Ent} {q : Rat} {u : Option Int} {en : Bool} {ds : List D} (h : SuI w R q u en ds) : Pln ds := by
  unfold SuI at h
  split at h
  · exact h.pln
  · split at h
    · subst h; intro d hd; cases hd
    · exact h.pln
theorem SuI.uniq {w : Way} {R : List Ent} {q : Rat} {u : Option Int} {en : Bool} {ds ds' : List D} (hR : RowE R) (h : SuI w R q u en ds) (h' : SuI w R q u en ds') : ds = ds' := by
  unfold SuI at h h'
  cases en with
  | true => exact isTel.uniq (rowE_runsB hR) h h'
  | false =>
    cases u with
    | none =>
      have a : ds = [] := h
      have b : ds' = [] := h'
      rw [a, b]
    | some m => exact isSure.uniq hR h h'
theorem Pln.drop {ds : List D} (h : Pln ds) (k : Nat) : Pln (ds.drop k) := fun d hd => h d (List.mem_of_mem_drop hd)
/-- the answers to a question -/
def AnsR (P : Prog) (F K : Nat) (a : Nat) (w : Way) (q : Rat) (R : List Ent) (u : Option Int) (en : Bool) (S : Store) (x : D) : Prop := match a with
  | 0 => ∃ te ds, x = .ref te ∧ getL S te = some ds ∧ isTel w (sruns R) q ds
  | 1 => toP S 12 x = canI P F K "fewest" (R.map entD) [wayD w, rD q] 1 ∧ (toP S 12 x).isSome = true
  | 2 => x = .int (cntW w (sruns R) q)
  | 3 => ∃ te ds, x = .ref te ∧ getL S te = some ds ∧ SuI w R q u en ds
  | _ => toP S 12 x = fewP P F K w q R u en ∧ (toP S 12 x).isSome = true
theorem AnsR.eq {P : Prog} {F K a : Nat} {w : Way} {q : Rat} {R : List Ent} {u : Option Int} {en : Bool} {S S' : Store} {x y : D} (hR : RowE R) (h : AnsR P F K a w q R u en S x) (e : Ext S S') (h' : AnsR P F K a w q R u en S' y) : eqD S' y x = some true := by
  have pd : ∀ {o : Option PySem.PyData}, toP S 12 x = o → (toP S 12 x).isSome = true → toP S' 12 y = o → eqD S' y x = some true := fun {o} h1 h2 h3 => by
    obtain ⟨p, hp⟩ := Option.isSome_iff_exists.mp h2
    rw [hp] at h1
    subst h1
    exact eqD_toP h3 (toP_ext e hp)
  match a, h, h' with
  | 0, h, h' =>
    obtain ⟨te, ds, rfl, g1, t1⟩ := h
    obtain ⟨te', ds', rfl, g2, t2⟩ := h'
    have := t1.uniq (rowE_runsB hR) t2
    subst this
    exact eqD_pln t1.pln g2 (e.getL g1)
  | 1, h, h' => exact pd h.1 h.2 h'.1
  | 2, h, h' =>
    have h : x = _ := h
    have h' : y = _ := h'
    rw [h, h', eqD_int]; simp
  | 3, h, h' =>
    obtain ⟨te, ds, rfl, g1, t1⟩ := h
    obtain ⟨te', ds', rfl, g2, t2⟩ := h'
    have := t1.uniq hR t2
    subst this
    exact eqD_pln t1.pln g2 (e.getL g1)
  | n + 4, h, h' => exact pd h.1 h.2 h'.1
end Lt
set_option maxRecDepth 100000
set_option maxHeartbeats 2000000
namespace Lt
set_option exponentiation.threshold 9000
open PySem (Str)
open L2 (Key)
open LawT
end Lt
namespace Lt
open PySem (Str)
open L2 (Key)
open LawT
inductive Dw where | put | fit | gap | mend | mtch | strike | settle | close
deriving DecidableEq
def ownK (a : Nat) (u : Option Int) (en : Bool) : List (Key × D) := [(.inr "at", .ref a), (.inr "until", untD u), (.inr "ended", .bl en)]
structure OwnO (S : Store) (p a : Nat) (R : List Ent) (u : Option Int) (en : Bool) : Prop where
  top : getK S p = some (ownK a u en)
  es : ∃ es : List Ent, getK S a = some (es.map entK) ∧ es.Perm R
  up : KUp R
  l : R.length ≤ 40
  ne : p ≠ a
section
variable {P : Prog} {F k : Nat} {S S' : Store} {E : XP} {p a : Nat} {R : List Ent} {u : Option Int} {en : Bool} {c : Dw} {m t b : Int} {W : List Nat}
theorem OwnO.fr (o : OwnO S p a R u en) (f : Fr W S S') (h1 : p ∉ W) (h2 : a ∉ W) : OwnO S' p a R u en := by
  obtain ⟨es, hk, q⟩ := o.es
  exact ⟨f.getK o.top h1, ⟨es, f.getK hk h2, q⟩, o.up, o.l, o.ne⟩
theorem OwnO.ext (o : OwnO S p a R u en) (f : Ext S S') : OwnO S' p a R u en := o.fr (W := []) (Fr.of f) (by simp) (by simp)
theorem OwnO.lt (o : OwnO S p a R u en) : p < S.length ∧ a < S.length := by
  obtain ⟨es, hk, q⟩ := o.es
  exact ⟨getK_lt o.top, getK_lt hk⟩
end
end Lt
set_option maxRecDepth 100000
set_option maxHeartbeats 2000000
namespace Lt
set_option exponentiation.threshold 9000
open PySem (Str)
open L2 (Key)
open LawT
def tq3 (t : T3) : PySem.PyData := .tuple [.int t.1, .int t.2.1, .int t.2.2]
def papQ (os : List (List Nat × List T3)) : PySem.PyData := .list (os.map fun r => .tuple [.list (r.1.map fun n : Nat => PySem.PyData.int n), .list (r.2.map tq3)])
theorem toP_lst {S : Store} {n r : Nat} {xs : List D} {ps : List PySem.PyData} (g : getL S r = some xs) (hp : mapO (toP S n) xs = some ps) : toP S (n + 1) (.ref r) = some (.list ps) := by
  show (match getL S r with
    | some xs => (mapO (toP S n) xs).map PySem.PyData.list
    | none => none) = _
  rw [g]
  simp only [hp]
  rfl
theorem pap_toP {S : Store} {f m : Nat} : ∀ {ps : List (Nat × Nat)} {os : List (List Nat × List T3)}, getL S f = some (ps.map papD) → PaP S ps os → toP S (m + 6) (.ref f) = some (papQ os) := fun {ps os} g h => by
  have th : ∀ (n : Nat) (l : List T3), mapO (toP S (n + 2)) (l.map thD) = some (l.map tq3) := fun n l => by
    induction l with
    | nil => rfl
    | cons t l ih =>
      simp only [List.map_cons, mapO]
      rw [ih]
      simp [toP, thD, tq3, mapO]
  have ni : ∀ (n : Nat) (l : List Nat), mapO (toP S (n + 1)) (l.map nD) = some (l.map fun n : Nat => PySem.PyData.int n) := fun n l => by
    induction l with
    | nil => rfl
    | cons t l ih =>
      simp only [List.map_cons, mapO]
      rw [ih]
      simp [toP, nD]
  refine toP_lst g ?_
  clear g
  induction ps generalizing os with
  | nil => cases os with
    | nil => rfl
    | cons r os => exact h.elim
  | cons p ps ih =>
    cases os with
    | nil => exact h.elim
    | cons r os =>
      obtain ⟨⟨h1, h2⟩, h3⟩ := h
      have f1 := toP_lst h1 (ni (m + 2) r.1)
      have f2 := toP_lst h2 (th (m + 1) r.2)
      simp only [List.map_cons, mapO]
      rw [ih h3]
      have : toP S (m + 5) (papD p) = some (.tuple [.list (r.1.map fun n : Nat => PySem.PyData.int n), .list (r.2.map tq3)]) := by
        show (mapO (toP S (m + 4)) [.ref p.1, .ref p.2]).map PySem.PyData.tuple = _
        simp only [mapO, f1, f2]
        rfl
      rw [this]
theorem pap_get {S : Store} : ∀ {ps : List (Nat × Nat)} {os : List (List Nat × List T3)} {i : Nat} {p : Nat × Nat}, PaP S ps os → ps[i]? = some p → ∃ r, os[i]? = some r ∧ getL S p.1 = some (r.1.map nD) ∧ getL S p.2 = some (r.2.map thD)
  | [], _, i, p, _, h => by simp at h
  | p0 :: ps, [], i, p, h, _ => h.elim
  | p0 :: ps, r :: os, 0, p, h, hp => by
    simp at hp
    subst hp
    exact ⟨r, rfl, h.1⟩
  | p0 :: ps, r :: os, i + 1, p, h, hp => by
    obtain ⟨r', a, b⟩ := pap_get (i := i) (p := p) h.2 (by simpa using hp)
    exact ⟨r', by simpa using a, b⟩
/-- both lists stay alike, whatever is written to W -/
def TwR (S : Store) (f g : Nat) (W : List Nat) : Prop := f ∉ W ∧ g ∉ W ∧ ((∃ ds, Pln ds ∧ getL S f = some ds ∧ getL S g = some ds) ∨ ∃ ps ps' os, getL S f = some (ps.map papD) ∧ getL S g = some (ps'.map papD) ∧ PaP S ps os ∧ PaP S ps' os ∧ ∀ p ∈ ps ++ ps', p.1 ∉ W ∧ p.2 ∉ W)
theorem pap_some {S : Store} : ∀ {ps : List (Nat × Nat)} {os : List (List Nat × List T3)}, PaP S ps os → ∀ p ∈ ps, getL S p.1 ≠ none ∧ getL S p.2 ≠ none := fun {ps os} h p hp => by
  obtain ⟨i, hi⟩ := List.getElem?_of_mem hp
  obtain ⟨r, _, a, b⟩ := pap_get h hi
  rw [a, b]; simp
theorem TwR.fr {S S' : Store} {f g : Nat} {W W' : List Nat} (h : TwR S f g W) (e : Fr W' S S') (hw : ∀ r ∈ W', r ∈ W ∨ getL S r = none) : TwR S' f g W := by
  have kp : ∀ {p : Nat} {xs : List D}, getL S p = some xs → p ∉ W → getL S' p = some xs := fun {p xs} hg hn => e.getL hg fun z => by
    rcases hw _ z with z | z
    · exact hn z
    · rw [hg] at z; cases z
  obtain ⟨h1, h2, h3⟩ := h
  refine ⟨h1, h2, ?_⟩
  rcases h3 with ⟨ds, a, b, c⟩ | ⟨ps, ps', os, a, b, c, d, l⟩
  · exact .inl ⟨ds, a, kp b h1, kp c h2⟩
  · have nw : ∀ {ps : List (Nat × Nat)}, PaP S ps os → (∀ p ∈ ps, p.1 ∉ W ∧ p.2 ∉ W) → PaP S' ps os := fun {ps} hp hn => hp.fr e fun p hp' => by
      have s := pap_some hp p hp'
      have n := hn p hp'
      refine ⟨fun z => ?_, fun z => ?_⟩
      · rcases hw _ z with z | z
        · exact n.1 z
        · exact s.1 z
      · rcases hw _ z with z | z
        · exact n.2 z
        · exact s.2 z
    exact .inr ⟨ps, ps', os, kp a h1, kp b h2, nw c fun p hp => l p (by simp [hp]), nw d fun p hp => l p (by simp [hp]), l⟩
theorem TwR.eq {S : Store} {f g : Nat} {W : List Nat} (h : TwR S f g W) : eqD S (.ref f) (.ref g) = some true := by
  obtain ⟨_, _, ⟨ds, a, b, c⟩ | ⟨ps, ps', os, a, b, c, d, _⟩⟩ := h
  · exact eqD_pln a b c
  · exact eqD_toP (pap_toP (m := 6) a c) (pap_toP (m := 6) b d)
end Lt
set_option maxRecDepth 100000
set_option maxHeartbeats 2000000
namespace Lt
set_option exponentiation.threshold 9000
open PySem (Str)
open LawT
end Lt
set_option maxRecDepth 100000
set_option maxHeartbeats 2000000
namespace Lt
set_option exponentiation.threshold 9000
open PySem (Str)
open LawT
def hgtQ (p : P4) (t : Rat) : Rat := if p.1 = p.2.2.1 then p.2.1 else p.2.1 + (p.2.2.2 - p.2.1) * ((t - p.1) / (p.2.2.1 - p.1))
def Sz4 (n : Nat) (p : P4) : Prop := Sz n p.1 ∧ Sz n p.2.1 ∧ Sz n p.2.2.1 ∧ Sz n p.2.2.2
theorem sz_hgt {p : P4} {t : Rat} {n : Nat} (h : Sz4 n p) (ht : Sz n t) : Sz (7 * n + 10) (hgtQ p t) := by
  unfold hgtQ
  split
  · exact h.2.1.mono (by omega)
  · exact (sz_add h.2.1 (sz_mul (sz_sub h.2.2.2 h.2.1) (sz_div (sz_sub ht h.1) (sz_sub h.2.2.1 h.1)))).mono (by omega)
structure HJu (P : Prog) (F : Nat) : Prop extends HS P where
  big : BIG ≤ F
  order : P.defs.lookup ("order" : Str) = some a_order
  size : P.defs.lookup ("size" : Str) = some a_size
  pat : Has P "place_at" 2 4 b_place_at
  hof : Has P "height_of" 2 7 b_height_of
  ons : Has P "on_samples" 2 9 b_on_samples
  rms : Has P "run_miss" 2 8 b_run_miss
section
variable {P : Prog} {F k : Nat} {S : Store} {E : XP}
theorem height_of_wp (h : HJu P F) {p : P4} {t : Rat} {n : Nat} (hp : Sz4 n p) (ht : Sz n t) (hn : n ≤ 1000) :
    Wp (callN P F (k + 4) "height_of" [p4D p, rD t] S) E fun x S' => S' = S ∧ x = rD (hgtQ p t) := by
  apply wp_has h.hof rfl
  simp only [b_height_of]
  obtain ⟨h1, h2, h3, h4⟩ := hp
  by_cases e : p.1 = p.2.2.1
  · simp [wpx, wpo, wps, p4_seq, eqD_rD, e, hgtQ]
  · have ne : p.2.2.1 - p.1 ≠ 0 := by grind
    have s1 := sz_sub ht h1
    have s2 := sz_sub h3 h1
    have s3 := sz_div s1 s2
    have s4 := sz_sub h4 h2
    have s5 := sz_mul s4 s3
    simp [wpx, wpo, wps, p4_seq, eqD_rD, e, hgtQ]
    refine (minus_wp h.toHR h.minus ht h1 (by omega) h.big).imp ?_
    rintro x S1 ⟨rfl, rfl⟩
    try simp [wpx, wpo, wps]
    refine (minus_wp h.toHR h.minus h3 h1 (by omega) h.big).imp ?_
    rintro x S1 ⟨rfl, rfl⟩
    try simp [wpx, wpo, wps]
    refine (over_wp h.toHR h.over s1 s2 ne (by omega) h.big).imp ?_
    rintro x S1 ⟨rfl, rfl⟩
    try simp [wpx, wpo, wps]
    refine (minus_wp h.toHR h.minus h4 h2 (by omega) h.big).imp ?_
    rintro x S1 ⟨rfl, rfl⟩
    try simp [wpx, wpo, wps]
    refine (times_wp h.toHR h.times s4 s3 (by omega) h.big).imp ?_
    rintro x S1 ⟨rfl, rfl⟩
    try simp [wpx, wpo, wps]
    refine (plus_wp h.toHR h.plus h2 s5 (by omega) h.big).imp ?_
    rintro x S1 ⟨rfl, rfl⟩
    try simp [wpx, wpo, wps]
/-- the place of the first sample at a moment, or -1 -/
def patF (ts : List Smp) (t : Rat) : Int := if ts.findIdx (fun s => decide (t = (s.1 : Rat))) < ts.length then (ts.findIdx (fun s => decide (t = (s.1 : Rat))) : Int) else -1
theorem place_at_wp (h : HJu P F) {r : Nat} {ts : List Smp} {t : Rat} (hr : getL S r = some (ts.map smpD)) (hl : ts.length ≤ 1000) :
    Wp (callN P F (k + 1) "place_at" [.ref r, rD t] S) E fun x S' => S' = S ∧ x = .int (patF ts t) := by
  apply wp_has h.pat rfl
  simp only [b_place_at]
  simp [wpx, wpo, wps]
  refine for_lst (xs := ts.map smpD) (fun i e S2 => S2 = S ∧ (∃ x2 x3, e = [some (.ref r), some (rD t), x2, x3]) ∧ i ≤ ts.findIdx (fun s => decide (t = (s.1 : Rat)))) (fun i hi => hi) (by rw [lstOf_ref]; exact hr) ⟨rfl, ⟨_, _, rfl⟩, by omega⟩ ?_ ?_
  · rintro i y e S2 hy hi ⟨rfl, ⟨x2, x3, rfl⟩, hle⟩
    obtain ⟨c, hc, rfl⟩ := map_get hy
    have hil := (List.getElem?_eq_some_iff.mp hc).1
    refine ⟨by rw [lstOf_ref]; exact hr, _, bind_two (by simp), ?_⟩
    have e1 : eqD S2 (rD t) (.tup [.int c.1, .int 1]) = some (decide (t = (c.1 : Rat))) := by
      rw [rD_int]; exact eqD_rD
    simp [wpx, wpo, wps, smp_seq, e1]
    have hg := (List.getElem?_eq_some_iff.mp hc).2
    by_cases k1 : t = (c.1 : Rat)
    · have : ts.findIdx (fun s => decide (t = (s.1 : Rat))) = i := by
        rw [List.findIdx_eq hil]
        refine ⟨by rw [hg]; simpa using k1, fun j hj => ?_⟩
        have := List.not_of_lt_findIdx (xs := ts) (p := fun s => decide (t = (s.1 : Rat))) (i := j) (by omega)
        simpa using this
      simp [wpx, wpo, wps, k1]
      unfold patF
      rw [← k1, this, if_pos hil]
    · have : ts.findIdx (fun s => decide (t = (s.1 : Rat))) ≠ i := fun z => by
        have := List.findIdx_getElem (xs := ts) (p := fun s => decide (t = (s.1 : Rat))) (w := by omega)
        simp only [z, hg] at this
        exact k1 (by simpa using this)
      simp [wpx, wpo, wps, k1]
      omega
  · rintro e S2 ⟨rfl, ⟨x2, x3, rfl⟩, hle⟩
    refine ⟨by rw [lstOf_ref]; exact hr, ?_⟩
    simp at hle
    simp [wpx, wpo, wps]
    unfold patF
    rw [if_neg (by omega)]
/-- the piece that has a moment: the first one that does not end ahead of it -/
def pcAt (ps : List P4) (t : Rat) : Nat := ps.findIdx (fun p => decide (t ≤ p.2.2.1))
def z4 : P4 := (0, 0, 0, 0)
def farQ (ps : List P4) (s : Smp) : Rat := absQ (s.2 - hgtQ (ps.getD (pcAt ps (s.1 : Rat)) z4) (s.1 : Rat))
def upQ (w x : Rat) : Rat := if w < x then x else w
def missQ (ps : List P4) (ts : List Smp) : Rat := ts.foldl (fun w s => upQ w (farQ ps s)) 0
theorem pcAt_mono {ps : List P4} {t t' : Rat} (h : t ≤ t') : pcAt ps t ≤ pcAt ps t' := by
  unfold pcAt
  by_cases hl : ps.findIdx (fun p => decide (t' ≤ p.2.2.1)) < ps.length
  · have g := List.findIdx_getElem (xs := ps) (p := fun p => decide (t' ≤ p.2.2.1)) (w := hl)
    have g1 : t' ≤ (ps[ps.findIdx (fun p => decide (t' ≤ p.2.2.1))]).2.2.1 := by simpa using g
    refine Nat.le_of_not_lt fun hlt => ?_
    have := List.not_of_lt_findIdx (xs := ps) (p := fun p => decide (t ≤ p.2.2.1)) hlt
    have h2 : ¬ t ≤ (ps[ps.findIdx (fun p => decide (t' ≤ p.2.2.1))]).2.2.1 := by simpa using this
    exact h2 (Rat.le_trans h g1)
  · have := List.findIdx_le_length (xs := ps) (p := fun p => decide (t ≤ p.2.2.1))
    omega
theorem pcAt_lt {ps : List P4} {t : Rat} {i : Nat} (hi : i < ps.length) (hle : i ≤ pcAt ps t) (h : (ps.getD i z4).2.2.1 < t) : i < pcAt ps t := by
  refine Nat.lt_of_le_of_ne hle fun e => ?_
  have hl : pcAt ps t < ps.length := by omega
  have g := List.findIdx_getElem (xs := ps) (p := fun p : P4 => decide (t ≤ p.2.2.1)) (w := show ps.findIdx (fun p : P4 => decide (t ≤ p.2.2.1)) < ps.length from hl)
  have g1 : t ≤ (ps[pcAt ps t]).2.2.1 := by simpa [pcAt] using g
  have e2 : ps.getD i z4 = ps[pcAt ps t] := by subst e; simp [List.getD_eq_getElem?_getD, hl]
  rw [e2] at h
  exact absurd g1 (Rat.not_le.mpr h)
theorem pcAt_eq {ps : List P4} {t : Rat} {i : Nat} (hi : i < ps.length) (hle : i ≤ pcAt ps t) (h : ¬ (ps.getD i z4).2.2.1 < t) : i = pcAt ps t := by
  refine Nat.le_antisymm hle (Nat.le_of_not_lt fun hlt => ?_)
  have := List.not_of_lt_findIdx (xs := ps) (p := fun p => decide (t ≤ p.2.2.1)) hlt
  have h2 : ¬ t ≤ (ps[i]).2.2.1 := by simpa using this
  have e2 : ps.getD i z4 = ps[i] := by simp [List.getD_eq_getElem?_getD, hi]
  rw [e2] at h
  exact h2 (Rat.not_lt.mp h)
theorem missQ_snoc {ps : List P4} {ts : List Smp} {i : Nat} {c : Smp} (h : ts[i]? = some c) : missQ ps (ts.take (i + 1)) = upQ (missQ ps (ts.take i)) (farQ ps c) := by
  unfold missQ
  rw [List.take_succ, h]
  simp [List.foldl_append]
theorem sz_far {ps : List P4} {s : Smp} {n : Nat} (hp : ∀ p ∈ ps, Sz4 n p) (hl : pcAt ps (s.1 : Rat) < ps.length) (h1 : Sz n (s.1 : Rat)) (h2 : Sz n s.2) : Sz (8 * n + 11) (farQ ps s) := by
  unfold farQ
  have : ps.getD (pcAt ps (s.1 : Rat)) z4 ∈ ps := by
    simp [List.getD_eq_getElem?_getD, hl]
  exact (sz_abs (sz_sub h2 (sz_hgt (hp _ this) h1))).mono (by omega)
theorem sz_miss {ps : List P4} {n : Nat} (hp : ∀ p ∈ ps, Sz4 n p) : ∀ {ts : List Smp} {w : Rat}, Sz (8 * n + 11) w → (∀ s ∈ ts, pcAt ps (s.1 : Rat) < ps.length ∧ Sz n (s.1 : Rat) ∧ Sz n s.2) → Sz (8 * n + 11) (ts.foldl (fun w s => upQ w (farQ ps s)) w)
  | [], _, hw, _ => hw
  | s :: ts, w, hw, h => by
    simp only [List.foldl_cons]
    have hs := h s (by simp)
    refine sz_miss hp ?_ fun s' h' => h s' (by simp [h'])
    unfold upQ
    split
    · exact sz_far hp hs.1 hs.2.1 hs.2.2
    · exact hw
theorem p4_item {ps : List P4} {i : Nat} {S : Store} (h : i < ps.length) : itemR (some (ps.map p4D)) (i : Int) S = .ok (p4D (ps.getD i z4)) S := by
  refine itemR_nat ?_
  rw [List.getElem?_map, List.getElem?_eq_getElem h]
  simp [List.getD_eq_getElem?_getD, h]
def RmI (S : Store) (r n : Nat) (ts : List Smp) (ps : List P4) (i : Nat) (e : Env) (S2 : Store) : Prop := S2 = S ∧ ∃ (a : Nat) (x4 x5 x6 x7 : Option D), e = [some (.ref r), some (.ref n), some (rD (missQ ps (ts.take i))), some (.int a), x4, x5, x6, x7] ∧ (∀ c, ts[i]? = some c → a ≤ pcAt ps (c.1 : Rat))
theorem run_miss_wp (h : HJu P F) {r m : Nat} {ts : List Smp} {ps : List P4} {n : Nat} (hr : getL S r = some (ts.map smpD)) (hm : getL S m = some (ps.map p4D)) (hl : ts.length ≤ 1000) (hpl : ps.length ≤ 10000) (hup : ts.Pairwise fun a c => a.1 < c.1) (hp : ∀ p ∈ ps, Sz4 n p)
    (hs : ∀ s ∈ ts, pcAt ps (s.1 : Rat) < ps.length ∧ Sz n (s.1 : Rat) ∧ Sz n s.2) (hn : n ≤ 400) :
    Wp (callN P F (k + 5) "run_miss" [.ref r, .ref m] S) E fun x S' => S' = S ∧ x = rD (missQ ps ts) := by
  apply wp_has h.rms rfl
  simp only [b_run_miss]
  have hF := h.big
  have hB := big_ge
  have rd0 : (D.tup [.int 0, .int 1]) = rD 0 := rfl
  simp [wpx, wpo, wps, rd0]
  refine for_seq (xs := ts.map smpD) (RmI S r m ts ps) (by rw [seqOf_ref]; exact hr) ⟨rfl, 0, none, none, none, none, by simp [missQ], fun _ _ => by omega⟩ ?_ ?_
  · rintro i y e S2 hy hi ⟨rfl, a, x4, x5, x6, x7, rfl, ha⟩
    obtain ⟨c, hc, rfl⟩ := map_get hy
    have hil := (List.getElem?_eq_some_iff.mp hc).1
    refine ⟨by rw [seqOf_ref]; exact hr, _, bind_two (by simp [smp_seq]), ?_⟩
    obtain ⟨hpc, hz1, hz2⟩ := hs c (List.mem_of_getElem? hc)
    simp [wpx, wpo, wps, rD_int]
    refine wh_rule (fun e S3 => S3 = S2 ∧ ∃ a : Nat, e = [some (.ref r), some (.ref m), some (rD (missQ ps (ts.take i))), some (.int a), some (.int c.1), some (rD c.2), some (rD (c.1 : Rat)), x7] ∧ a ≤ pcAt ps (c.1 : Rat)) (fun e _ => match e with
      | [_, _, _, some (.int i), _, _, _, _] => pcAt ps (c.1 : Rat) - i.toNat
      | _ => 0) ?_ F _ _ ⟨rfl, a, rfl, ha c hc⟩ (by simp; omega)
    rintro e S3 ⟨rfl, a, rfl, hle⟩
    have hal : a < ps.length := by omega
    have hmem : ps.getD a z4 ∈ ps := by simp [List.getD_eq_getElem?_getD, hal]
    obtain ⟨pp, hpp⟩ : ∃ pp, pp = ps.getD a z4 := ⟨_, rfl⟩
    have it : ∀ S, itemR (some (ps.map p4D)) (a : Int) S = .ok (p4D pp) S := fun S => by rw [hpp]; exact p4_item hal
    rw [← hpp] at hmem
    obtain ⟨q1, q2, q3, q4⟩ := hp _ hmem
    simp [wpx, wpo, wps, hm, it, p4_seq]
    refine (order_wp h.order q3 hz1 (by omega)).imp ?_
    rintro x S4 ⟨rfl, rfl⟩
    by_cases k1 : pp.2.2.1 < (c.1 : Rat)
    · have := pcAt_lt hal hle (hpp ▸ k1)
      simp [wpx, wpo, wps, ord_neg, k1]
      refine ⟨⟨a + 1, by omega, by omega⟩, by omega⟩
    · have e1 := pcAt_eq hal hle (hpp ▸ k1)
      simp [wpx, wpo, wps, ord_neg, k1, hm, it]
      refine (height_of_wp h (hp _ hmem) hz1 (by omega)).imp ?_
      rintro x S5 ⟨rfl, rfl⟩
      have sh := sz_hgt (hp _ hmem) hz1
      try simp [wpx, wpo, wps]
      refine (minus_wp h.toHR h.minus hz2 sh (by omega) h.big).imp ?_
      rintro x S6 ⟨rfl, rfl⟩
      try simp [wpx, wpo, wps]
      refine (size_wp h.size).imp ?_
      rintro x S7 ⟨rfl, rfl⟩
      have ef : absQ (c.2 - hgtQ pp (c.1 : Rat)) = farQ ps c := by unfold farQ; rw [← e1, ← hpp]
      have sf := sz_far hp hpc hz1 hz2
      have sw : Sz (8 * n + 11) (missQ ps (ts.take i)) := sz_miss hp (n := n) ⟨by show (0 : Int).natAbs < _; exact Nat.pow_pos (by decide), by show 1 < _; exact Nat.one_lt_two_pow (by omega)⟩ fun s h' => hs s (List.mem_of_mem_take h')
      rw [ef]
      try simp [wpx, wpo, wps]
      refine (order_wp h.order sf sw (by omega)).imp ?_
      rintro x S8 ⟨rfl, rfl⟩
      have nxt : ∀ c', ts[i + 1]? = some c' → a ≤ pcAt ps (c'.1 : Rat) := fun c' hc' => by
        have hlt : c.1 < c'.1 := by
          have := List.pairwise_iff_getElem.mp hup i (i + 1) hil (List.getElem?_eq_some_iff.mp hc').1 (by omega)
          rw [(List.getElem?_eq_some_iff.mp hc').2, (List.getElem?_eq_some_iff.mp hc).2] at this
          exact this
        have := pcAt_mono (ps := ps) (t := (c.1 : Rat)) (t' := (c'.1 : Rat)) (Rat.intCast_le_intCast.mpr (by omega))
        omega
      have mk := missQ_snoc (ps := ps) hc
      by_cases k2 : missQ ps (ts.take i) < farQ ps c
      · simp [wpx, wpo, wps, ord_pos, k2]
        refine ⟨rfl, a, some (.int c.1), some (rD c.2), some (rD (c.1 : Rat)), some (rD (farQ ps c)), ?_, nxt⟩
        rw [mk]; unfold upQ; rw [if_pos k2]
      · simp [wpx, wpo, wps, ord_pos, k2]
        refine ⟨rfl, a, some (.int c.1), some (rD c.2), some (rD (c.1 : Rat)), some (rD (farQ ps c)), ?_, nxt⟩
        rw [mk]; unfold upQ; rw [if_neg k2]
  · rintro e S2 ⟨rfl, a, x4, x5, x6, x7, rfl, ha⟩
    refine ⟨by rw [seqOf_ref]; exact hr, ?_⟩
    rw [List.take_of_length_le (by simp)]
    simp [wpx, wpo, wps]
end
end Lt
set_option maxRecDepth 100000
set_option maxHeartbeats 2000000
namespace Lt
set_option exponentiation.threshold 9000
open PySem (Str)
open LawT
def oND : Option Nat → D
  | none => .non
  | some n => .int n
def bapF (ts : List Smp) (ps : List P4) (pl a : Nat) : Option Nat :=
  if pl < ts.length then
    if ps.length ≤ a then none
    else if (ps.getD a z4).1 ≠ ((sA ts pl).1 : Rat) ∨ patF ts (ps.getD a z4).2.2.1 < pl then none
    else if (ps.getD a z4).1 = (ps.getD a z4).2.2.1 ∧ (ps.getD a z4).2.1 ≠ (ps.getD a z4).2.2.2 then none
    else bapF ts ps (max pl (patF ts (ps.getD a z4).2.2.1).toNat + 1) (a + 1)
  else some a
termination_by ts.length - pl
theorem patF_lt {ts : List Smp} {t : Rat} : patF ts t < ts.length := by
  unfold patF
  split <;> omega
structure HJv (P : Prog) (F : Nat) : Prop extends HJu P F where
  bap : Has P "behind_apart" 3 9 b_behind_apart
  bjo : Has P "behind_joined" 3 10 b_behind_joined
  runs : P.defs.lookup ("runs" : Str) = some a_runs
  mis : Has P "miss" 3 9 b_miss
  fit : Has P "fits" 4 5 b_fits
section
variable {P : Prog} {F k : Nat} {S : Store} {E : XP}
def JaI (S : Store) (r m : Nat) (ts : List Smp) (ps : List P4) (w : Option Nat) (e : Env) (S2 : Store) : Prop := S2 = S ∧ ∃ (a pl : Nat) (x4 x5 x6 x7 x8 : Option D), e = [some (.ref r), some (.ref m), some (.int a), some (.int pl), x4, x5, x6, x7, x8] ∧ pl ≤ ts.length ∧ bapF ts ps pl a = w
theorem behind_apart_wp (h : HJv P F) {r m a : Nat} {ts : List Smp} {ps : List P4} (hr : getL S r = some (ts.map smpD)) (hm : getL S m = some (ps.map p4D)) (hl : ts.length ≤ 1000) :
    Wp (callN P F (k + 2) "behind_apart" [.ref r, .ref m, .int a] S) E fun x S' => S' = S ∧ x = oND (bapF ts ps 0 a) := by
  apply wp_has h.bap rfl
  simp only [b_behind_apart]
  have hF := h.big
  have hB := big_ge
  simp [wpx, wpo, wps]
  refine wh_rule (JaI S r m ts ps (bapF ts ps 0 a)) (fun e _ => match e with
    | [_, _, _, some (.int i), _, _, _, _, _] => ts.length - i.toNat
    | _ => 0) ?_ F _ _ ⟨rfl, a, 0, none, none, none, none, none, rfl, by omega, rfl⟩ (by simp; omega)
  rintro e S2 ⟨rfl, a, pl, x4, x5, x6, x7, x8, rfl, hpl, hw⟩
  rw [bapF] at hw
  have hlen : ts.length < lim := by unfold lim; omega
  simp [wpx, wpo, wps, hr]
  by_cases k0 : pl < ts.length
  · rw [if_pos k0] at hw
    have k0' : ¬ ts.length ≤ pl := by omega
    simp [wpx, wpo, wps, k0, k0', hm]
    by_cases k1 : ps.length ≤ a
    · rw [if_pos k1] at hw
      simp [wpx, wpo, wps, k1, ← hw, oND]
    · rw [if_neg k1] at hw
      obtain ⟨pp, hpp⟩ : ∃ pp, pp = ps.getD a z4 := ⟨_, rfl⟩
      have it : ∀ S, itemR (some (ps.map p4D)) (a : Int) S = .ok (p4D pp) S := fun S => by rw [hpp]; exact p4_item (by omega)
      rw [← hpp] at hw
      simp [wpx, wpo, wps, k1, hm, it, p4_seq]
      refine (place_at_wp h.toHJu hr hl).imp ?_
      rintro x S3 ⟨rfl, rfl⟩
      have e1 : ∀ S, eqD S (rD pp.1) (.tup [.int (sA ts pl).1, .int 1]) = some (decide (pp.1 = ((sA ts pl).1 : Rat))) := fun S => by
        rw [rD_int]; exact eqD_rD
      have g0 := patF_lt (ts := ts) (t := pp.2.2.1)
      by_cases k2 : pp.1 = ((sA ts pl).1 : Rat)
      · have e1' : ∀ S, eqD S (rD pp.1) (.tup [.int (sA ts pl).1, .int 1]) = some true := fun S => by rw [e1]; simp [k2]
        simp [wpx, wpo, wps, hr, sA_item k0, smp_seq, e1']
        by_cases k3 : patF ts pp.2.2.1 < pl
        · rw [if_pos (Or.inr k3)] at hw
          simp [wpx, wpo, wps, k3, ← hw, oND]
        · rw [if_neg (by simp [k2]; omega)] at hw
          simp [wpx, wpo, wps, k3, eqD_rD]
          have e3 : max pl (patF ts pp.2.2.1).toNat = (patF ts pp.2.2.1).toNat := by omega
          rw [e3] at hw
          by_cases k4 : pp.1 = pp.2.2.1
          · by_cases k5 : pp.2.1 = pp.2.2.2
            · rw [if_neg (by simp [k5])] at hw
              simp [wpx, wpo, wps, k4, k5, eqD_rD]
              refine ⟨⟨rfl, a + 1, (patF ts pp.2.2.1).toNat + 1, some (.int (patF ts pp.2.2.1)), some (rD pp.1), some (rD pp.2.1), some (rD pp.2.2.1), some (rD pp.2.2.2), ?_, by omega, hw⟩, by omega⟩
              simp [k4, k5]; omega
            · rw [if_pos ⟨k4, k5⟩] at hw
              simp [wpx, wpo, wps, k4, k5, eqD_rD, ← hw, oND]
          · rw [if_neg (by simp [k4])] at hw
            simp [wpx, wpo, wps, k4, eqD_rD]
            refine ⟨⟨rfl, a + 1, (patF ts pp.2.2.1).toNat + 1, some (.int (patF ts pp.2.2.1)), some (rD pp.1), some (rD pp.2.1), some (rD pp.2.2.1), some (rD pp.2.2.2), ?_, by omega, hw⟩, by omega⟩
            simp; omega
      · have e1' : ∀ S, eqD S (rD pp.1) (.tup [.int (sA ts pl).1, .int 1]) = some false := fun S => by rw [e1]; simp [k2]
        rw [if_pos (Or.inl k2)] at hw
        simp [wpx, wpo, wps, hr, sA_item k0, smp_seq, e1', ← hw, oND]
  · rw [if_neg k0] at hw
    have k0' : ts.length ≤ pl := by omega
    simp [wpx, wpo, wps, k0, k0', ← hw, oND]
end
end Lt
set_option maxRecDepth 100000
set_option maxHeartbeats 2000000
namespace Lt
set_option exponentiation.threshold 9000
open PySem (Str)
open LawT
def bjoF (ts : List Smp) (ps : List P4) (here : Rat) (tall : Option Rat) (a : Nat) : Option Nat :=
  if a < ps.length then
    if (ps.getD a z4).1 ≠ here ∨ (tall ≠ none ∧ tall ≠ some (ps.getD a z4).2.1) then none
    else if ts.length = 1 then (if (ps.getD a z4).2.2.1 = here ∧ (ps.getD a z4).2.1 = (ps.getD a z4).2.2.2 then some (a + 1) else none)
    else if (ps.getD a z4).2.2.1 ≤ (ps.getD a z4).1 ∨ ((sA ts (ts.length - 1)).1 : Rat) < (ps.getD a z4).2.2.1 then none
    else if (ps.getD a z4).2.2.1 = ((sA ts (ts.length - 1)).1 : Rat) then some (a + 1)
    else bjoF ts ps (ps.getD a z4).2.2.1 (some (ps.getD a z4).2.2.2) (a + 1)
  else none
termination_by ps.length - a
section
variable {P : Prog} {F k : Nat} {S : Store} {E : XP}
def JbI (S : Store) (r m : Nat) (ts : List Smp) (ps : List P4) (n : Nat) (w : Option Nat) (e : Env) (S2 : Store) : Prop := S2 = S ∧ ∃ (a : Nat) (here : Rat) (tall : Option Rat) (x6 x7 x8 x9 : Option D), e = [some (.ref r), some (.ref m), some (.int a), some (rD here), some (rD ((sA ts (ts.length - 1)).1 : Rat)), some (valD tall), x6, x7, x8, x9] ∧ bjoF ts ps here tall a = w
theorem behind_joined_wp (h : HJv P F) {r m a n : Nat} {ts : List Smp} {ps : List P4} (hr : getL S r = some (ts.map smpD)) (hm : getL S m = some (ps.map p4D)) (hl : ts.length ≤ 1000) (hl1 : 1 ≤ ts.length) (hpl : ps.length ≤ 10000) (hp : ∀ p ∈ ps, Sz4 n p) (hz : Sz n ((sA ts (ts.length - 1)).1 : Rat)) (hn : n ≤ 4000) :
    Wp (callN P F (k + 2) "behind_joined" [.ref r, .ref m, .int a] S) E fun x S' => S' = S ∧ x = oND (bjoF ts ps ((sA ts 0).1 : Rat) none a) := by
  apply wp_has h.bjo rfl
  simp only [b_behind_joined]
  have hF := h.big
  have hB := big_ge
  have i0 : ∀ S, itemR (some (ts.map smpD)) 0 S = .ok (smpD (sA ts 0)) S := fun S => sA_item (i := 0) (by omega)
  have i1 : ∀ S, itemR (some (ts.map smpD)) (-1) S = .ok (smpD (sA ts (ts.length - 1))) S := fun S => by
    refine itemR_last ?_
    rw [List.getLast?_eq_getElem?]
    simp [sA, List.getD_eq_getElem?_getD, show ts.length - 1 < ts.length by omega]
  have nv : (D.non) = valD none := rfl
  simp [wpx, wpo, wps, hr, i0, i1, smp_seq, rD_int]
  refine wh_rule (JbI S r m ts ps n (bjoF ts ps ((sA ts 0).1 : Rat) none a)) (fun e _ => match e with
    | [_, _, some (.int i), _, _, _, _, _, _, _] => ps.length - i.toNat
    | _ => 0) ?_ F _ _ ⟨rfl, a, _, none, none, none, none, none, rfl, rfl⟩ (by simp; omega)
  generalize a = a0
  rintro e S2 ⟨rfl, a, here, tall, x6, x7, x8, x9, rfl, hw⟩
  rw [bjoF] at hw
  simp [wpx, wpo, wps, hm]
  by_cases k0 : a < ps.length
  · rw [if_pos k0] at hw
    have k0' : ¬ ps.length ≤ a := by omega
    obtain ⟨pp, hpp⟩ : ∃ pp, pp = ps.getD a z4 := ⟨_, rfl⟩
    have it : ∀ S, itemR (some (ps.map p4D)) (a : Int) S = .ok (p4D pp) S := fun S => by rw [hpp]; exact p4_item k0
    have hmem : pp ∈ ps := by rw [hpp]; simp [List.getD_eq_getElem?_getD, k0]
    obtain ⟨q1, q2, q3, q4⟩ := hp _ hmem
    rw [← hpp] at hw
    simp only [k0, k0', true_and, false_and, or_false]
    try simp [wpx, wpo, wps, hm, it, p4_seq, eqD_rD]
    by_cases k1 : pp.1 = here
    · subst k1
      have nx : ∀ e : List (Option D), e = [some (.ref r), some (.ref m), some (.int ((a : Int) + 1)), some (rD pp.2.2.1), some (rD ((sA ts (ts.length - 1)).1 : Rat)), some (rD pp.2.2.2), some (rD pp.1), some (rD pp.2.1), some (rD pp.2.2.1), some (rD pp.2.2.2)] → bjoF ts ps pp.2.2.1 (some pp.2.2.2) (a + 1) = bjoF ts ps ((sA ts 0).1 : Rat) none a0 → JbI S2 r m ts ps n (bjoF ts ps ((sA ts 0).1 : Rat) none a0) e S2 := fun e he hb => ⟨rfl, a + 1, pp.2.2.1, some pp.2.2.2, some (rD pp.1), some (rD pp.2.1), some (rD pp.2.2.1), some (rD pp.2.2.2), by rw [he]; simp [valD], hb⟩
      have oa : ∀ b, some (a + 1) = b → D.int ((a : Int) + 1) = oND b := fun b hb => by rw [← hb]; simp [oND]
      have on : ∀ b, none = b → D.non = oND b := fun b hb => by rw [← hb]; rfl
      by_cases k2 : tall ≠ none ∧ tall ≠ some pp.2.1
      · rw [if_pos (Or.inr k2)] at hw
        obtain ⟨q, rfl⟩ : ∃ q, tall = some q := by cases tall with
          | none => exact absurd rfl k2.1
          | some q => exact ⟨q, rfl⟩
        have : ¬ pp.2.1 = q := fun z => k2.2 (by rw [z])
        simp [wpx, wpo, wps, isN_val, valD, eqD_rD, this]
        exact on _ hw
      · rw [if_neg (by simp; intro h; simpa using fun z => k2 ⟨h, z⟩)] at hw
        have ht : tall = none ∨ tall = some pp.2.1 := by
          by_cases z : tall = none
          · exact Or.inl z
          · exact Or.inr (Classical.byContradiction fun z2 => k2 ⟨z, z2⟩)
        have iN : isN (rD pp.2.1) = false := rfl
        have iM : isN D.non = true := rfl
        rcases ht with rfl | rfl
        all_goals
          simp [wpx, wpo, wps, isN_val, valD, eqD_rD, iN, iM, hr, eqD_int]
          by_cases k3 : ts.length = 1
          · rw [if_pos k3] at hw
            simp [wpx, wpo, wps, k3, eqD_rD]
            by_cases k4 : pp.2.2.1 = pp.1
            · by_cases k5 : pp.2.1 = pp.2.2.2
              · rw [if_pos ⟨k4, k5⟩] at hw
                simp [wpx, wpo, wps, k4, k5, eqD_rD]
                exact oa _ hw
              · rw [if_neg (by simp [k5])] at hw
                simp [wpx, wpo, wps, k4, k5, eqD_rD]
                exact on _ hw
            · rw [if_neg (by simp [k4])] at hw
              simp [wpx, wpo, wps, k4, eqD_rD]
              exact on _ hw
          · rw [if_neg k3] at hw
            have k3i : ¬ (ts.length : Int) = 1 := by omega
            simp [wpx, wpo, wps, k3i, eqD_rD]
            refine (order_wp h.order q3 q1 (by omega)).imp ?_
            rintro x S4 ⟨rfl, rfl⟩
            by_cases k4 : pp.2.2.1 ≤ pp.1
            · rw [if_pos (Or.inl k4)] at hw
              simp [wpx, wpo, wps, ord_nonpos, k4]
              exact on _ hw
            · simp [wpx, wpo, wps, ord_nonpos, k4]
              refine (order_wp h.order q3 hz (by omega)).imp ?_
              rintro x S5 ⟨rfl, rfl⟩
              by_cases k5 : ((sA ts (ts.length - 1)).1 : Rat) < pp.2.2.1
              · rw [if_pos (Or.inr k5)] at hw
                simp [wpx, wpo, wps, ord_pos, k5]
                exact on _ hw
              · rw [if_neg (by simp [k4, k5])] at hw
                simp [wpx, wpo, wps, ord_pos, k5, eqD_rD]
                by_cases k6 : pp.2.2.1 = ((sA ts (ts.length - 1)).1 : Rat)
                · rw [if_pos k6] at hw
                  simp [wpx, wpo, wps, k6]
                  exact oa _ hw
                · rw [if_neg k6] at hw
                  simp [wpx, wpo, wps, k6]
                  exact ⟨nx _ rfl hw, by omega⟩
    · rw [if_pos (Or.inl k1)] at hw
      simp [wpx, wpo, wps, k1, ← hw, oND]
  · rw [if_neg k0] at hw
    have k0' : ps.length ≤ a := by omega
    simp [wpx, wpo, wps, k0, k0', ← hw, oND]
end
end Lt
set_option maxRecDepth 100000
set_option maxHeartbeats 2000000
namespace Lt
set_option exponentiation.threshold 9000
open PySem (Str)
open LawT
def lnP (e : Rat × Rat) : PySem.PyData := .tuple [raP e.1, raP e.2]
theorem toP_ln (S : Store) (n : Nat) (e : Rat × Rat) : toP S (n + 3) (lnDD e) = some (lnP e) := by
  simp [lnDD, lnD, toP, mapO, rD_P, lnP]
theorem toP_lns (S : Store) (n : Nat) : ∀ es : List (Rat × Rat), mapO (toP S (n + 3)) (es.map lnDD) = some (es.map lnP)
  | [] => rfl
  | e :: es => by simp [mapO, toP_ln, toP_lns S n es]
theorem eqv_ln {e f : Rat × Rat} : PySem.PyData.eqv (lnP e) (lnP f) = decide (e = f) := by
  obtain ⟨a, b⟩ := e
  obtain ⟨c, d⟩ := f
  simp [lnP, PySem.PyData.eqv, PySem.PyData.eqvAll, eqv_raP, Prod.mk.injEq]
theorem inO_ln {S : Store} {q : Nat} {es : List (Rat × Rat)} {a b : Rat} (hq : getL S q = some (es.map lnDD)) : inO S (.tup [rD a, rD b]) (.ref q) = some (decide ((a, b) ∈ es)) := by
  have h : toP S 12 (.ref q) = some (.list (es.map lnP)) := by
    show (match getL S q with
      | some xs => (mapO (toP S 11) xs).map PySem.PyData.list
      | none => none) = _
    rw [hq]
    simp only []
    rw [toP_lns S 8 es]
    rfl
  have hx : toP S 12 (.tup [rD a, rD b]) = some (lnP (a, b)) := toP_ln S 9 (a, b)
  unfold inO
  simp only [hx, h]
  congr 1
  rw [List.any_map, Bool.eq_iff_iff]
  simp [List.any_eq_true, eqv_ln]
def pts (ts : List Smp) : List (Rat × Rat) := ts.map fun s => ((s.1 : Rat), s.2)
def onP (ts : List Smp) (p : P4) : Bool := decide ((p.1, p.2.1) ∈ pts ts) && decide ((p.2.2.1, p.2.2.2) ∈ pts ts)
def OnI (S3 : Store) (r m q : Nat) (ts : List Smp) (ps : List P4) (i : Nat) (e : Env) (S4 : Store) : Prop := S4 = S3 ∧ (∃ x3 x4 x5 x6 x7 x8, e = [some (.ref r), some (.ref m), some (.ref q), x3, x4, x5, x6, x7, x8]) ∧ (ps.take i).all (onP ts) = true
section
variable {P : Prog} {F k : Nat} {S : Store} {E : XP}
theorem on_samples_wp (h : HJu P F) {r m : Nat} {ts : List Smp} {ps : List P4} (hr : getL S r = some (ts.map smpD)) (hm : getL S m = some (ps.map p4D)) (hl : ts.length ≤ 1000) :
    Wp (callN P F (k + 1) "on_samples" [.ref r, .ref m] S) E fun x S' => S' = S ++ [.lst ((pts ts).map lnDD)] ∧ x = .bl (ps.all (onP ts)) := by
  apply wp_has h.ons rfl
  simp only [b_on_samples]
  simp [wpx, wpo, wps]
  refine lc_seq (xs := ts.map smpD) (fun i acc S2 => S2 = S ∧ acc = ((pts ts).map lnDD).take i) (by rw [seqOf_ref]; exact hr) ⟨rfl, by simp⟩ ?_ ?_
  · rintro i y acc S2 hy hi ⟨rfl, rfl⟩
    obtain ⟨c, hc, rfl⟩ := map_get hy
    have hil := (List.getElem?_eq_some_iff.mp hc).1
    refine ⟨by rw [seqOf_ref]; exact hr, _, bind_two (by simp [wipeE]), ?_⟩
    have e1 : ((pts ts).map lnDD)[i]? = some (lnDD ((c.1 : Rat), c.2)) := by simp [pts, hc]
    simp [wpx, wpo, wps, rD_int, wipeE]
    refine ⟨by unfold lim; omega, ?_⟩
    rw [List.take_succ, e1]; rfl
  · rintro acc S2 ⟨rfl, rfl⟩
    refine ⟨by rw [seqOf_ref]; exact hr, ?_⟩
    rw [List.take_of_length_le (by simp [pts])]
    try simp [wpx, wpo, wps, wipeE]
    have hm' : getL (S2 ++ [Cell.lst ((pts ts).map lnDD)]) m = some (ps.map p4D) := getL_app_l hm
    have hn : getL (S2 ++ [Cell.lst ((pts ts).map lnDD)]) S2.length = some ((pts ts).map lnDD) := getL_new
    generalize hS3 : S2 ++ [Cell.lst ((pts ts).map lnDD)] = S3 at *
    refine for_seq (xs := ps.map p4D) (OnI S3 r m S2.length ts ps) (by rw [seqOf_ref]; exact hm') ⟨rfl, ⟨none, none, none, none, none, none, rfl⟩, by simp⟩ ?_ ?_
    · rintro i y e S4 hy hi ⟨rfl, ⟨x3, x4, x5, x6, x7, x8, rfl⟩, ha⟩
      obtain ⟨p, hc, rfl⟩ := map_get hy
      have hb : ∀ e : List (Option D), e.length = 9 → bindT (.tup [3, 4, 5, 6]) (p4D p) e S4 = some ((((e.set 3 (some (rD p.1))).set 4 (some (rD p.2.1))).set 5 (some (rD p.2.2.1))).set 6 (some (rD p.2.2.2))) := fun e he => by
        simp [bindT, p4_seq, setAll, he]
      refine ⟨by rw [seqOf_ref]; exact hm', _, hb _ (by simp), ?_⟩
      have ni : ∀ a b, cmpop .notin (.tup [rD a, rD b]) (.ref S2.length) S4 = .ok (.bl (!decide ((a, b) ∈ pts ts))) S4 := fun a b => by
        simp [cmpop, inO_ln hn]
      have tk : (ps.take (i + 1)).all (onP ts) = onP ts p := by
        rw [List.take_succ, hc, List.all_append, ha]; simp
      by_cases c1 : (p.1, p.2.1) ∈ pts ts
      · by_cases c2 : (p.2.2.1, p.2.2.2) ∈ pts ts
        · have e1 : onP ts p = true := by unfold onP; simp [c1, c2]
          simp [wpx, wpo, wps, ni, c1, c2]
          exact ⟨rfl, ⟨_, _, _, _, _, _, rfl⟩, by rw [tk, e1]⟩
        · have e1 : ps.all (onP ts) = false := by
            rw [List.all_eq_false]
            exact ⟨p, List.mem_of_getElem? hc, by unfold onP; simp [c2]⟩
          simp [wpx, wpo, wps, ni, c1, c2, e1]
      · have e1 : ps.all (onP ts) = false := by
          rw [List.all_eq_false]
          exact ⟨p, List.mem_of_getElem? hc, by unfold onP; simp [c1]⟩
        simp [wpx, wpo, wps, ni, c1, e1]
    · rintro e S4 ⟨rfl, ⟨x3, x4, x5, x6, x7, x8, rfl⟩, ha⟩
      refine ⟨by rw [seqOf_ref]; exact hm', ?_⟩
      rw [List.take_of_length_le (by simp)] at ha
      try rw [ha]
      simp [wpx, wpo, wps]
      exact fun a b c d h' => (List.all_eq_true.mp ha) _ h'
end
end Lt
set_option maxRecDepth 100000
set_option maxHeartbeats 2000000
namespace Lt
set_option exponentiation.threshold 9000
theorem patF_at {ts : List Smp} {t : Rat} {i : Nat} (h : patF ts t = (i : Int)) : i < ts.length ∧ t = ((sA ts i).1 : Rat) := by
  unfold patF at h
  split at h
  · rename_i hl
    have e : ts.findIdx (fun s => decide (t = (s.1 : Rat))) = i := by omega
    have g := List.findIdx_getElem (xs := ts) (p := fun s : Smp => decide (t = (s.1 : Rat))) (w := hl)
    simp only [e] at g hl
    refine ⟨hl, ?_⟩
    have : sA ts i = ts[i] := by simp [sA, List.getD_eq_getElem?_getD, hl]
    rw [this]
    simpa using g
  · omega
theorem bapF_end {ts : List Smp} {ps : List P4} (n : Nat) : ∀ (pl a b : Nat), ts.length - pl = n → pl < ts.length → bapF ts ps pl a = some b → a < b ∧ b ≤ ps.length ∧ (ps.getD (b - 1) z4).2.2.1 = ((sA ts (ts.length - 1)).1 : Rat) := by
  induction n using Nat.strongRecOn with
  | ind n ih =>
    intro pl a b hn hpl h
    rw [bapF, if_pos hpl] at h
    by_cases k1 : ps.length ≤ a
    · rw [if_pos k1] at h; cases h
    · rw [if_neg k1] at h
      by_cases k2 : (ps.getD a z4).1 ≠ ((sA ts pl).1 : Rat) ∨ patF ts (ps.getD a z4).2.2.1 < pl
      · rw [if_pos k2] at h; cases h
      · rw [if_neg k2] at h
        split at h
        · cases h
        · have k3 : ¬ patF ts (ps.getD a z4).2.2.1 < pl := fun z => k2 (Or.inr z)
          obtain ⟨j, hj⟩ : ∃ j : Nat, patF ts (ps.getD a z4).2.2.1 = (j : Int) := ⟨(patF ts (ps.getD a z4).2.2.1).toNat, by omega⟩
          obtain ⟨g1, g2⟩ := patF_at hj
          have e1 : max pl (patF ts (ps.getD a z4).2.2.1).toNat + 1 = j + 1 := by omega
          rw [e1] at h
          by_cases k4 : j + 1 < ts.length
          · obtain ⟨w1, w2, w3⟩ := ih (ts.length - (j + 1)) (by omega) (j + 1) (a + 1) b rfl k4 h
            exact ⟨by omega, w2, w3⟩
          · rw [bapF, if_neg k4] at h
            have e2 : a + 1 = b := by simpa using h
            subst e2
            have e3 : ts.length - 1 = j := by omega
            exact ⟨by omega, by omega, by rw [e3, Nat.add_sub_cancel]; exact g2⟩
theorem bjoF_end {ts : List Smp} {ps : List P4} (h1 : 1 ≤ ts.length) (n : Nat) : ∀ (here : Rat) (tall : Option Rat) (a b : Nat), ps.length - a = n → (ts.length = 1 → here = ((sA ts 0).1 : Rat)) → bjoF ts ps here tall a = some b → a < b ∧ b ≤ ps.length ∧ (ps.getD (b - 1) z4).2.2.1 = ((sA ts (ts.length - 1)).1 : Rat) := by
  induction n using Nat.strongRecOn with
  | ind n ih =>
    intro here tall a b hn hh h
    rw [bjoF] at h
    by_cases k1 : a < ps.length
    · rw [if_pos k1] at h
      split at h
      · cases h
      · by_cases k2 : ts.length = 1
        · rw [if_pos k2] at h
          split at h
          · rename_i z
            have e2 : a + 1 = b := by simpa using h
            subst e2
            exact ⟨by omega, by omega, by rw [Nat.add_sub_cancel, z.1, hh k2, k2]⟩
          · cases h
        · rw [if_neg k2] at h
          split at h
          · cases h
          · split at h
            · rename_i z
              have e2 : a + 1 = b := by simpa using h
              subst e2
              exact ⟨by omega, by omega, by rw [Nat.add_sub_cancel]; exact z⟩
            · obtain ⟨w1, w2, w3⟩ := ih (ps.length - (a + 1)) (by omega) _ _ (a + 1) b rfl (fun z => absurd z k2) h
              exact ⟨by omega, w2, w3⟩
    · rw [if_neg k1] at h; cases h
/-- then each sample of the run has a piece among those -/
theorem has_piece {ts : List Smp} {ps : List P4} {a b : Nat} (hab : a < b) (hb : b ≤ ps.length) (he : (ps.getD (b - 1) z4).2.2.1 = ((sA ts (ts.length - 1)).1 : Rat)) (hup : ts.Pairwise fun x y => x.1 < y.1) : ∀ s ∈ ts, pcAt ((ps.take b).drop a) (s.1 : Rat) < ((ps.take b).drop a).length := by
  intro s hs
  unfold pcAt
  rw [List.findIdx_lt_length]
  obtain ⟨i, hi, rfl⟩ := List.getElem_of_mem hs
  have hle : ts[i].1 ≤ (sA ts (ts.length - 1)).1 := by
    have e : sA ts (ts.length - 1) = ts[ts.length - 1] := by simp [sA, List.getD_eq_getElem?_getD, show ts.length - 1 < ts.length by omega]
    rw [e]
    by_cases z : i = ts.length - 1
    · subst z; exact Int.le_refl _
    · exact Int.le_of_lt (List.pairwise_iff_getElem.mp hup i (ts.length - 1) hi (by omega) (by omega))
  refine ⟨ps[b - 1], ?_, ?_⟩
  · have : ((ps.take b).drop a)[b - 1 - a]? = some ps[b - 1] := by
      rw [List.getElem?_drop, List.getElem?_take_of_lt (by omega), show a + (b - 1 - a) = b - 1 by omega, List.getElem?_eq_getElem (by omega)]
    exact List.mem_of_getElem? this
  · have e : ps.getD (b - 1) z4 = ps[b - 1] := by simp [List.getD_eq_getElem?_getD, show b - 1 < ps.length by omega]
    rw [← e, he]
    simpa using Rat.intCast_le_intCast.mpr hle
end Lt
set_option maxRecDepth 100000
set_option maxHeartbeats 2000000
namespace Lt
set_option exponentiation.threshold 9000
open PySem (Str)
open LawT
def behF (w : Way) (ts : List Smp) (ps : List P4) (a : Nat) : Option Nat := if w.loose = true then bapF ts ps 0 a else bjoF ts ps ((sA ts 0).1 : Rat) none a
def cutP (ps : List P4) (a b : Nat) : List P4 := (ps.take b).drop a
def missG (w : Way) (ps : List P4) : List (List Smp) → Rat → Nat → Option (Rat × Nat)
  | [], q, a => some (q, a)
  | ts :: r, q, a => match behF w ts ps a with
    | none => none
    | some b => if w.tied = true ∧ (cutP ps a b).all (onP ts) = false then none else missG w ps r (upQ q (missQ (cutP ps a b) ts)) b
def missW (w : Way) (ps : List P4) (rss : List (List Smp)) : Option Rat := match missG w ps rss 0 0 with
  | none => none
  | some (q, a) => if a = ps.length then some q else none
theorem behF_end {w : Way} {ts : List Smp} {ps : List P4} {a b : Nat} (h1 : 1 ≤ ts.length) (h : behF w ts ps a = some b) : a < b ∧ b ≤ ps.length ∧ (ps.getD (b - 1) z4).2.2.1 = ((sA ts (ts.length - 1)).1 : Rat) := by
  unfold behF at h
  split at h
  · exact bapF_end _ 0 a b rfl (by omega) h
  · exact bjoF_end h1 _ _ _ a b rfl (fun _ => rfl) h
section
variable {P : Prog} {F k : Nat} {S : Store} {E : XP}
/-- a run of samples of small sizes -/
structure RunS (n : Nat) (ts : List Smp) : Prop where
  l : ts.length ≤ 1000
  l1 : 1 ≤ ts.length
  up : ts.Pairwise fun x y => x.1 < y.1
  z : ∀ s ∈ ts, Sz n (s.1 : Rat) ∧ Sz n s.2
def MiI (S1 : Store) (r m n : Nat) (w : Way) (ps : List P4) (rss : List (List Smp)) (i : Nat) (e : Env) (S2 : Store) : Prop := Ext S1 S2 ∧ ∃ (q : Rat) (a : Nat) (x5 x6 x7 x8 : Option D), e = [some (.ref r), some (wayD w), some (.ref m), some (rD q), some (.int a), x5, x6, x7, x8] ∧ Sz (8 * n + 11) q ∧ missG w ps (rss.drop i) q a = missG w ps rss 0 0
theorem beh_wp (h : HJv P F) {w : Way} {r m a n : Nat} {ts : List Smp} {ps : List P4} (hr : getL S r = some (ts.map smpD)) (hm : getL S m = some (ps.map p4D)) (R : RunS n ts) (hpl : ps.length ≤ 10000) (hp : ∀ p ∈ ps, Sz4 n p) (hn : n ≤ 400) :
    Wp (callN P F (k + 2) (if w.loose = true then "behind_apart" else "behind_joined") [.ref r, .ref m, .int a] S) E fun x S' => S' = S ∧ x = oND (behF w ts ps a) := by
  unfold behF
  split
  · exact behind_apart_wp h hr hm R.l
  · have hl : sA ts (ts.length - 1) ∈ ts := by
      have := R.l1
      simp [sA, List.getD_eq_getElem?_getD, show ts.length - 1 < ts.length by omega]
    exact behind_joined_wp h hr hm R.l R.l1 hpl hp (R.z _ hl).1 (by omega)
theorem cut_map {ps : List P4} {a b : Nat} : cutD (ps.map p4D) (some (a : Int)) (some (b : Int)) = (cutP ps a b).map p4D := by
  rw [cutD_B (by omega) (by omega)]
  unfold cutP
  simp [List.drop_take, List.map_take, List.map_drop]
theorem missG_none {w : Way} {ps : List P4} {rss : List (List Smp)} (h : missG w ps rss 0 0 = none) : missW w ps rss = none := by unfold missW; rw [h]
theorem miss_wp (h : HJv P F) {w : Way} {r m n : Nat} {es : List Ent} {ps : List P4} (hr : getL S r = some (es.map entD)) (hm : getL S m = some (ps.map p4D)) (hl : es.length ≤ 100) (hR : ∀ ts ∈ sruns es, RunS n ts) (hpl : ps.length ≤ 10000) (hp : ∀ p ∈ ps, Sz4 n p) (hn : n ≤ 400) (hn0 : 1 ≤ n) :
    Wp (callN P F (k + 6) "miss" [.ref r, wayD w, .ref m] S) E fun x S' => Ext S S' ∧ x = valD (missW w ps (sruns es)) := by
  apply wp_has h.mis rfl
  simp only [b_miss]
  have rd0 : (D.tup [.int 0, .int 1]) = rD 0 := rfl
  simp [wpx, wpo, wps, rd0]
  refine (runs_wp h.runs hr hl).imp ?_
  rintro x S1 ⟨hE, t, qs, rfl, htl, ht, hqs, hll⟩
  have hRn : RnP S1 t qs (sruns es) := ⟨ht, lls_lld hll fun r hr => (run_sub hr).2.1⟩
  generalize sruns es = rss at *
  have hm1 := hE.getL hm
  refine for_seq (xs := qs.map .ref) (MiI S1 r m n w ps rss) hRn.t ⟨show Ext S1 S1 by simpa using (Ext.one : Ext S1 (S1 ++ [])), 0, 0, none, none, none, none, rfl, ⟨by show (0 : Int).natAbs < _; exact Nat.pow_pos (by decide), by show 1 < _; exact Nat.one_lt_two_pow (by omega)⟩, by simp⟩ ?_ ?_
  · rintro i y e S2 hy hi ⟨hE2, q, a, x5, x6, x7, x8, rfl, hq, hg⟩
    obtain ⟨c, hc, rfl⟩ := map_get hy
    refine ⟨hE2.getL hRn.t, _, bind_name (by simp), ?_⟩
    obtain ⟨rd, hrd, hcd⟩ := hRn.q.get hc
    unfold smps at hrd
    rw [List.getElem?_map, Option.map_eq_some_iff] at hrd
    obtain ⟨ts, hts, rfl⟩ := hrd
    have R := hR ts (List.mem_of_getElem? hts)
    have hcd2 := hE2.getL hcd
    have hm2 := hE2.getL hm1
    have hdr : rss.drop i = ts :: rss.drop (i + 1) := by
      have hil := (List.getElem?_eq_some_iff.mp hts).1
      rw [List.drop_eq_getElem_cons hil, (List.getElem?_eq_some_iff.mp hts).2]
    rw [hdr] at hg
    simp only [missG] at hg
    have ci1 : ∀ S, cmpop .isin (wayD w) (.tup [.str "apart", .str "spans"]) S = .ok (.bl w.loose) S := fun S => by simp [cmpop, way_loose]
    have ci2 : ∀ S, cmpop .isin (wayD w) (.tup [.str "spans", .str "chain"]) S = .ok (.bl w.tied) S := fun S => by simp [cmpop, way_tied]
    by_cases hw : w.loose = true
    · have B := beh_wp (k := k + 3) (E := E) (a := a) (w := w) h hcd2 hm2 R hpl hp hn
      rw [if_pos hw] at B
      simp [wpx, wpo, wps, ci1, hw]
      refine B.imp ?_
      rintro x S3 ⟨rfl, rfl⟩
      cases hb : behF w ts ps a with
      | none =>
        rw [hb] at hg
        simp [wpx, wpo, wps, oND, isN]
        exact ⟨hE.trans hE2, by rw [missG_none hg.symm]; rfl⟩
      | some b =>
        rw [hb] at hg
        dsimp only at hg
        obtain ⟨u1, u2, u3⟩ := behF_end R.l1 hb
        have iB : isN (.int (b : Int)) = false := rfl
        have iI : isInt (.int (a : Int)) = true := rfl
        have hcl : (cutP ps a b).length ≤ 10000 := by unfold cutP; simp; omega
        have hcp : ∀ p ∈ cutP ps a b, Sz4 n p := fun p h' => hp p (List.mem_of_mem_take (List.mem_of_mem_drop h'))
        have hpc := has_piece u1 u2 u3 R.up
        have hcz : ∀ s ∈ ts, pcAt (cutP ps a b) (s.1 : Rat) < (cutP ps a b).length ∧ Sz n (s.1 : Rat) ∧ Sz n s.2 := fun s hs => ⟨hpc s hs, R.z s hs⟩
        have szM : Sz (8 * n + 11) (missQ (cutP ps a b) ts) := sz_miss hcp ⟨by show (0 : Int).natAbs < _; exact Nat.pow_pos (by decide), by show 1 < _; exact Nat.one_lt_two_pow (by omega)⟩ hcz
        have g1 : getL (S3 ++ [Cell.lst ((cutP ps a b).map p4D)]) c = some (ts.map smpD) := getL_app_l hcd2
        have g2 : getL (S3 ++ [Cell.lst ((cutP ps a b).map p4D)]) S3.length = some ((cutP ps a b).map p4D) := getL_new
        simp [wpx, wpo, wps, oND, iB, iI, slcR_ref, hm2, cut_map, ci2]
        by_cases kt : w.tied = true
        · rw [if_pos kt]
          refine (on_samples_wp h.toHJu g1 g2 R.l).imp ?_
          rintro x S4 ⟨rfl, rfl⟩
          by_cases ka : (cutP ps a b).all (onP ts) = true
          · rw [if_neg (by rw [ka]; simp)] at hg
            rw [ka]
            have g3 : getL (S3 ++ [Cell.lst ((cutP ps a b).map p4D), Cell.lst ((pts ts).map lnDD)]) c = some (ts.map smpD) := getL_app_l hcd2
            have g4 : getL (S3 ++ [Cell.lst ((cutP ps a b).map p4D), Cell.lst ((pts ts).map lnDD)]) S3.length = some ((cutP ps a b).map p4D) := by simp [getL]
            simp [wpx, wpo, wps]
            refine (run_miss_wp (n := n) h.toHJu g3 g4 R.l hcl R.up hcp hcz hn).imp ?_
            rintro x S5 ⟨rfl, rfl⟩
            try simp [wpx, wpo, wps]
            refine (order_wp h.order szM hq (by omega)).imp ?_
            rintro x S6 ⟨rfl, rfl⟩
            by_cases k2 : q < missQ (cutP ps a b) ts
            · have eu : upQ q (missQ (cutP ps a b) ts) = missQ (cutP ps a b) ts := by unfold upQ; rw [if_pos k2]
              rw [eu] at hg
              simp [wpx, wpo, wps, ord_pos, k2]
              exact ⟨hE2.trans Ext.one, missQ (cutP ps a b) ts, b, some (.ref c), some (.ref S3.length), some (rD (missQ (cutP ps a b) ts)), some (.int b), rfl, szM, hg⟩
            · have eu : upQ q (missQ (cutP ps a b) ts) = q := by unfold upQ; rw [if_neg k2]
              rw [eu] at hg
              simp [wpx, wpo, wps, ord_pos, k2]
              exact ⟨hE2.trans Ext.one, q, b, some (.ref c), some (.ref S3.length), some (rD (missQ (cutP ps a b) ts)), some (.int b), rfl, hq, hg⟩
          · have ka' : (cutP ps a b).all (onP ts) = false := by simpa using ka
            rw [if_pos ⟨kt, ka'⟩] at hg
            rw [ka']
            simp [wpx, wpo, wps]
            exact ⟨hE.trans (hE2.trans Ext.one), by rw [missG_none hg.symm]; rfl⟩
        · rw [if_neg kt]
          rw [if_neg (by simp [kt])] at hg
          refine (run_miss_wp (n := n) h.toHJu g1 g2 R.l hcl R.up hcp hcz hn).imp ?_
          rintro x S5 ⟨rfl, rfl⟩
          try simp [wpx, wpo, wps]
          refine (order_wp h.order szM hq (by omega)).imp ?_
          rintro x S6 ⟨rfl, rfl⟩
          by_cases k2 : q < missQ (cutP ps a b) ts
          · have eu : upQ q (missQ (cutP ps a b) ts) = missQ (cutP ps a b) ts := by unfold upQ; rw [if_pos k2]
            rw [eu] at hg
            simp [wpx, wpo, wps, ord_pos, k2]
            exact ⟨hE2.trans Ext.one, missQ (cutP ps a b) ts, b, some (.ref c), some (.ref S3.length), some (rD (missQ (cutP ps a b) ts)), some (.int b), rfl, szM, hg⟩
          · have eu : upQ q (missQ (cutP ps a b) ts) = q := by unfold upQ; rw [if_neg k2]
            rw [eu] at hg
            simp [wpx, wpo, wps, ord_pos, k2]
            exact ⟨hE2.trans Ext.one, q, b, some (.ref c), some (.ref S3.length), some (rD (missQ (cutP ps a b) ts)), some (.int b), rfl, hq, hg⟩
    · have B := beh_wp (k := k + 3) (E := E) (a := a) (w := w) h hcd2 hm2 R hpl hp hn
      rw [if_neg hw] at B
      simp [wpx, wpo, wps, ci1, hw]
      refine B.imp ?_
      rintro x S3 ⟨rfl, rfl⟩
      cases hb : behF w ts ps a with
      | none =>
        rw [hb] at hg
        simp [wpx, wpo, wps, oND, isN]
        exact ⟨hE.trans hE2, by rw [missG_none hg.symm]; rfl⟩
      | some b =>
        rw [hb] at hg
        dsimp only at hg
        obtain ⟨u1, u2, u3⟩ := behF_end R.l1 hb
        have iB : isN (.int (b : Int)) = false := rfl
        have iI : isInt (.int (a : Int)) = true := rfl
        have hcl : (cutP ps a b).length ≤ 10000 := by unfold cutP; simp; omega
        have hcp : ∀ p ∈ cutP ps a b, Sz4 n p := fun p h' => hp p (List.mem_of_mem_take (List.mem_of_mem_drop h'))
        have hpc := has_piece u1 u2 u3 R.up
        have hcz : ∀ s ∈ ts, pcAt (cutP ps a b) (s.1 : Rat) < (cutP ps a b).length ∧ Sz n (s.1 : Rat) ∧ Sz n s.2 := fun s hs => ⟨hpc s hs, R.z s hs⟩
        have szM : Sz (8 * n + 11) (missQ (cutP ps a b) ts) := sz_miss hcp ⟨by show (0 : Int).natAbs < _; exact Nat.pow_pos (by decide), by show 1 < _; exact Nat.one_lt_two_pow (by omega)⟩ hcz
        have g1 : getL (S3 ++ [Cell.lst ((cutP ps a b).map p4D)]) c = some (ts.map smpD) := getL_app_l hcd2
        have g2 : getL (S3 ++ [Cell.lst ((cutP ps a b).map p4D)]) S3.length = some ((cutP ps a b).map p4D) := getL_new
        simp [wpx, wpo, wps, oND, iB, iI, slcR_ref, hm2, cut_map, ci2]
        by_cases kt : w.tied = true
        · rw [if_pos kt]
          refine (on_samples_wp h.toHJu g1 g2 R.l).imp ?_
          rintro x S4 ⟨rfl, rfl⟩
          by_cases ka : (cutP ps a b).all (onP ts) = true
          · rw [if_neg (by rw [ka]; simp)] at hg
            rw [ka]
            have g3 : getL (S3 ++ [Cell.lst ((cutP ps a b).map p4D), Cell.lst ((pts ts).map lnDD)]) c = some (ts.map smpD) := getL_app_l hcd2
            have g4 : getL (S3 ++ [Cell.lst ((cutP ps a b).map p4D), Cell.lst ((pts ts).map lnDD)]) S3.length = some ((cutP ps a b).map p4D) := by simp [getL]
            simp [wpx, wpo, wps]
            refine (run_miss_wp (n := n) h.toHJu g3 g4 R.l hcl R.up hcp hcz hn).imp ?_
            rintro x S5 ⟨rfl, rfl⟩
            try simp [wpx, wpo, wps]
            refine (order_wp h.order szM hq (by omega)).imp ?_
            rintro x S6 ⟨rfl, rfl⟩
            by_cases k2 : q < missQ (cutP ps a b) ts
            · have eu : upQ q (missQ (cutP ps a b) ts) = missQ (cutP ps a b) ts := by unfold upQ; rw [if_pos k2]
              rw [eu] at hg
              simp [wpx, wpo, wps, ord_pos, k2]
              exact ⟨hE2.trans Ext.one, missQ (cutP ps a b) ts, b, some (.ref c), some (.ref S3.length), some (rD (missQ (cutP ps a b) ts)), some (.int b), rfl, szM, hg⟩
            · have eu : upQ q (missQ (cutP ps a b) ts) = q := by unfold upQ; rw [if_neg k2]
              rw [eu] at hg
              simp [wpx, wpo, wps, ord_pos, k2]
              exact ⟨hE2.trans Ext.one, q, b, some (.ref c), some (.ref S3.length), some (rD (missQ (cutP ps a b) ts)), some (.int b), rfl, hq, hg⟩
          · have ka' : (cutP ps a b).all (onP ts) = false := by simpa using ka
            rw [if_pos ⟨kt, ka'⟩] at hg
            rw [ka']
            simp [wpx, wpo, wps]
            exact ⟨hE.trans (hE2.trans Ext.one), by rw [missG_none hg.symm]; rfl⟩
        · rw [if_neg kt]
          rw [if_neg (by simp [kt])] at hg
          refine (run_miss_wp (n := n) h.toHJu g1 g2 R.l hcl R.up hcp hcz hn).imp ?_
          rintro x S5 ⟨rfl, rfl⟩
          try simp [wpx, wpo, wps]
          refine (order_wp h.order szM hq (by omega)).imp ?_
          rintro x S6 ⟨rfl, rfl⟩
          by_cases k2 : q < missQ (cutP ps a b) ts
          · have eu : upQ q (missQ (cutP ps a b) ts) = missQ (cutP ps a b) ts := by unfold upQ; rw [if_pos k2]
            rw [eu] at hg
            simp [wpx, wpo, wps, ord_pos, k2]
            exact ⟨hE2.trans Ext.one, missQ (cutP ps a b) ts, b, some (.ref c), some (.ref S3.length), some (rD (missQ (cutP ps a b) ts)), some (.int b), rfl, szM, hg⟩
          · have eu : upQ q (missQ (cutP ps a b) ts) = q := by unfold upQ; rw [if_neg k2]
            rw [eu] at hg
            simp [wpx, wpo, wps, ord_pos, k2]
            exact ⟨hE2.trans Ext.one, q, b, some (.ref c), some (.ref S3.length), some (rD (missQ (cutP ps a b) ts)), some (.int b), rfl, hq, hg⟩
  · rintro e S2 ⟨hE2, q, a, x5, x6, x7, x8, rfl, hq, hg⟩
    refine ⟨hE2.getL hRn.t, ?_⟩
    rw [List.drop_of_length_le (by have := hRn.q.len; simp [smps] at this; simp; omega)] at hg
    simp only [missG] at hg
    have hm2 := hE2.getL hm1
    simp [wpx, wpo, wps, hm2, eqD_int]
    have lm : ps.length < lim := by unfold lim; omega
    by_cases z : a = ps.length
    · simp [wpx, wpo, wps, z]
      refine ⟨hE.trans hE2, ?_⟩
      unfold missW; rw [← hg]; simp [z, valD]
    · have z' : ¬ (a : Int) = (ps.length : Int) := by omega
      simp [wpx, wpo, wps, z, z']
      refine ⟨hE.trans hE2, ?_⟩
      unfold missW; rw [← hg]; simp [z, valD]
end
end Lt
set_option maxRecDepth 100000
set_option maxHeartbeats 2000000
namespace Lt
set_option exponentiation.threshold 9000
open PySem (Str)
open LawT
theorem sz_missG {w : Way} {ps : List P4} {n : Nat} (hp : ∀ p ∈ ps, Sz4 n p) : ∀ {rss : List (List Smp)} {q : Rat} {a : Nat} {r : Rat × Nat}, (∀ ts ∈ rss, RunS n ts) → Sz (8 * n + 11) q → missG w ps rss q a = some r → Sz (8 * n + 11) r.1
  | [], q, a, r, _, hq, h => by
    simp only [missG, Option.some.injEq] at h
    subst h; exact hq
  | ts :: rss, q, a, r, hR, hq, h => by
    have R := hR ts (by simp)
    simp only [missG] at h
    cases hb : behF w ts ps a with
    | none => rw [hb] at h; cases h
    | some b =>
      rw [hb] at h
      dsimp only at h
      split at h
      · cases h
      · obtain ⟨u1, u2, u3⟩ := behF_end R.l1 hb
        have hcp : ∀ p ∈ cutP ps a b, Sz4 n p := fun p h' => hp p (List.mem_of_mem_take (List.mem_of_mem_drop h'))
        have hpc := has_piece u1 u2 u3 R.up
        refine sz_missG hp (fun t ht => hR t (by simp [ht])) ?_ h
        unfold upQ
        split
        · exact sz_miss hcp ⟨by show (0 : Int).natAbs < _; exact Nat.pow_pos (by decide), by show 1 < _; exact Nat.one_lt_two_pow (by omega)⟩ fun s hs => ⟨hpc s hs, R.z s hs⟩
        · exact hq
theorem sz_missW {w : Way} {ps : List P4} {n : Nat} (hp : ∀ p ∈ ps, Sz4 n p) {rss : List (List Smp)} {q : Rat} (hR : ∀ ts ∈ rss, RunS n ts) (h : missW w ps rss = some q) : Sz (8 * n + 11) q := by
  unfold missW at h
  cases hg : missG w ps rss 0 0 with
  | none => rw [hg] at h; cases h
  | some r =>
    rw [hg] at h
    dsimp only at h
    split at h
    · simp only [Option.some.injEq] at h
      subst h
      exact sz_missG hp hR ⟨by show (0 : Int).natAbs < _; exact Nat.pow_pos (by decide), by show 1 < _; exact Nat.one_lt_two_pow (by omega)⟩ hg
    · cases h
def fitB (m : Option Rat) (b : Rat) : Bool := match m with
  | none => false
  | some q => decide (q ≤ b)
section
variable {P : Prog} {F k : Nat} {S : Store} {E : XP}
theorem fits_wp (h : HJv P F) {w : Way} {r m n : Nat} {es : List Ent} {ps : List P4} {b : Rat} (hr : getL S r = some (es.map entD)) (hm : getL S m = some (ps.map p4D)) (hl : es.length ≤ 100) (hR : ∀ ts ∈ sruns es, RunS n ts) (hpl : ps.length ≤ 10000) (hp : ∀ p ∈ ps, Sz4 n p) (hn : n ≤ 400) (hn0 : 1 ≤ n) (hb : Sz 8000 b) :
    Wp (callN P F (k + 7) "fits" [.ref r, wayD w, rD b, .ref m] S) E fun x S' => Ext S S' ∧ x = .bl (fitB (missW w ps (sruns es)) b) := by
  apply wp_has h.fit rfl
  simp only [b_fits]
  try simp [wpx, wpo, wps]
  refine (miss_wp h hr hm hl hR hpl hp hn hn0).imp ?_
  rintro x S1 ⟨hE, rfl⟩
  cases hmw : missW w ps (sruns es) with
  | none =>
    have i1 : isN (valD none) = true := rfl
    simp [wpx, wpo, wps, i1, fitB]
    exact hE
  | some q =>
    have i1 : isN (rD q) = false := rfl
    have sq := sz_missW hp hR hmw
    simp [wpx, wpo, wps, valD, i1, fitB]
    refine (order_wp h.order sq hb (by omega)).imp ?_
    rintro x S2 ⟨rfl, rfl⟩
    by_cases z : q ≤ b
    · simp [wpx, wpo, wps, ord_nonpos, z]
      exact hE
    · simp [wpx, wpo, wps, ord_nonpos, z]
      exact hE
end
end Lt
set_option maxHeartbeats 1000000
namespace Lt
theorem hgt_start {p : P4} : hgtQ p p.1 = p.2.1 := by
  unfold hgtQ
  split
  · rfl
  · have : p.1 - p.1 = 0 := by grind
    rw [this, Rat.div_def, Rat.zero_mul, Rat.mul_zero, Rat.add_zero]
theorem hgt_end {p : P4} (h : p.1 = p.2.2.1 → p.2.1 = p.2.2.2) : hgtQ p p.2.2.1 = p.2.2.2 := by
  unfold hgtQ
  split
  · rename_i e; exact h e
  · rename_i e
    have ne : p.2.2.1 - p.1 ≠ 0 := by grind
    rw [Rat.div_def, Rat.mul_inv_cancel _ ne]
    grind
/-- pieces that hang together agree where they touch -/
theorem hgt_touch {p p' : P4} (h : p.1 = p.2.2.1 → p.2.1 = p.2.2.2) (e1 : p'.1 = p.2.2.1) (e2 : p'.2.1 = p.2.2.2) : hgtQ p p.2.2.1 = hgtQ p' p.2.2.1 := by
  rw [hgt_end h, ← e1, hgt_start, e2]
/-- one run of a telling whose pieces begin one behind the other at samples -/
theorem bapF_cons {ts : List Smp} {ps : List P4} {pl a j : Nat} (hpl : pl < ts.length) (ha : a < ps.length) (e1 : (ps.getD a z4).1 = ((sA ts pl).1 : Rat)) (e2 : patF ts (ps.getD a z4).2.2.1 = (j : Int)) (hj : pl ≤ j) (e3 : (ps.getD a z4).1 = (ps.getD a z4).2.2.1 → (ps.getD a z4).2.1 = (ps.getD a z4).2.2.2) :
    bapF ts ps pl a = bapF ts ps (j + 1) (a + 1) := by
  rw [bapF, if_pos hpl, if_neg (by omega), if_neg (fun z => z.elim (fun z => z e1) (fun z => by omega)), if_neg (fun z => z.2 (e3 z.1))]
  rw [e2, show max pl (j : Int).toNat = j by omega]
theorem bapF_done {ts : List Smp} {ps : List P4} {a : Nat} : bapF ts ps ts.length a = some a := by
  rw [bapF, if_neg (by omega)]
/-- the place of a sample of a run -/
theorem patF_sA {ts : List Smp} (hup : ts.Pairwise fun x y => x.1 < y.1) {j : Nat} (hj : j < ts.length) : patF ts ((sA ts j).1 : Rat) = (j : Int) := by
  have e : sA ts j = ts[j] := by simp [sA, List.getD_eq_getElem?_getD, hj]
  have f : ts.findIdx (fun s => decide (((sA ts j).1 : Rat) = (s.1 : Rat))) = j := by
    rw [List.findIdx_eq hj]
    refine ⟨by rw [e]; simp, fun i hi => ?_⟩
    have := List.pairwise_iff_getElem.mp hup i j (by omega) hj hi
    rw [e]
    have ne : ¬ ((ts[j].1 : Rat) = (ts[i].1 : Rat)) := fun z => by
      have := Rat.intCast_inj.mp z
      omega
    simpa using ne
  unfold patF
  rw [f, if_pos hj]
/-- pieces from a place on that take a run up from a sample on; js are the places of their ends -/
def CutsOk (ts : List Smp) (ps : List P4) : Nat → Nat → List Nat → Prop
  | pl, _, [] => pl = ts.length
  | pl, a, j :: js => pl ≤ j ∧ j < ts.length ∧ a < ps.length ∧ (ps.getD a z4).1 = ((sA ts pl).1 : Rat) ∧ (ps.getD a z4).2.2.1 = ((sA ts j).1 : Rat) ∧ ((ps.getD a z4).1 = (ps.getD a z4).2.2.1 → (ps.getD a z4).2.1 = (ps.getD a z4).2.2.2) ∧ CutsOk ts ps (j + 1) (a + 1) js
theorem bapF_cuts {ts : List Smp} {ps : List P4} (hup : ts.Pairwise fun x y => x.1 < y.1) : ∀ {js : List Nat} {pl a : Nat}, CutsOk ts ps pl a js → bapF ts ps pl a = some (a + js.length)
  | [], pl, a, h => by
    have h : pl = ts.length := h
    subst h
    exact bapF_done
  | j :: js, pl, a, h => by
    obtain ⟨h1, h2, h3, h4, h5, h6, h7⟩ := h
    rw [bapF_cons (j := j) (by omega) h3 h4 (by rw [h5]; exact patF_sA hup h2) h1 h6, bapF_cuts hup h7]
    simp; omega
/-- so many pieces from a place on that hang together up to the run's last sample -/
def HangOk (ts : List Smp) (ps : List P4) : Rat → Option Rat → Nat → Nat → Prop
  | _, _, _, 0 => False
  | here, tall, a, n + 1 => a < ps.length ∧ (ps.getD a z4).1 = here ∧ (tall = none ∨ tall = some (ps.getD a z4).2.1) ∧ (ps.getD a z4).1 < (ps.getD a z4).2.2.1 ∧
      ((n = 0 ∧ (ps.getD a z4).2.2.1 = ((sA ts (ts.length - 1)).1 : Rat)) ∨ ((ps.getD a z4).2.2.1 < ((sA ts (ts.length - 1)).1 : Rat) ∧ HangOk ts ps (ps.getD a z4).2.2.1 (some (ps.getD a z4).2.2.2) (a + 1) n))
theorem bjoF_hang {ts : List Smp} {ps : List P4} (h2 : ts.length ≠ 1) : ∀ {n a : Nat} {here : Rat} {tall : Option Rat}, HangOk ts ps here tall a n → bjoF ts ps here tall a = some (a + n)
  | 0, _, _, _, h => h.elim
  | n + 1, a, here, tall, h => by
    obtain ⟨g1, g2, g3, g4, g5⟩ := h
    have nt : ¬ (tall ≠ none ∧ tall ≠ some (ps.getD a z4).2.1) := fun z => g3.elim z.1 z.2
    rw [bjoF, if_pos g1, if_neg (fun z => z.elim (fun z => z g2) nt), if_neg h2]
    rcases g5 with ⟨rfl, e⟩ | ⟨lt, g6⟩
    · rw [if_neg (fun z => z.elim (fun z => absurd g4 (Rat.not_lt.mpr z)) (fun z => by rw [e] at z; exact absurd z Rat.lt_irrefl)), if_pos e]
    · rw [if_neg (fun z => z.elim (fun z => absurd g4 (Rat.not_lt.mpr z)) (fun z => absurd (Rat.le_of_lt lt) (Rat.not_le.mpr z))), if_neg (fun z => by rw [z] at lt; exact absurd lt Rat.lt_irrefl), bjoF_hang h2 g6]
      congr 1; omega
end Lt
set_option maxRecDepth 100000
set_option maxHeartbeats 2000000
namespace Lt
set_option exponentiation.threshold 9000
open PySem (Str)
open LawT
section
variable {u v : List Smp} {q : Rat} {s a : Nat}
/-- values on one line from s to a -/
def OnL (ts : List Smp) (s a : Nat) (sp : Rat) : Prop := ∀ k, s ≤ k → k ≤ a → (sA ts k).2 = (sA ts s).2 + sp * (((sA ts k).1 : Rat) - ((sA ts s).1 : Rat))
theorem OnL.sub {ts : List Smp} {sp : Rat} (h : OnL ts s a sp) {s' a' : Nat} (h1 : s ≤ s') (h2 : s' ≤ a') (h3 : a' ≤ a) : OnL ts s' a' sp := by
  intro k k1 k2
  have e1 := h k (by omega) (by omega)
  have e2 := h s' h1 (by omega)
  rw [e1, e2]
  grind
end
end Lt
set_option maxRecDepth 100000
set_option maxHeartbeats 2000000
namespace Lt
set_option exponentiation.threshold 9000
open PySem (Str)
open LawT
end Lt
set_option maxRecDepth 100000
set_option maxHeartbeats 1000000
namespace Lt
set_option exponentiation.threshold 9000
open PySem (Str)
/-- a piece has a moment -/
def inP (p : P4) (m : Int) : Prop := p.1 ≤ (m : Rat) ∧ (m : Rat) ≤ p.2.2.1
/-- pieces that take a run up from a sample on, each behind the one ahead -/
def CutsT (ts : List Smp) : Nat → List P4 → Prop
  | pl, [] => pl = ts.length
  | pl, p :: T => ∃ j, pl ≤ j ∧ j < ts.length ∧ p.1 = ((sA ts pl).1 : Rat) ∧ p.2.2.1 = ((sA ts j).1 : Rat) ∧ CutsT ts (j + 1) T
/-- pieces that hang together up to a run's last sample -/
def HangT (ts : List Smp) : Rat → Option Rat → List P4 → Prop
  | here, _, [] => here = ((sA ts (ts.length - 1)).1 : Rat)
  | here, tall, p :: T => p.1 = here ∧ (tall = none ∨ tall = some p.2.1) ∧ p.1 < p.2.2.1 ∧ p.2.2.1 ≤ ((sA ts (ts.length - 1)).1 : Rat) ∧ HangT ts p.2.2.1 (some p.2.2.2) T
theorem sA_mem {ts : List Smp} {i : Nat} (h : i < ts.length) : sA ts i ∈ ts := by
  have e : sA ts i = ts[i] := by simp [sA, List.getD_eq_getElem?_getD, h]
  rw [e]
  exact List.getElem_mem h
theorem mem_sA {ts : List Smp} {s : Smp} (h : s ∈ ts) : ∃ i, i < ts.length ∧ s = sA ts i := by
  obtain ⟨i, hi, rfl⟩ := List.getElem_of_mem h
  exact ⟨i, hi, by simp [sA, List.getD_eq_getElem?_getD, hi]⟩
theorem up_le_iff {ts : List Smp} (hup : ts.Pairwise fun a c => a.1 < c.1) {i j : Nat} (hi : i < ts.length) (hj : j < ts.length) : (((sA ts i).1 : Int) : Rat) ≤ ((sA ts j).1 : Rat) ↔ i ≤ j := by
  rw [Rat.intCast_le_intCast]
  constructor
  · intro h
    apply Classical.byContradiction
    intro z
    have := up_lt hup (show j < i by omega) hi
    omega
  · intro h
    rcases Nat.lt_or_ge i j with z | z
    · have := up_lt hup z hj; omega
    · have : i = j := by omega
      subst this; omega
theorem up_inj {ts : List Smp} (hup : ts.Pairwise fun a c => a.1 < c.1) {i j : Nat} (hi : i < ts.length) (hj : j < ts.length) (h : (((sA ts i).1 : Int) : Rat) = ((sA ts j).1 : Rat)) : i = j := by
  have a := (up_le_iff hup hi hj).mp (by rw [h]; exact Rat.le_refl)
  have b := (up_le_iff hup hj hi).mp (by rw [h]; exact Rat.le_refl)
  omega
def tP (x : Smp × Smp) : P4 := ((x.1.1 : Rat), x.1.2, (x.2.1 : Rat), x.2.2)
def gT (ts : List Smp) (tied : Bool) (x : Nat × Nat) : P4 := tP (sA ts x.1, sA ts (epT tied x.2))
theorem TelP.mem : ∀ {ps : List (List Smp)} {T : List P4}, TelP ps T → ∀ p ∈ T, ∃ part ∈ ps, PieceP part p
  | [], [], _, p, hp => nomatch hp
  | a :: ps, d :: T, h, p, hp => by
    rcases List.mem_cons.mp hp with rfl | hp
    · exact ⟨a, by simp, h.1⟩
    · obtain ⟨part, h1, h2⟩ := TelP.mem h.2 p hp
      exact ⟨part, by simp [h1], h2⟩
end Lt
set_option maxRecDepth 100000
set_option maxHeartbeats 2000000
namespace Lt
set_option exponentiation.threshold 9000
open PySem (Str)
open LawT
instance {p : P4} {m : Int} : Decidable (inP p m) := inferInstanceAs (Decidable (_ ∧ _))
theorem le_num {q : Rat} {m : Int} : q.num ≤ m * (q.den : Int) ↔ q ≤ (m : Rat) := by
  have d := den_posQ q
  rw [← Rat.intCast_le_intCast, Rat.intCast_mul, num_eq, mul_le_right d]
theorem ge_num {q : Rat} {m : Int} : m * (q.den : Int) ≤ q.num ↔ (m : Rat) ≤ q := by
  have d := den_posQ q
  rw [← Rat.intCast_le_intCast, Rat.intCast_mul, num_eq, mul_le_right d]
/-- each sample lies in some piece -/
theorem cuts_cov {ts : List Smp} (hup : ts.Pairwise fun a c => a.1 < c.1) : ∀ {T : List P4} {pl : Nat}, CutsT ts pl T → ∀ x, pl ≤ x → x < ts.length → ∃ p ∈ T, inP p (sA ts x).1
  | [], pl, h, x, h1, h2 => by
    have h : pl = ts.length := h
    omega
  | p :: T, pl, ⟨j, h1, h2, h3, h4, h5⟩, x, hx, hl => by
    by_cases c : x ≤ j
    · refine ⟨p, by simp, ?_, ?_⟩
      · rw [h3]; exact (up_le_iff hup (by omega) hl).mpr hx
      · rw [h4]; exact (up_le_iff hup hl h2).mpr c
    · obtain ⟨p', hp', hin⟩ := cuts_cov hup h5 x (by omega) hl
      exact ⟨p', by simp [hp'], hin⟩
theorem hang_cov {ts : List Smp} (hup : ts.Pairwise fun a c => a.1 < c.1) : ∀ {T : List P4} {here : Rat} {tall : Option Rat}, T ≠ [] → HangT ts here tall T → ∀ x, x < ts.length → here ≤ ((sA ts x).1 : Rat) → ∃ p ∈ T, inP p (sA ts x).1
  | [], _, _, h, _, _, _, _ => absurd rfl h
  | p :: T, here, tall, _, ⟨h1, h2, h3, h4, h5⟩, x, hl, hx => by
    by_cases c : ((sA ts x).1 : Rat) ≤ p.2.2.1
    · exact ⟨p, by simp, by rw [h1]; exact hx, c⟩
    · have lt : p.2.2.1 < ((sA ts x).1 : Rat) := Rat.not_le.mp c
      cases T with
      | nil =>
        have h5 : p.2.2.1 = ((sA ts (ts.length - 1)).1 : Rat) := h5
        rw [h5] at lt
        have := (up_le_iff hup hl (show ts.length - 1 < ts.length by omega)).mpr (by omega)
        exact absurd lt (Rat.not_lt.mpr this)
      | cons p2 T2 =>
        obtain ⟨p', hp', hin⟩ := hang_cov hup (by simp) h5 x hl (Rat.le_of_lt lt)
        exact ⟨p', by simp at hp' ⊢; exact .inr hp', hin⟩
end Lt
set_option maxRecDepth 100000
set_option maxHeartbeats 1000000
namespace Lt
set_option exponentiation.threshold 9000
open PySem (Str)
/-- how the pieces of a run lie -/
structure LieT (w : Way) (ts : List Smp) (T : List P4) : Prop where
  one : ∀ p ∈ T, p.1 = p.2.2.1 → p.2.1 = p.2.2.2
  cut : w.loose = true → CutsT ts 0 T
  hang : w.loose = false → 2 ≤ ts.length → HangT ts ((sA ts 0).1 : Rat) none T
  lone : w.loose = false → ts.length = 1 → ∃ p, T = [p] ∧ p.1 = ((sA ts 0).1 : Rat) ∧ p.2.2.1 = ((sA ts 0).1 : Rat)
  on : w.free = false → ∀ p ∈ T, onP ts p = true
/-- of a run, whichever way -/
structure LieG (ts : List Smp) (T : List P4) : Prop where
  mono : T.Pairwise fun p p' => p.1 ≤ p'.1
  cov : ∀ s ∈ ts, ∃ p ∈ T, inP p s.1
  agr : ∀ p ∈ T, ∀ p' ∈ T, ∀ s ∈ ts, inP p s.1 → inP p' s.1 → hgtQ p (s.1 : Rat) = hgtQ p' (s.1 : Rat)
  lo : ∀ p ∈ T, ((sA ts 0).1 : Rat) ≤ p.1
  hi : ∀ p ∈ T, p.2.2.1 ≤ ((sA ts (ts.length - 1)).1 : Rat)
theorem cuts_ge {ts : List Smp} (hup : ts.Pairwise fun a c => a.1 < c.1) : ∀ {T : List P4} {pl : Nat}, CutsT ts pl T → ∀ p ∈ T, pl < ts.length ∧ ((sA ts pl).1 : Rat) ≤ p.1 ∧ p.2.2.1 ≤ ((sA ts (ts.length - 1)).1 : Rat)
  | [], _, _, p, hp => nomatch hp
  | a :: T, pl, ⟨j, h1, h2, h3, h4, h5⟩, p, hp => by
    rcases List.mem_cons.mp hp with rfl | hp
    · exact ⟨by omega, by rw [h3]; exact Rat.le_refl, by rw [h4]; exact (up_le_iff hup h2 (by omega)).mpr (by omega)⟩
    · obtain ⟨g1, g2, g3⟩ := cuts_ge hup h5 p hp
      exact ⟨by omega, Rat.le_trans ((up_le_iff hup (by omega) g1).mpr (by omega)) g2, g3⟩
theorem hang_ge {ts : List Smp} : ∀ {T : List P4} {here : Rat} {tall : Option Rat}, HangT ts here tall T → ∀ p ∈ T, here ≤ p.1 ∧ p.2.2.1 ≤ ((sA ts (ts.length - 1)).1 : Rat)
  | [], _, _, _, p, hp => nomatch hp
  | a :: T, here, tall, ⟨h1, h2, h3, h4, h5⟩, p, hp => by
    rcases List.mem_cons.mp hp with rfl | hp
    · exact ⟨by rw [h1]; exact Rat.le_refl, h4⟩
    · obtain ⟨g1, g2⟩ := hang_ge h5 p hp
      exact ⟨by rw [← h1]; exact Rat.le_trans (Rat.le_of_lt h3) g1, g2⟩
theorem cuts_lie {ts : List Smp} (hup : ts.Pairwise fun a c => a.1 < c.1) : ∀ {T : List P4} {pl : Nat}, CutsT ts pl T → (T.Pairwise fun p p' => p.1 ≤ p'.1) ∧ ∀ p ∈ T, ∀ p' ∈ T, ∀ s ∈ ts, inP p s.1 → inP p' s.1 → p = p'
  | [], _, _ => ⟨List.Pairwise.nil, fun p hp => nomatch hp⟩
  | a :: T, pl, ⟨j, h1, h2, h3, h4, h5⟩ => by
    obtain ⟨i1, i2⟩ := cuts_lie hup h5
    have far : ∀ p ∈ T, j + 1 < ts.length ∧ ((sA ts (j + 1)).1 : Rat) ≤ p.1 := fun p hp => ⟨(cuts_ge hup h5 p hp).1, (cuts_ge hup h5 p hp).2.1⟩
    have no : ∀ p ∈ T, ∀ s : Smp, inP a s.1 → inP p s.1 → False := fun p hp s ha hp' => by
      obtain ⟨g1, g2⟩ := far p hp
      have l1 : (((sA ts j).1 : Int) : Rat) < ((sA ts (j + 1)).1 : Rat) := Rat.intCast_lt_intCast.mpr (up_lt hup (by omega) g1)
      have l2 := ha.2
      rw [h4] at l2
      have l3 := Rat.le_trans g2 hp'.1
      exact absurd (Rat.le_trans l3 l2) (Rat.not_le.mpr l1)
    refine ⟨List.pairwise_cons.mpr ⟨fun p hp => ?_, i1⟩, fun p hp p' hp' s hs c1 c2 => ?_⟩
    · obtain ⟨g1, g2⟩ := far p hp
      rw [h3]
      exact Rat.le_trans ((up_le_iff hup (by omega) g1).mpr (by omega)) g2
    · rcases List.mem_cons.mp hp with h | h <;> rcases List.mem_cons.mp hp' with h' | h'
      · rw [h, h']
      · rw [h] at c1
        exact (no p' h' s c1 c2).elim
      · rw [h'] at c2
        exact (no p h s c2 c1).elim
      · exact i2 p h p' h' s hs c1 c2
theorem hang_lie {ts : List Smp} : ∀ {T : List P4} {here : Rat} {tall : Option Rat}, HangT ts here tall T → (T.Pairwise fun p p' => p.1 ≤ p'.1) ∧ ∀ p ∈ T, ∀ p' ∈ T, ∀ s : Smp, inP p s.1 → inP p' s.1 → hgtQ p (s.1 : Rat) = hgtQ p' (s.1 : Rat)
  | [], _, _, _ => ⟨List.Pairwise.nil, fun p hp => nomatch hp⟩
  | a :: T, here, tall, ⟨h1, h2, h3, h4, h5⟩ => by
    obtain ⟨i1, i2⟩ := hang_lie h5
    have a1 : a.1 = a.2.2.1 → a.2.1 = a.2.2.2 := fun z => by rw [z] at h3; exact absurd h3 Rat.lt_irrefl
    have tch : ∀ p ∈ T, ∀ s : Smp, inP a s.1 → inP p s.1 → hgtQ a (s.1 : Rat) = hgtQ p (s.1 : Rat) := fun p hp s ha hp' => by
      have g := (hang_ge h5 p hp).1
      have e1 : (s.1 : Rat) = a.2.2.1 := Rat.le_antisymm ha.2 (Rat.le_trans g hp'.1)
      have e2 : p.1 = a.2.2.1 := Rat.le_antisymm (by rw [← e1]; exact hp'.1) g
      cases T with
      | nil => cases hp
      | cons b T =>
        obtain ⟨b1, b2, b3, b4, b5⟩ := h5
        have hb : p = b := by
          rcases List.mem_cons.mp hp with rfl | hp
          · rfl
          · have := (hang_ge b5 p hp).1
            rw [e2, ← b1] at this
            exact absurd this (Rat.not_le.mpr b3)
        subst hb
        have e3 : p.2.1 = a.2.2.2 := by
          rcases b2 with z | z
          · cases z
          · exact (Option.some.inj z).symm
        rw [e1]
        exact hgt_touch a1 e2 e3
    refine ⟨List.pairwise_cons.mpr ⟨fun p hp => Rat.le_trans (Rat.le_of_lt h3) (hang_ge h5 p hp).1, i1⟩, fun p hp p' hp' s c1 c2 => ?_⟩
    rcases List.mem_cons.mp hp with h | h <;> rcases List.mem_cons.mp hp' with h' | h'
    · rw [h, h']
    · rw [h] at c1 ⊢
      exact tch p' h' s c1 c2
    · rw [h'] at c2 ⊢
      exact (tch p h s c2 c1).symm
    · exact i2 p h p' h' s c1 c2
theorem LieT.g {w : Way} {ts : List Smp} {T : List P4} (hup : ts.Pairwise fun a c => a.1 < c.1) (h1 : 1 ≤ ts.length) (h : LieT w ts T) : LieG ts T := by
  cases hl : w.loose with
  | true =>
    have hc := h.cut hl
    obtain ⟨i1, i2⟩ := cuts_lie hup hc
    exact ⟨i1, fun s hs => by
      obtain ⟨x, hx, rfl⟩ := mem_sA hs
      exact cuts_cov hup hc x (Nat.zero_le _) hx, fun p hp p' hp' s hs c1 c2 => by rw [i2 p hp p' hp' s hs c1 c2], fun p hp => (cuts_ge hup hc p hp).2.1, fun p hp => (cuts_ge hup hc p hp).2.2⟩
  | false =>
    by_cases h2 : 2 ≤ ts.length
    · have hc := h.hang hl h2
      obtain ⟨i1, i2⟩ := hang_lie hc
      have hne : T ≠ [] := fun z => by
        subst z
        have hc : ((sA ts 0).1 : Rat) = ((sA ts (ts.length - 1)).1 : Rat) := hc
        have := up_inj hup (by omega) (by omega) hc
        omega
      exact ⟨i1, fun s hs => by
        obtain ⟨x, hx, rfl⟩ := mem_sA hs
        exact hang_cov hup hne hc x hx ((up_le_iff hup (by omega) hx).mpr (Nat.zero_le _)), fun p hp p' hp' s hs c1 c2 => i2 p hp p' hp' s c1 c2, fun p hp => (hang_ge hc p hp).1, fun p hp => (hang_ge hc p hp).2⟩
    · obtain ⟨p, rfl, e1, e2⟩ := h.lone hl (by omega)
      have hp1 : ∀ p' ∈ [p], p' = p := fun p' hp' => by simpa using hp'
      refine ⟨by simp, fun s hs => ?_, fun a ha c hc s hs _ _ => by rw [hp1 a ha, hp1 c hc], fun a ha => by rw [hp1 a ha, e1]; exact Rat.le_refl, fun a ha => by rw [hp1 a ha, e2, show ts.length - 1 = 0 by omega]; exact Rat.le_refl⟩
      obtain ⟨x, hx, rfl⟩ := mem_sA hs
      have : x = 0 := by omega
      subst this
      exact ⟨p, by simp, by rw [e1]; exact Rat.le_refl, by rw [e2]; exact Rat.le_refl⟩
/-- the piece that is looked at has the moment -/
theorem LieG.at {ts : List Smp} {T : List P4} (h : LieG ts T) {s : Smp} (hs : s ∈ ts) : pcAt T (s.1 : Rat) < T.length ∧ T.getD (pcAt T (s.1 : Rat)) z4 ∈ T ∧ inP (T.getD (pcAt T (s.1 : Rat)) z4) s.1 := by
  obtain ⟨p, hp, hin⟩ := h.cov s hs
  obtain ⟨j, hj, rfl⟩ := List.getElem_of_mem hp
  have hlt : pcAt T (s.1 : Rat) < T.length := List.findIdx_lt_length_of_exists ⟨T[j], hp, by simpa using hin.2⟩
  have hget : T.getD (pcAt T (s.1 : Rat)) z4 = T[pcAt T (s.1 : Rat)] := by simp [List.getD_eq_getElem?_getD, hlt]
  have hle : pcAt T (s.1 : Rat) ≤ j := by
    apply Classical.byContradiction
    intro z
    have := List.not_of_lt_findIdx (xs := T) (p := fun p => decide ((s.1 : Rat) ≤ p.2.2.1)) (i := j) (by unfold pcAt at z; omega)
    simp at this
    exact this hin.2
  have hend : (s.1 : Rat) ≤ (T[pcAt T (s.1 : Rat)]).2.2.1 := by
    have := List.findIdx_getElem (xs := T) (p := fun p : P4 => decide ((s.1 : Rat) ≤ p.2.2.1)) (w := hlt)
    exact of_decide_eq_true this
  refine ⟨hlt, by rw [hget]; exact List.getElem_mem hlt, ?_⟩
  rw [hget]
  refine ⟨?_, hend⟩
  rcases Nat.lt_or_ge (pcAt T (s.1 : Rat)) j with c | c
  · exact Rat.le_trans (List.pairwise_iff_getElem.mp h.mono _ _ hlt hj c) hin.1
  · have : pcAt T (s.1 : Rat) = j := by omega
    simp only [this]
    exact hin.1
/-- how far a sample lies off, whichever piece that has it is looked at -/
theorem LieG.far {ts : List Smp} {T : List P4} (h : LieG ts T) {s : Smp} (hs : s ∈ ts) {p : P4} (hp : p ∈ T) (hin : inP p s.1) : farQ T s = absQ (s.2 - hgtQ p (s.1 : Rat)) := by
  obtain ⟨_, a2, a3⟩ := h.at hs
  unfold farQ
  rw [h.agr _ a2 p hp s hs a3 hin]
theorem getD_mid {pre T post : List P4} {p : P4} : (pre ++ (p :: T) ++ post).getD pre.length z4 = p := by
  rw [List.getD_eq_getElem?_getD, List.append_assoc, List.getElem?_append_right (Nat.le_refl _)]
  simp
theorem mid_shift {pre T post : List P4} {p : P4} : pre ++ (p :: T) ++ post = (pre ++ [p]) ++ T ++ post := by simp
theorem cuts_ok {ts : List Smp} {post : List P4} : ∀ {T : List P4} {pl : Nat} (pre : List P4), (∀ p ∈ T, p.1 = p.2.2.1 → p.2.1 = p.2.2.2) → CutsT ts pl T → ∃ js : List Nat, js.length = T.length ∧ CutsOk ts (pre ++ T ++ post) pl pre.length js
  | [], pl, pre, _, h => ⟨[], rfl, h⟩
  | p :: T, pl, pre, ho, ⟨j, h1, h2, h3, h4, h5⟩ => by
    obtain ⟨js, e1, e2⟩ := cuts_ok (post := post) (pre ++ [p]) (fun p hp => ho p (by simp [hp])) h5
    refine ⟨j :: js, by simp [e1], h1, h2, by simp, ?_, ?_, ?_, ?_⟩
    · rw [getD_mid]; exact h3
    · rw [getD_mid]; exact h4
    · rw [getD_mid]; exact ho p (by simp)
    · rw [mid_shift]
      simpa using e2
theorem hang_ok {ts : List Smp} {post : List P4} : ∀ {T : List P4} {here : Rat} {tall : Option Rat} (pre : List P4), T ≠ [] → HangT ts here tall T → HangOk ts (pre ++ T ++ post) here tall pre.length T.length
  | [], _, _, _, h, _ => absurd rfl h
  | p :: T, here, tall, pre, _, ⟨h1, h2, h3, h4, h5⟩ => by
    refine ⟨by simp, by rw [getD_mid]; exact h1, by rw [getD_mid]; exact h2, by rw [getD_mid]; exact h3, ?_⟩
    rw [getD_mid]
    cases T with
    | nil => exact .inl ⟨rfl, h5⟩
    | cons b T =>
      right
      have hb := h5
      obtain ⟨b1, b2, b3, b4, b5⟩ := h5
      refine ⟨?_, ?_⟩
      · rw [← b1]
        exact Rat.not_le.mp fun z => absurd b3 (Rat.not_lt.mpr (Rat.le_trans b4 z))
      · have := hang_ok (post := post) (pre ++ [p]) (by simp) hb
        rw [mid_shift]
        simpa using this
theorem beh_lie {w : Way} {ts : List Smp} {T pre post : List P4} (hup : ts.Pairwise fun a c => a.1 < c.1) (h1 : 1 ≤ ts.length) (h : LieT w ts T) : behF w ts (pre ++ T ++ post) pre.length = some (pre.length + T.length) := by
  unfold behF
  cases hl : w.loose with
  | true =>
    rw [if_pos rfl]
    obtain ⟨js, e1, e2⟩ := cuts_ok (post := post) pre h.one (h.cut hl)
    rw [bapF_cuts hup e2, e1]
  | false =>
    rw [if_neg (by decide)]
    by_cases h2 : 2 ≤ ts.length
    · have hc := h.hang hl h2
      have hne : T ≠ [] := fun z => by
        subst z
        have hc : ((sA ts 0).1 : Rat) = ((sA ts (ts.length - 1)).1 : Rat) := hc
        have := up_inj hup (by omega) (by omega) hc
        omega
      exact bjoF_hang (by omega) (hang_ok (post := post) pre hne hc)
    · obtain ⟨p, rfl, e1, e2⟩ := h.lone hl (by omega)
      have ho := h.one p (by simp) (by rw [e1, e2])
      have hg : (pre ++ [p] ++ post).getD pre.length z4 = p := getD_mid
      rw [bjoF, if_pos (by simp), hg, if_neg (fun z => z.elim (fun z => z e1) (fun z => z.1 rfl)), if_pos (by omega), if_pos ⟨e2, ho⟩]
      rfl
/-- run by run -/
inductive LieA (w : Way) : List (List Smp) → List (List P4) → Prop where
  | nil : LieA w [] []
  | cons {ts : List Smp} {T : List P4} {rss : List (List Smp)} {Ts : List (List P4)} (hup : ts.Pairwise fun a c => a.1 < c.1) (h1 : 1 ≤ ts.length) (h : LieT w ts T) (t : LieA w rss Ts) : LieA w (ts :: rss) (T :: Ts)
def missL : List (List Smp) → List (List P4) → Rat → Rat
  | ts :: rss, T :: Ts, q => missL rss Ts (upQ q (missQ T ts))
  | _, _, q => q
theorem missG_lie {w : Way} : ∀ {rss : List (List Smp)} {Ts : List (List P4)} (pre : List P4) (q : Rat), LieA w rss Ts → missG w (pre ++ Ts.flatten) rss q pre.length = some (missL rss Ts q, (pre ++ Ts.flatten).length)
  | _, _, pre, q, .nil => by simp [missG, missL]
  | _, _, pre, q, .cons (ts := ts) (T := T) (rss := rss) (Ts := Ts) hup h1 h t => by
    have hb := beh_lie (pre := pre) (post := Ts.flatten) hup h1 h
    have e : pre ++ (T :: Ts).flatten = pre ++ T ++ Ts.flatten := by simp
    have cut : cutP (pre ++ T ++ Ts.flatten) pre.length (pre.length + T.length) = T := by
      unfold cutP
      rw [List.append_assoc, List.take_append]
      simp
    have hon : ¬ (w.tied = true ∧ T.all (onP ts) = false) := fun ⟨z1, z2⟩ => by
      have hf : w.free = false := by
        unfold Way.tied at z1
        simpa using z1
      have := List.all_eq_true.mpr (h.on hf)
      rw [this] at z2
      cases z2
    rw [e, missG, hb]
    simp only
    rw [cut, if_neg hon]
    have ih := missG_lie (pre ++ T) (upQ q (missQ T ts)) t
    rw [List.length_append] at ih
    rw [ih]
    rfl
theorem missW_lie {w : Way} {rss : List (List Smp)} {Ts : List (List P4)} (h : LieA w rss Ts) : missW w Ts.flatten rss = some (missL rss Ts 0) := by
  have := missG_lie [] 0 h
  unfold missW
  simp only [List.nil_append, List.length_nil] at this
  rw [this]
  simp
theorem upQ_max {a b : Rat} : a ≤ upQ a b ∧ b ≤ upQ a b ∧ (upQ a b = a ∨ upQ a b = b) := by
  unfold upQ
  split
  · rename_i h
    exact ⟨Rat.le_of_lt h, Rat.le_refl, .inr rfl⟩
  · rename_i h
    exact ⟨Rat.le_refl, Rat.not_lt.mp h, .inl rfl⟩
theorem upQ_assoc {a b c : Rat} : upQ (upQ a b) c = upQ a (upQ b c) := by
  obtain ⟨a1, a2, a3⟩ := @upQ_max a b
  obtain ⟨b1, b2, b3⟩ := @upQ_max b c
  obtain ⟨c1, c2, c3⟩ := @upQ_max (upQ a b) c
  obtain ⟨d1, d2, d3⟩ := @upQ_max a (upQ b c)
  apply Rat.le_antisymm
  · rcases c3 with h | h
    · rw [h]
      rcases a3 with h' | h'
      · rw [h']; exact d1
      · rw [h']; exact Rat.le_trans b1 d2
    · rw [h]; exact Rat.le_trans b2 d2
  · rcases d3 with h | h
    · rw [h]; exact Rat.le_trans a1 c1
    · rw [h]
      rcases b3 with h' | h'
      · rw [h']; exact Rat.le_trans a2 c1
      · rw [h']; exact c2
theorem fold_up {α : Type} (f : α → Rat) (q : Rat) : ∀ (l : List α) (w : Rat), l.foldl (fun w s => upQ w (f s)) (upQ q w) = upQ q (l.foldl (fun w s => upQ w (f s)) w)
  | [], w => rfl
  | x :: l, w => by
    rw [List.foldl_cons, List.foldl_cons, upQ_assoc]
    exact fold_up f q l _
theorem upQ_zero {q : Rat} (h : 0 ≤ q) : upQ q 0 = q := by
  unfold upQ
  rw [if_neg (Rat.not_lt.mpr h)]
theorem miss_fold {T : List P4} {ts : List Smp} {q : Rat} (h : 0 ≤ q) : upQ q (missQ T ts) = ts.foldl (fun w s => upQ w (farQ T s)) q := by
  unfold missQ
  rw [← fold_up, upQ_zero h]
theorem missL_nn : ∀ (rss : List (List Smp)) (Ts : List (List P4)) (q : Rat), 0 ≤ q → 0 ≤ missL rss Ts q
  | [], _, q, h => by simpa [missL] using h
  | _ :: _, [], q, h => by simpa [missL] using h
  | ts :: rss, T :: Ts, q, h => missL_nn rss Ts _ (Rat.le_trans h upQ_max.1)
end Lt
set_option maxRecDepth 100000
set_option maxHeartbeats 2000000
namespace LawP
set_option exponentiation.threshold 9000
open Lt LawT
open PySem (Str)
def fuel : Nat := BIG
theorem hF : BIG ≤ fuel := Nat.le_refl _
theorem hS : HS prog := ⟨⟨lk_common, lk_ratio⟩, lk_plus, lk_minus, lk_times, lk_over⟩
theorem hJv : HJv prog fuel := ⟨⟨hS, Nat.le_refl _, lk_order, lk_size, ⟨_, _, lk_place_at, rfl, rfl⟩, ⟨_, _, lk_height_of, rfl, rfl⟩, ⟨_, _, lk_on_samples, rfl, rfl⟩, ⟨_, _, lk_run_miss, rfl, rfl⟩⟩, ⟨_, _, lk_behind_apart, rfl, rfl⟩, ⟨_, _, lk_behind_joined, rfl, rfl⟩, lk_runs, ⟨_, _, lk_miss, rfl, rfl⟩, ⟨_, _, lk_fits, rfl, rfl⟩⟩
theorem hD : HD prog := ⟨lk__law_row, lk__law_cell, lk__law_mix, ⟨_, _, lk__law_shaped, rfl, rfl⟩, ⟨_, _, lk__law_times, rfl, rfl⟩, ⟨_, _, lk__law_picked, rfl, rfl⟩, ⟨_, _, lk__law_drawn, rfl, rfl⟩⟩
theorem hHd : Has prog "_law_handed" 2 5 b__law_handed := ⟨_, _, lk__law_handed, rfl, rfl⟩
theorem hRun : Has prog "_law_runs" 1 4 b__law_runs := ⟨_, _, lk__law_runs, rfl, rfl⟩
theorem hHt : Has prog "_law_height" 2 10 b__law_height := ⟨_, _, lk__law_height, rfl, rfl⟩
section
variable {S : Store}
theorem extend_e {r t : Nat} {xs ys : List D} (h1 : getL S r = some xs) (h2 : getL S t = some ys) (hl : xs.length + ys.length ≤ lim) : extend (.ref r) (.ref t) S = .ok .non (S.set r (.lst (xs ++ ys))) := by
  unfold extend
  simp only [h1, h2]
  rw [if_pos hl]
end
def putQ (num up bd b : Int) : Rat := Rat.divInt (num * 8 + (up - 3) * (bd + 1)) (8 * b)
section
variable {k : Nat} {S S' : Store} {E : XP} {hs : List EnI} {b bd : Int} {r t : Nat} {T : List P4} {w : Way}
theorem put_e {num up : Int} (hn : num.natAbs < 2 ^ 130) (hu : 0 ≤ up ∧ up < 7) (hbd : 0 ≤ bd) (hbd2 : bd.natAbs < 2 ^ 130) (hb : 0 < b) (hb2 : b.natAbs < 2 ^ 90) : callN prog fuel (k + 2) "_law_put" [.int num, .int up, .int bd, .int b] S = .ok (rD (putQ num up bd b)) S := by
  apply eq_of_wp
  apply wp_callN lk__law_put rfl
  simp only [d__law_put]
  have z1 : IZ num 130 := ⟨hn⟩
  have z2 : IZ (up - 3) 10 := ⟨by omega⟩
  have z3 : IZ (bd + 1) 131 := ⟨by omega⟩
  have z4 : IZ b 90 := ⟨hb2⟩
  have z5 : IZ 8 10 := ⟨by decide⟩
  have m1 : Sm num 8 := sm_iz (by omega)
  have m2 : Sm (up - 3) (bd + 1) := sm_iz (by omega)
  have m3 : Sm 8 b := sm_iz (by omega)
  have z6 : IZ (8 * b) 100 := ⟨by omega⟩
  have rt := lratio_e (S := S) (k := k) (i := num * 8 + (up - 3) * (bd + 1)) (j := 8 * b) (m := 100) lk__law_ratio hF (by omega) (by decide)
  simp [wpx, wpo, wps, m1, m2, m3, rt]
  rfl
theorem put_sz {num up : Int} (hn : num.natAbs < 2 ^ 130) (hu : 0 ≤ up ∧ up < 7) (hbd : 0 ≤ bd) (hbd2 : bd.natAbs < 2 ^ 130) (hb : 0 < b) (hb2 : b.natAbs < 2 ^ 90) : Sz 140 (putQ num up bd b) := by
  have h1 : ((up - 3) * (bd + 1)).natAbs < 2 ^ (3 + 131) := natAbs_mul_lt (by omega) (by omega)
  unfold putQ
  refine sz_divInt (by omega) ?_ (by omega)
  generalize (up - 3) * (bd + 1) = y at *
  omega
theorem put_3 {num : Int} (hb : 0 < b) : putQ num 3 bd b = Rat.divInt num b := by
  unfold putQ
  have hc := cast_posI hb
  rw [divInt_eq_div, divInt_eq_div]
  simp only [Rat.intCast_add, Rat.intCast_sub, Rat.intCast_mul]
  have : ((3 : Int) : Rat) - ((3 : Int) : Rat) = 0 := by grind
  rw [this, Rat.zero_mul]
  have h8 : ((8 : Int) : Rat) = 8 := rfl
  rw [h8]
  grind
abbrev Dr := Int × Int × Int × Int
def drL (v : Dr) : List D := [.int v.1, .int v.2.1, .int v.2.2.1, .int v.2.2.2]
structure DrB (tied : Bool) (v : Dr) : Prop where
  a : 0 ≤ v.1 ∧ v.1 < 3
  b : 0 ≤ v.2.1 ∧ v.2.1 < 7
  c : 0 ≤ v.2.2.1 ∧ v.2.2.1 < 7
  d : 0 ≤ v.2.2.2 ∧ v.2.2.2 < 7
  t : tied = true → v.2.1 = 3 ∧ v.2.2.1 = 3
/-- the draws of a part -/
structure DrO (S : Store) (d : Nat) (qs : List Nat) (vs : List Dr) (tied : Bool) : Prop where
  l : getL S d = some (qs.map .ref)
  r : LLD S qs (vs.map drL)
  b : ∀ v ∈ vs, DrB tied v
theorem DrO.ext {d : Nat} {qs : List Nat} {vs : List Dr} {tied : Bool} (h : DrO S d qs vs tied) (e : Ext S S') : DrO S' d qs vs tied := ⟨e.getL h.l, h.r.fr (Fr.of e : Fr [] _ _) (by simp), h.b⟩
theorem DrO.at {d : Nat} {qs : List Nat} {vs : List Dr} {tied : Bool} (h : DrO S d qs vs tied) {i : Nat} (hi : i < vs.length) : ∃ q v, vs[i]? = some v ∧ DrB tied v ∧ (∀ S', itemR (some (qs.map .ref)) (i : Int) S' = .ok (.ref q) S') ∧ getL S q = some (drL v) := by
  have hl : qs.length = vs.length := by
    have := h.r.len
    simpa using this
  obtain ⟨q, hq⟩ : ∃ q, qs[i]? = some q := ⟨_, List.getElem?_eq_getElem (by omega)⟩
  obtain ⟨v, hv⟩ : ∃ v, vs[i]? = some v := ⟨_, List.getElem?_eq_getElem hi⟩
  obtain ⟨rd, hrd, hg⟩ := h.r.get hq
  rw [List.getElem?_map, hv] at hrd
  cases hrd
  exact ⟨q, v, hv, h.b v (List.mem_of_getElem? hv), fun S' => itemR_nat (by rw [List.getElem?_map, hq]; rfl), hg⟩
theorem dr_items {v : Dr} {S' : Store} : itemR (some (drL v)) 0 S' = .ok (.int v.1) S' ∧ itemR (some (drL v)) 1 S' = .ok (.int v.2.1) S' ∧ itemR (some (drL v)) 2 S' = .ok (.int v.2.2.1) S' ∧ itemR (some (drL v)) 3 S' = .ok (.int v.2.2.2) S' := ⟨itemR_nat (i := 0) rfl, itemR_nat (i := 1) rfl, itemR_nat (i := 2) rfl, itemR_nat (i := 3) rfl⟩
/-- numbers of a part -/
structure HeD (hs : List EnI) : Prop where
  up : hs.Pairwise fun a c => a.1 < c.1
  b : ∀ e ∈ hs, e.1.natAbs < 2 ^ 50 ∧ e.2.natAbs < 2 ^ 130
  l : hs.length ≤ 12
  l1 : 1 ≤ hs.length
structure PcO (w : Way) (ts : List Smp) (T : List P4) : Prop where
  sz : ∀ p ∈ T, Sz4 140 p
  one : ∀ p ∈ T, p.1 = p.2.2.1 → p.2.1 = p.2.2.2
  on : w.free = false → ∀ p ∈ T, onP ts p = true
theorem pcO_nil {w : Way} {ts : List Smp} : PcO w ts [] := ⟨fun p hp => (nomatch hp), fun p hp => (nomatch hp), fun _ p hp => (nomatch hp)⟩
theorem PcO.snoc {w : Way} {ts : List Smp} {T : List P4} {p : P4} (h : PcO w ts T) (h1 : Sz4 140 p) (h2 : p.1 = p.2.2.1 → p.2.1 = p.2.2.2) (h3 : w.free = false → onP ts p = true) : PcO w ts (T ++ [p]) := by
  refine ⟨fun p' hp => ?_, fun p' hp => ?_, fun hw p' hp => ?_⟩ <;> rcases List.mem_append.mp hp with hp | hp
  · exact h.sz p' hp
  · rw [List.mem_singleton] at hp; rw [hp]; exact h1
  · exact h.one p' hp
  · rw [List.mem_singleton] at hp; rw [hp]; exact h2
  · exact h.on hw p' hp
  · rw [List.mem_singleton] at hp; rw [hp]; exact h3 hw
def LsR (S S' : Store) (x : D) (w : Way) (ts : List Smp) (m : Nat) (C : List P4 → Prop) : Prop := Ext S S' ∧ ∃ g T, x = .ref g ∧ getL S' g = some (T.map p4D) ∧ T.length ≤ m ∧ C T ∧ PcO w ts T
theorem on_pt {hs : List EnI} {b : Int} {i : Nat} (hi : i < hs.length) : ((((eA hs i).1 : Int) : Rat), Rat.divInt (eA hs i).2 b) ∈ pts (hs.map (smo b)) := by
  unfold pts
  rw [List.map_map]
  exact List.mem_map.mpr ⟨eA hs i, eA_mem hi, rfl⟩
def LoI (S0 : Store) (r d : Nat) (bd b : Int) (hs : List EnI) (w : Way) (i : Nat) (e : Env) (S : Store) : Prop := Ext S0 S ∧ ∃ (st : Nat) (T : List P4) (x6 x7 x8 x9 x10 : Option D), e = [some (.ref r), some (.ref d), some (.int bd), some (.int b), some (.ref S0.length), some (.int st), x6, x7, x8, x9, x10] ∧ getL S S0.length = some (T.map p4D) ∧ T.length ≤ i ∧ st ≤ i ∧ (i = hs.length → st = hs.length) ∧ (∀ T', CutsT (hs.map (smo b)) st T' → CutsT (hs.map (smo b)) 0 (T ++ T')) ∧ PcO w (hs.map (smo b)) T
theorem loose_wp {d : Nat} {qs : List Nat} {vs : List Dr} (hr : getL S r = some (hs.map eiD)) (hd : DrO S d qs vs (!w.free)) (hv : vs.length = hs.length) (hH : HeD hs) (hb : 0 < b) (hb2 : b.natAbs < 2 ^ 90) (hbd : 0 ≤ bd) (hbd2 : bd.natAbs < 2 ^ 130) :
    Wp (callN prog fuel (k + 3) "_law_loose" [.ref r, .ref d, .int bd, .int b] S) E fun x S' => LsR S S' x w (hs.map (smo b)) hs.length (CutsT (hs.map (smo b)) 0) := by
  apply wp_callN lk__law_loose rfl
  simp only [d__law_loose]
  have hrA : getL (S ++ [Cell.lst []]) r = some (hs.map eiD) := getL_app_l hr
  have hl12 := hH.l
  have hl1 := hH.l1
  simp [wpx, wpo, wps, hrA]
  refine for_rng (LoI S r d bd b hs w) (by omega) (by omega) (by omega) (by omega) ⟨Ext.one, 0, [], _, _, _, _, _, rfl, getL_new, Nat.le_refl _, Nat.le_refl _, fun z => by omega, fun T' h => h, pcO_nil⟩ ?_ ?_
  · rintro i e S1 hi ⟨f, st, T, x6, x7, x8, x9, x10, rfl, g, hTl, hst, hend, hC, hO⟩
    have hi2 : i < hs.length := by omega
    refine ⟨_, bind_name (by simp), ?_⟩
    have hr1 := f.getL hr
    have hd1 := hd.ext f
    obtain ⟨q, v, hvi, hvB, qi, gq⟩ := hd1.at (show i < vs.length by omega)
    have dl := hd1.l
    have i0 : ∀ S, itemR (some (drL v)) 0 S = .ok (.int v.1) S := fun S => dr_items.1
    have i1 : ∀ S, itemR (some (drL v)) 1 S = .ok (.int v.2.1) S := fun S => dr_items.2.1
    have i2 : ∀ S, itemR (some (drL v)) 2 S = .ok (.int v.2.2.1) S := fun S => dr_items.2.2.1
    have rs := fun S => eA_item (S := S) (hs := hs) (i := st) (by omega)
    have ri := fun S => eA_item (S := S) hi2
    have bs := hH.b _ (eA_mem (show st < hs.length by omega))
    have bi := hH.b _ (eA_mem hi2)
    have p1 := fun S => put_e (k := k) (S := S) (b := b) bs.2 hvB.b hbd hbd2 hb hb2
    have p2 := fun S => put_e (k := k) (S := S) (b := b) bi.2 hvB.c hbd hbd2 hb hb2
    have lt : (T.map p4D).length < lim := by rw [List.length_map]; unfold lim; omega
    have hup : (hs.map (smo b)).Pairwise fun a c => a.1 < c.1 := by
      rw [List.pairwise_map]
      exact hH.up
    have len : (hs.map (smo b)).length = hs.length := List.length_map _
    have sm : ∀ j, ((sA (hs.map (smo b)) j).1 : Rat) = ((eA hs j).1 : Rat) := fun j => by rw [sA_eA]; rfl
    have zm : ∀ j, j < hs.length → Sz 140 ((eA hs j).1 : Rat) := fun j hj => (sz_int (hH.b _ (eA_mem hj)).1 (by decide)).mono (by decide)
    have done : ∀ (S2 : Store) (h1 h2 : Rat) (x7 x8 x9 x10 : Option D), Ext S S2 → getL S2 S.length = some (T.map p4D) → Sz 140 h1 → Sz 140 h2 → (st = i → h1 = h2) → (w.free = false → h1 = Rat.divInt (eA hs st).2 b ∧ h2 = Rat.divInt (eA hs i).2 b) → LoI S r d bd b hs w (i + 1) [some (.ref r), some (.ref d), some (.int bd), some (.int b), some (.ref S.length), some (.int ((i : Int) + 1)), some (.int i), x7, x8, x9, x10] (S2.set S.length (.lst (T.map p4D ++ [.tup [.tup [.int (eA hs st).1, .int 1], rD h1, .tup [.int (eA hs i).1, .int 1], rD h2]]))) := fun S2 h1 h2 x7 x8 x9 x10 f2 g2 z1 z2 he ht => by
      refine ⟨f2.set (Nat.le_refl _), i + 1, T ++ [(((eA hs st).1 : Rat), h1, ((eA hs i).1 : Rat), h2)], _, _, _, _, _, rfl, ?_, by simp; omega, Nat.le_refl _, fun z => z, fun T' hT' => ?_, hO.snoc ⟨zm st (by omega), z1, zm i hi2, z2⟩ (fun z => ?_) (fun hw => ?_)⟩
      · rw [List.map_append]
        exact getL_set (getL_lt g2)
      · rw [List.append_assoc]
        refine hC _ ⟨i, hst, by omega, (sm st).symm, (sm i).symm, hT'⟩
      · refine he (up_inj hup (by omega) (by omega) ?_)
        rw [sm, sm]
        exact z
      · obtain ⟨e1, e2⟩ := ht hw
        subst e1; subst e2
        unfold onP
        rw [Bool.and_eq_true]
        exact ⟨decide_eq_true (on_pt (by omega)), decide_eq_true (on_pt hi2)⟩
    by_cases cut : i = hs.length - 1 ∨ v.1 = 0
    · have z1 := put_sz (b := b) bs.2 hvB.b hbd hbd2 hb hb2
      have z2 := put_sz (b := b) bi.2 hvB.c hbd hbd2 hb hb2
      have tt : w.free = false → putQ (eA hs st).2 v.2.1 bd b = Rat.divInt (eA hs st).2 b ∧ putQ (eA hs i).2 v.2.2.1 bd b = Rat.divInt (eA hs i).2 b := fun hw => by
        obtain ⟨t1, t2⟩ := hvB.t (by rw [hw]; rfl)
        rw [t1, t2]
        exact ⟨put_3 hb, put_3 hb⟩
      by_cases ce : st = i
      · subst ce
        have fin := done S1 _ _ (some (rD (putQ (eA hs st).2 v.2.1 bd b))) (some (rD (putQ (eA hs st).2 v.2.1 bd b))) (some (eiD (eA hs st))) (some (eiD (eA hs st))) f g z1 z1 (fun _ => rfl) (fun hw => ⟨(tt hw).1, (tt hw).1⟩)
        by_cases c1 : (hs.length : Int) - 1 = (st : Int)
        · simp [wpx, wpo, wps, hr1, dl, qi, gq, rs, ri, p1, p2, i0, i1, i2, eqD_int, c1, ei_seq, g, - List.length_set]
          exact ⟨by simpa using lt, fin⟩
        · have c1' : ¬ (st : Int) = (hs.length : Int) - 1 := fun z => c1 z.symm
          have c2 : v.1 = 0 := cut.resolve_left (by omega)
          simp [wpx, wpo, wps, hr1, dl, qi, gq, rs, ri, p1, p2, i0, i1, i2, eqD_int, c1', c2, ei_seq, g, - List.length_set]
          exact ⟨by simpa using lt, fin⟩
      · have ce' : ¬ (st : Int) = (i : Int) := by omega
        have fin := done S1 _ _ (some (rD (putQ (eA hs st).2 v.2.1 bd b))) (some (rD (putQ (eA hs i).2 v.2.2.1 bd b))) (some (eiD (eA hs st))) (some (eiD (eA hs i))) f g z1 z2 (fun z => absurd z ce) tt
        by_cases c1 : (hs.length : Int) - 1 = (i : Int)
        · simp [wpx, wpo, wps, hr1, dl, qi, gq, rs, ri, p1, p2, i0, i1, i2, eqD_int, c1, ce, ce', ei_seq, g, - List.length_set]
          exact ⟨by simpa using lt, fin⟩
        · have c1' : ¬ (i : Int) = (hs.length : Int) - 1 := fun z => c1 z.symm
          have c2 : v.1 = 0 := cut.resolve_left (by omega)
          simp [wpx, wpo, wps, hr1, dl, qi, gq, rs, ri, p1, p2, i0, i1, i2, eqD_int, c1', c2, ce, ce', ei_seq, g, - List.length_set]
          exact ⟨by simpa using lt, fin⟩
    · have c1 : ¬ i = hs.length - 1 := fun z => cut (.inl z)
      have c2 : ¬ v.1 = 0 := fun z => cut (.inr z)
      have c1' : ¬ (i : Int) = (hs.length : Int) - 1 := by omega
      simp [wpx, wpo, wps, hr1, dl, qi, gq, i0, eqD_int, c1', c2]
      exact ⟨f, st, T, _, _, _, _, _, rfl, g, by omega, by omega, fun z => by omega, hC, hO⟩
  · rintro e S1 ⟨f, st, T, x6, x7, x8, x9, x10, rfl, g, hTl, hst, hend, hC, hO⟩
    have es : st = hs.length := hend (by omega)
    have hc := hC [] (by show st = _; rw [List.length_map]; exact es)
    rw [List.append_nil] at hc
    simp [wpx, wpo, wps]
    exact ⟨f, _, T, rfl, g, by omega, hc, hO⟩
def ndP (a b : Rat × Rat) : P4 := (a.1, a.2, b.1, b.2)
def pcsN : List (Rat × Rat) → List P4
  | a :: b :: r => ndP a b :: pcsN (b :: r)
  | _ => []
theorem pcsN_len : ∀ N : List (Rat × Rat), (pcsN N).length = N.length - 1
  | [] => rfl
  | [_] => rfl
  | a :: b :: r => by
    have := pcsN_len (b :: r)
    simp [pcsN, this]
theorem pcsN_get : ∀ {N : List (Rat × Rat)} {i : Nat} {a b : Rat × Rat}, N[i]? = some a → N[i + 1]? = some b → (pcsN N)[i]? = some (ndP a b)
  | [], i, a, b, h, _ => by simp at h
  | [_], i, a, b, _, h => by simp at h
  | x :: y :: r, 0, a, b, h1, h2 => by
    simp at h1 h2
    subst h1; subst h2
    rfl
  | x :: y :: r, i + 1, a, b, h1, h2 => pcsN_get (N := y :: r) (i := i) (by simpa using h1) (by simpa using h2)
theorem pcsN_mem : ∀ {N : List (Rat × Rat)} {p : P4}, p ∈ pcsN N → ∃ a ∈ N, ∃ b ∈ N, p = ndP a b
  | [], p, h => nomatch h
  | [_], p, h => nomatch h
  | x :: y :: r, p, h => by
    rcases List.mem_cons.mp h with rfl | h
    · exact ⟨x, by simp, y, by simp, rfl⟩
    · obtain ⟨a, ha, b, hb, e⟩ := pcsN_mem (N := y :: r) h
      exact ⟨a, by simp at ha ⊢; exact .inr ha, b, by simp at hb ⊢; exact .inr hb, e⟩
theorem pcsN_lt : ∀ {N : List (Rat × Rat)} {p : P4}, N.Pairwise (fun x y => x.1 < y.1) → p ∈ pcsN N → p.1 < p.2.2.1
  | [], p, _, h => nomatch h
  | [_], p, _, h => nomatch h
  | x :: y :: r, p, hp, h => by
    have hp := List.pairwise_cons.mp hp
    rcases List.mem_cons.mp h with rfl | h
    · exact hp.1 y (by simp)
    · exact pcsN_lt hp.2 h
theorem pcsN_hang {ts : List Smp} : ∀ (N : List (Rat × Rat)) (a : Rat × Rat) (tall : Option Rat), (a :: N).Pairwise (fun x y => x.1 < y.1) → (∀ x ∈ a :: N, x.1 ≤ ((sA ts (ts.length - 1)).1 : Rat)) → ((a :: N).getLast (by simp)).1 = ((sA ts (ts.length - 1)).1 : Rat) → (tall = none ∨ tall = some a.2) → HangT ts a.1 tall (pcsN (a :: N))
  | [], a, tall, _, _, hl, _ => hl
  | b :: r, a, tall, hp, hm, hl, ht => by
    have hp := List.pairwise_cons.mp hp
    refine ⟨rfl, ht, hp.1 b (by simp), hm b (by simp), ?_⟩
    exact pcsN_hang r b (some b.2) hp.2 (fun x hx => hm x (by simp at hx ⊢; exact .inr hx)) (by simpa using hl) (.inr rfl)
def whenQ (hs : List EnI) (i : Nat) (sh : Int) : Rat := Rat.divInt ((eA hs (i - 1)).1 * 7 + ((eA hs i).1 - (eA hs (i - 1)).1) * sh) 7
theorem when_eq {i : Nat} {sh : Int} : whenQ hs i sh * 7 = ((eA hs (i - 1)).1 : Rat) * 7 + (((eA hs i).1 : Rat) - ((eA hs (i - 1)).1 : Rat)) * (sh : Rat) := by
  unfold whenQ
  rw [divInt_eq_div]
  simp only [Rat.intCast_add, Rat.intCast_sub, Rat.intCast_mul]
  have h7 : ((7 : Int) : Rat) = 7 := rfl
  rw [h7]
  grind
theorem when_lt {i : Nat} {sh sh' : Int} (hup : hs.Pairwise fun a c => a.1 < c.1) (h1 : 1 ≤ i) (hi : i < hs.length) (h : sh < sh') : whenQ hs i sh < whenQ hs i sh' := by
  have d := cast_pos (eA_lt hup (show i - 1 < i by omega) hi)
  have e1 := when_eq (hs := hs) (i := i) (sh := sh)
  have e2 := when_eq (hs := hs) (i := i) (sh := sh')
  have l : (sh : Rat) < (sh' : Rat) := Rat.intCast_lt_intCast.mpr h
  have : (((eA hs i).1 : Rat) - ((eA hs (i - 1)).1 : Rat)) * (sh : Rat) < (((eA hs i).1 : Rat) - ((eA hs (i - 1)).1 : Rat)) * (sh' : Rat) := (Rat.mul_lt_mul_left d).mpr l
  grind
theorem when_0 {i : Nat} : whenQ hs i 0 = ((eA hs (i - 1)).1 : Rat) := by
  have e := when_eq (hs := hs) (i := i) (sh := 0)
  have h0 : ((0 : Int) : Rat) = 0 := rfl
  rw [h0] at e
  grind
theorem when_7 {i : Nat} : whenQ hs i 7 = ((eA hs i).1 : Rat) := by
  have e := when_eq (hs := hs) (i := i) (sh := 7)
  have h7 : ((7 : Int) : Rat) = 7 := rfl
  rw [h7] at e
  grind
theorem when_sz {i : Nat} {sh : Int} (hH : HeD hs) (h1 : 1 ≤ i) (hi : i < hs.length) (h : 0 ≤ sh ∧ sh ≤ 7) : Sz 140 (whenQ hs i sh) := by
  have b1 := (hH.b _ (eA_mem (show i - 1 < hs.length by omega))).1
  have b2 := (hH.b _ (eA_mem hi)).1
  have : (((eA hs i).1 - (eA hs (i - 1)).1) * sh).natAbs < 2 ^ (51 + 3) := natAbs_mul_lt (by omega) (by omega)
  unfold whenQ
  refine sz_divInt (by decide) ?_ (by decide)
  generalize ((eA hs i).1 - (eA hs (i - 1)).1) * sh = y at *
  omega
theorem node_e {q i : Nat} {v : Dr} {tied : Bool} (hr : getL S r = some (hs.map eiD)) (hH : HeD hs) (h1 : 1 ≤ i) (hi : i < hs.length) (gq : getL S q = some (drL v)) (hv1 : 0 ≤ v.2.1 ∧ v.2.1 < 7) (hv3 : 0 ≤ v.2.2.2 ∧ v.2.2.2 < 7) (hb : 0 < b) (hb2 : b.natAbs < 2 ^ 90) (hbd : 0 ≤ bd) (hbd2 : bd.natAbs < 2 ^ 130) :
    callN prog fuel (k + 3) "_law_node" [.ref r, .int i, .ref q, .int bd, .int b, .bl tied] S = .ok (lnDD (whenQ hs i (if tied = true then 7 else v.2.2.2 + 1), putQ (eA hs i).2 v.2.1 bd b)) S := by
  apply eq_of_wp
  apply wp_callN lk__law_node rfl
  simp only [d__law_node]
  have i1 : ∀ S, itemR (some (drL v)) 1 S = .ok (.int v.2.1) S := fun S => dr_items.2.1
  have i3 : ∀ S, itemR (some (drL v)) 3 S = .ok (.int v.2.2.2) S := fun S => dr_items.2.2.2
  have ri := fun S => eA_item (S := S) hi
  have rj : ∀ S, itemR (some (hs.map eiD)) ((i : Int) - 1) S = .ok (eiD (eA hs (i - 1))) S := fun S => by
    have e : (i : Int) - 1 = ((i - 1 : Nat) : Int) := by omega
    rw [e]
    exact eA_item (S := S) (by omega)
  have b1 := hH.b _ (eA_mem (show i - 1 < hs.length by omega))
  have b2 := hH.b _ (eA_mem hi)
  have p1 := fun S => put_e (k := k) (S := S) (b := b) b2.2 hv1 hbd hbd2 hb hb2
  have wn : ∀ sh : Int, 0 ≤ sh → sh ≤ 7 → Sm (eA hs (i - 1)).1 7 ∧ Sm ((eA hs i).1 - (eA hs (i - 1)).1) sh ∧ ∀ S, callN prog fuel (k + 2) "_law_ratio" [.int ((eA hs (i - 1)).1 * 7 + ((eA hs i).1 - (eA hs (i - 1)).1) * sh), .int 7] S = .ok (rD (whenQ hs i sh)) S := fun sh s0 s7 => by
    have z1 : IZ (eA hs (i - 1)).1 50 := ⟨b1.1⟩
    have z2 : IZ ((eA hs i).1 - (eA hs (i - 1)).1) 60 := ⟨by omega⟩
    have z3 : IZ sh 10 := ⟨by omega⟩
    have z7 : IZ 7 10 := ⟨by decide⟩
    exact ⟨sm_iz (by omega), sm_iz (by omega), fun S => lratio_e (S := S) (k := k + 1) (m := 10) lk__law_ratio hF (by decide) (by decide)⟩
  unfold lnDD lnD
  cases tied with
  | true =>
    obtain ⟨m1, m2, rt⟩ := wn 7 (by decide) (by decide)
    simp [wpx, wpo, wps, gq, i1, i3, hr, ri, rj, ei_seq, m1, m2, rt, p1]
  | false =>
    obtain ⟨m1, m2, rt⟩ := wn (v.2.2.2 + 1) (by omega) (by omega)
    simp [wpx, wpo, wps, gq, i1, i3, hr, ri, rj, ei_seq, m1, m2, rt, p1]
structure NdO (hs : List EnI) (b : Int) (tied : Bool) (N : List (Rat × Rat)) (i : Nat) : Prop where
  hd : ∃ h N', N = (((eA hs 0).1 : Rat), h) :: N'
  up : N.Pairwise fun x y => x.1 < y.1
  le : ∀ x ∈ N, x.1 ≤ ((eA hs i).1 : Rat)
  lt : ∀ x ∈ N, x.1 < ((eA hs (hs.length - 1)).1 : Rat)
  l : N.length ≤ 1 + 2 * i
  sz : ∀ x ∈ N, Sz 140 x.1 ∧ Sz 140 x.2
  on : tied = true → ∀ x ∈ N, x ∈ pts (hs.map (smo b))
theorem NdO.snoc {tied : Bool} {N : List (Rat × Rat)} {i : Nat} {x : Rat × Rat} (hd : ∃ h N', N = (((eA hs 0).1 : Rat), h) :: N') (up : N.Pairwise fun x y => x.1 < y.1) (lt : ∀ x ∈ N, x.1 < ((eA hs (hs.length - 1)).1 : Rat)) (sz : ∀ x ∈ N, Sz 140 x.1 ∧ Sz 140 x.2) (on : tied = true → ∀ x ∈ N, x ∈ pts (hs.map (smo b)))
    (le : ∀ y ∈ N, y.1 ≤ ((eA hs i).1 : Rat)) (h1 : ∀ y ∈ N, y.1 < x.1) (h2 : x.1 ≤ ((eA hs i).1 : Rat)) (h3 : x.1 < ((eA hs (hs.length - 1)).1 : Rat)) (h4 : Sz 140 x.1 ∧ Sz 140 x.2) (h5 : tied = true → x ∈ pts (hs.map (smo b))) (hl : N.length + 1 ≤ 1 + 2 * i) : NdO hs b tied (N ++ [x]) i := by
  have mem : ∀ {P : Rat × Rat → Prop}, (∀ y ∈ N, P y) → P x → ∀ y ∈ N ++ [x], P y := fun {P} a c y hy => by
    rcases List.mem_append.mp hy with h | h
    · exact a y h
    · rw [List.mem_singleton] at h; rw [h]; exact c
  obtain ⟨h, N', rfl⟩ := hd
  refine ⟨⟨h, N' ++ [x], rfl⟩, ?_, mem le h2, mem lt h3, by simp at hl ⊢; omega, mem sz h4, fun ht => mem (on ht) (h5 ht)⟩
  rw [List.pairwise_append]
  exact ⟨up, by simp, fun a ha c hc => by rw [List.mem_singleton] at hc; rw [hc]; exact h1 a ha⟩
def HuI (S0 : Store) (r d : Nat) (bd b : Int) (hs : List EnI) (tied : Bool) (x5 : Option D) (i : Nat) (e : Env) (S : Store) : Prop := Ext S0 S ∧ ∃ (N : List (Rat × Rat)) (x7 x8 x9 x11 : Option D), e = [some (.ref r), some (.ref d), some (.int bd), some (.int b), some (.bl tied), x5, some (.ref S0.length), x7, x8, x9, none, x11] ∧ getL S S0.length = some (N.map lnDD) ∧ NdO hs b tied N i
theorem hung_wp {d : Nat} {qs : List Nat} {vs : List Dr} (hr : getL S r = some (hs.map eiD)) (hd : DrO S d qs vs (decide (w = .chain))) (hv : vs.length = hs.length) (hH : HeD hs) (h2 : 2 ≤ hs.length) (hw : w.loose = false) (hb : 0 < b) (hb2 : b.natAbs < 2 ^ 90) (hbd : 0 ≤ bd) (hbd2 : bd.natAbs < 2 ^ 130) :
    Wp (callN prog fuel (k + 4) "_law_hung" [.ref r, .ref d, .int bd, .int b, .bl (decide (w = .chain))] S) E fun x S' => LsR S S' x w (hs.map (smo b)) (2 * hs.length) (HangT (hs.map (smo b)) ((eA hs 0).1 : Rat) none) := by
  apply wp_callN lk__law_hung rfl
  simp only [d__law_hung]
  have hfree : w.free = !(decide (w = .chain)) := by cases w <;> first | rfl | cases hw
  generalize decide (w = .chain) = tied at *
  have hl12 := hH.l
  have n1 : ¬ (hs.length : Int) = 1 := by omega
  have len : (hs.map (smo b)).length = hs.length := List.length_map _
  have e1l : ∀ {a c : Nat}, a ≤ c → c < hs.length → ((eA hs a).1 : Rat) ≤ ((eA hs c).1 : Rat) := fun {a c} hac hc => by
    rcases Nat.lt_or_ge a c with h | h
    · exact Rat.le_of_lt (Rat.intCast_lt_intCast.mpr (eA_lt hH.up h hc))
    · have : a = c := by omega
      rw [this]; exact Rat.le_refl
  have e1t : ∀ {a c : Nat}, a < c → c < hs.length → ((eA hs a).1 : Rat) < ((eA hs c).1 : Rat) := fun {a c} hac hc => Rat.intCast_lt_intCast.mpr (eA_lt hH.up hac hc)
  have zm : ∀ j, j < hs.length → Sz 140 ((eA hs j).1 : Rat) := fun j hj => (sz_int (hH.b _ (eA_mem hj)).1 (by decide)).mono (by decide)
  obtain ⟨q0, v0, hv0, hB0, qi0, gq0⟩ := hd.at (show 0 < vs.length by omega)
  have qi0' : ∀ S', itemR (some (qs.map .ref)) 0 S' = .ok (.ref q0) S' := qi0
  have c0 : ∀ S, itemR (some (drL v0)) 2 S = .ok (.int v0.2.2.1) S := fun S => dr_items.2.2.1
  have r0 : ∀ S, itemR (some (hs.map eiD)) 0 S = .ok (eiD (eA hs 0)) S := fun S => eA_item (S := S) (i := 0) (by omega)
  have bb0 := hH.b _ (eA_mem (show 0 < hs.length by omega))
  have p0 := fun S => put_e (k := k + 1) (S := S) (b := b) bb0.2 hB0.c hbd hbd2 hb hb2
  simp [wpx, wpo, wps, hr, eqD_int, n1, r0, ei_seq, hd.l, qi0', gq0, c0, p0]
  have g0 : getL (S ++ [Cell.lst [.tup [.tup [.int (eA hs 0).1, .int 1], rD (putQ (eA hs 0).2 v0.2.2.1 bd b)]]]) S.length = some ([(((eA hs 0).1 : Rat), putQ (eA hs 0).2 v0.2.2.1 bd b)].map lnDD) := getL_new
  have xA : Ext S (S ++ [Cell.lst [.tup [.tup [.int (eA hs 0).1, .int 1], rD (putQ (eA hs 0).2 v0.2.2.1 bd b)]]]) := Ext.one
  have hrA := xA.getL hr
  have hfst : NdO hs b tied [(((eA hs 0).1 : Rat), putQ (eA hs 0).2 v0.2.2.1 bd b)] 0 := ⟨⟨_, [], rfl⟩, by simp, by simp, by simpa using e1t (show 0 < hs.length - 1 by omega) (by omega), by simp, by simpa using ⟨zm 0 (by omega), put_sz (b := b) bb0.2 hB0.c hbd hbd2 hb hb2⟩, fun ht => by
    have := (hB0.t ht).2
    rw [this, put_3 hb]
    simpa using on_pt (b := b) (show 0 < hs.length by omega)⟩
  generalize S ++ [Cell.lst [.tup [.tup [.int (eA hs 0).1, .int 1], rD (putQ (eA hs 0).2 v0.2.2.1 bd b)]]] = SA at *
  simp [wpx, wpo, wps, hrA]
  refine for_rng (HuI S r d bd b hs tied (some (.tup [.int (eA hs 0).1, .int 1]))) (by omega) (by omega) (by omega) (by omega) ⟨xA, _, _, _, _, _, rfl, g0, hfst⟩ ?_ ?_
  · rintro i e S1 hi ⟨f, N, x7, x8, x9, x11, rfl, g, hN⟩
    have hi2 : i + 1 < hs.length := by omega
    refine ⟨_, bind_name (by simp), ?_⟩
    have hr1 := f.getL hr
    have hd1 := hd.ext f
    obtain ⟨q, v, hvi, hvB, qi, gq⟩ := hd1.at (show i + 1 < vs.length by omega)
    have qi' : ∀ S', itemR (some (qs.map .ref)) (1 + (i : Int)) S' = .ok (.ref q) S' := fun S' => by
      have := qi S'
      rw [show ((i + 1 : Nat) : Int) = 1 + (i : Int) from by omega] at this
      exact this
    have dl := hd1.l
    have i0 : ∀ S, itemR (some (drL v)) 0 S = .ok (.int v.1) S := fun S => dr_items.1
    have i2 : ∀ S, itemR (some (drL v)) 2 S = .ok (.int v.2.2.1) S := fun S => dr_items.2.2.1
    have i3 : ∀ S, itemR (some (drL v)) 3 S = .ok (.int v.2.2.2) S := fun S => dr_items.2.2.2
    have keep : ∀ x7 x8 x9 x11, HuI S r d bd b hs tied (some (.tup [.int (eA hs 0).1, .int 1])) (i + 1) [some (.ref r), some (.ref d), some (.int bd), some (.int b), some (.bl tied), some (.tup [.int (eA hs 0).1, .int 1]), some (.ref S.length), x7, x8, x9, none, x11] S1 := fun x7 x8 x9 x11 => by
      refine ⟨f, N, _, _, _, _, rfl, g, hN.hd, hN.up, fun x hx => Rat.le_trans (hN.le x hx) (e1l (Nat.le_succ i) hi2), hN.lt, by have := hN.l; omega, hN.sz, hN.on⟩
    by_cases cut : (i + 1 < hs.length - 1 ∨ (tied = false ∧ v.2.2.2 < 6)) ∧ v.1 = 0
    · obtain ⟨inn, v0'⟩ := cut
      have sh1 : 1 ≤ (if tied = true then 7 else v.2.2.2 + 1 : Int) ∧ (if tied = true then 7 else v.2.2.2 + 1 : Int) ≤ 7 := by
        have := hvB.d
        split <;> omega
      have nd1 := node_e (k := k) (tied := tied) hr1 hH (by omega) hi2 gq hvB.b hvB.d hb hb2 hbd hbd2
      rw [show ((i + 1 : Nat) : Int) = 1 + (i : Int) from by omega] at nd1
      have w0 : whenQ hs (i + 1) 0 = ((eA hs i).1 : Rat) := when_0
      have w7 : whenQ hs (i + 1) 7 = ((eA hs (i + 1)).1 : Rat) := when_7
      have wlt := fun (a c : Int) (hac : a < c) => when_lt (i := i + 1) (sh := a) (sh' := c) hH.up (by omega) hi2 hac
      have wle : ∀ a : Int, a ≤ 7 → whenQ hs (i + 1) a ≤ ((eA hs (i + 1)).1 : Rat) := fun a ha => by
        rw [← w7]
        rcases Int.lt_or_eq_of_le ha with h | h
        · exact Rat.le_of_lt (wlt _ _ h)
        · rw [h]; exact Rat.le_refl
      have bs := hH.b _ (eA_mem hi2)
      have lend : ((eA hs (i + 1)).1 : Rat) ≤ ((eA hs (hs.length - 1)).1 : Rat) := e1l (by omega) (by omega)
      have hN1 : NdO hs b tied (N ++ [(whenQ hs (i + 1) (if tied = true then 7 else v.2.2.2 + 1), putQ (eA hs (i + 1)).2 v.2.1 bd b)]) (i + 1) := by
        refine NdO.snoc hN.hd hN.up hN.lt hN.sz hN.on (fun x hx => Rat.le_trans (hN.le x hx) (e1l (Nat.le_succ i) hi2)) (fun y hy => Std.lt_of_le_of_lt (hN.le y hy) ?_) (wle _ sh1.2) ?_ ⟨when_sz hH (by omega) hi2 ⟨by omega, sh1.2⟩, put_sz (b := b) bs.2 hvB.b hbd hbd2 hb hb2⟩ (fun ht => ?_) (by have := hN.l; omega)
        · rw [← w0]; exact wlt _ _ (by omega)
        · rcases inn with h | ⟨h1, h2⟩
          · exact Std.lt_of_le_of_lt (wle _ sh1.2) (e1t h (by omega))
          · refine Std.lt_of_lt_of_le ?_ lend
            rw [← w7]
            refine wlt _ _ ?_
            rw [h1]; simp; omega
        · show (whenQ hs (i + 1) (if tied = true then 7 else v.2.2.2 + 1), putQ (eA hs (i + 1)).2 v.2.1 bd b) ∈ _
          rw [(hvB.t ht).1, put_3 hb, if_pos ht, w7]
          exact on_pt hi2
      have inE : ∀ {Q : D → Store → Prop}, Q (.bl true) S1 → Wp (ev (prog.cx fuel (callN prog fuel (k + 3))) ((Ex.cmp Cm.lt (Ex.var 7) (Ex.bin Op.sub (Ex.bi Bi.len [Ex.var 0]) (Ex.int 1))).or ((Ex.var 4).not.and (Ex.cmp Cm.lt (((Ex.var 1).idx (Ex.var 7)).idx (Ex.int 3)) (Ex.int 6)))) [some (.ref r), some (.ref d), some (.int bd), some (.int b), some (.bl tied), some (.tup [.int (eA hs 0).1, .int 1]), some (.ref S.length), some (.int (1 + (i : Int))), x8, x9, none, x11] S1) E Q := fun {Q} hQ => by
        by_cases c1 : i + 1 < hs.length - 1
        · have c1' : 1 + (i : Int) < (hs.length : Int) - 1 := by omega
          simp [wpx, wpo, wps, hr1, c1']
          exact hQ
        · have c1' : ¬ 1 + (i : Int) < (hs.length : Int) - 1 := by omega
          obtain ⟨h1, h2⟩ := inn.resolve_left c1
          subst h1
          simp [wpx, wpo, wps, hr1, dl, qi', gq, i3, c1', h2]
          exact hQ
      have ltN : (N.map lnDD).length < lim := by have := hN.l; rw [List.length_map]; unfold lim; omega
      have x2 : Ext S (S1.set S.length (.lst (N.map lnDD ++ [lnDD (whenQ hs (i + 1) (if tied = true then 7 else v.2.2.2 + 1), putQ (eA hs (i + 1)).2 v.2.1 bd b)]))) := f.set (Nat.le_refl _)
      have g2 : getL (S1.set S.length (.lst (N.map lnDD ++ [lnDD (whenQ hs (i + 1) (if tied = true then 7 else v.2.2.2 + 1), putQ (eA hs (i + 1)).2 v.2.1 bd b)]))) S.length = some (N.map lnDD ++ [lnDD (whenQ hs (i + 1) (if tied = true then 7 else v.2.2.2 + 1), putQ (eA hs (i + 1)).2 v.2.1 bd b)]) := getL_set (getL_lt g)
      have fin : ∀ x9 x11, HuI S r d bd b hs tied (some (.tup [.int (eA hs 0).1, .int 1])) (i + 1) [some (.ref r), some (.ref d), some (.int bd), some (.int b), some (.bl tied), some (.tup [.int (eA hs 0).1, .int 1]), some (.ref S.length), some (.int (1 + (i : Int))), x8, x9, none, x11] (S1.set S.length (.lst (N.map lnDD ++ [lnDD (whenQ hs (i + 1) (if tied = true then 7 else v.2.2.2 + 1), putQ (eA hs (i + 1)).2 v.2.1 bd b)]))) := fun x9 x11 => by
        refine ⟨x2, _, _, _, _, _, rfl, ?_, hN1⟩
        rw [List.map_append]
        exact g2
      simp only [List.set_cons_succ, List.set_cons_zero]
      rw [wp_cons, exS_asg, wpS_toS]
      refine inE ?_
      simp [wpx, wpo, wps, hr1, dl, qi', gq, i0, eqD_int, v0', nd1, g]
      refine ⟨by simpa using ltN, ?_⟩
      generalize hS2 : S1.set S.length (.lst (N.map lnDD ++ [lnDD (whenQ hs (i + 1) (if tied = true then 7 else v.2.2.2 + 1), putQ (eA hs (i + 1)).2 v.2.1 bd b)])) = S2 at *
      cases tied with
      | true => exact fin _ _
      | false =>
        have hd2 := hd.ext x2
        have gl2 := hd2.l
        have hr2 := x2.getL hr
        obtain ⟨q2, v2, hv2, -, qi2, gq2⟩ := hd2.at (show i + 1 < vs.length by omega)
        rw [hvi] at hv2
        cases hv2
        have qi2' : ∀ S', itemR (some (qs.map .ref)) (1 + (i : Int)) S' = .ok (.ref q2) S' := fun S' => by
          have := qi2 S'
          rw [show ((i + 1 : Nat) : Int) = 1 + (i : Int) from by omega] at this
          exact this
        by_cases c5 : v.2.2.2 < 5
        · by_cases c4 : v.2.2.1 < 4
          · have hrB : getL (S2 ++ [Cell.lst [.int 0, .int v.2.2.1, .int 0, .int (v.2.2.2 + 1)]]) r = some (hs.map eiD) := getL_app_l hr2
            have gqB : getL (S2 ++ [Cell.lst [.int 0, .int v.2.2.1, .int 0, .int (v.2.2.2 + 1)]]) S2.length = some (drL (0, v.2.2.1, 0, v.2.2.2 + 1)) := getL_new
            have gB : getL (S2 ++ [Cell.lst [.int 0, .int v.2.2.1, .int 0, .int (v.2.2.2 + 1)]]) S.length = some (N.map lnDD ++ [lnDD (whenQ hs (i + 1) (v.2.2.2 + 1), putQ (eA hs (i + 1)).2 v.2.1 bd b)]) := getL_app_l g2
            have xB : Ext S (S2 ++ [Cell.lst [.int 0, .int v.2.2.1, .int 0, .int (v.2.2.2 + 1)]]) := x2.app
            have nd2 := node_e (k := k) (tied := false) (v := (0, v.2.2.1, 0, v.2.2.2 + 1)) hrB hH (by omega) hi2 gqB ⟨hvB.c.1, hvB.c.2⟩ ⟨by have := hvB.d; show 0 ≤ v.2.2.2 + 1; omega, by show v.2.2.2 + 1 < 7; omega⟩ hb hb2 hbd hbd2
            rw [show ((i + 1 : Nat) : Int) = 1 + (i : Int) from by omega] at nd2
            have e2 : (if false = true then 7 else v.2.2.2 + 1 + 1 : Int) = v.2.2.2 + 1 + 1 := rfl
            simp only [e2] at nd2
            have hN2 : NdO hs b false ((N ++ [(whenQ hs (i + 1) (v.2.2.2 + 1), putQ (eA hs (i + 1)).2 v.2.1 bd b)]) ++ [(whenQ hs (i + 1) (v.2.2.2 + 1 + 1), putQ (eA hs (i + 1)).2 v.2.2.1 bd b)]) (i + 1) := by
              have hN1 : NdO hs b false (N ++ [(whenQ hs (i + 1) (v.2.2.2 + 1), putQ (eA hs (i + 1)).2 v.2.1 bd b)]) (i + 1) := hN1
              have d0 := hvB.d.1
              refine NdO.snoc hN1.hd hN1.up hN1.lt hN1.sz hN1.on hN1.le (fun y hy => ?_) (wle _ (by omega)) ?_ ⟨when_sz hH (by omega) hi2 ⟨by omega, by omega⟩, put_sz (b := b) bs.2 hvB.c hbd hbd2 hb hb2⟩ (fun ht => nomatch ht) (by have := hN.l; simp; omega)
              · rcases List.mem_append.mp hy with h | h
                · refine Std.lt_of_le_of_lt (hN.le y h) ?_
                  rw [← w0]; exact wlt _ _ (by omega)
                · rw [List.mem_singleton] at h
                  rw [h]
                  exact wlt _ _ (by omega)
              · refine Std.lt_of_lt_of_le ?_ lend
                rw [← w7]
                exact wlt _ _ (by omega)
            simp [wpx, wpo, wps, hr2, gl2, qi2', gq2, i2, i3, c5, c4, nd2, gB]
            refine ⟨by have := hN.l; unfold lim; omega, xB.set (Nat.le_refl _), _, _, _, _, _, rfl, ?_, hN2⟩
            rw [getL_set (getL_lt gB)]
            simp
          · simp [wpx, wpo, wps, hr2, gl2, qi2', gq2, i2, i3, c5, c4]
            exact fin _ _
        · simp [wpx, wpo, wps, hr2, gl2, qi2', gq2, i2, i3, c5]
          exact fin _ _
    · by_cases c1 : i + 1 < hs.length - 1
      · have c1' : 1 + (i : Int) < (hs.length : Int) - 1 := by omega
        have c2 : ¬ v.1 = 0 := fun z => cut ⟨.inl c1, z⟩
        simp [wpx, wpo, wps, hr1, dl, qi', gq, i0, i3, eqD_int, c1', c2]
        exact keep _ _ _ _
      · have c1' : ¬ 1 + (i : Int) < (hs.length : Int) - 1 := by omega
        cases tied with
        | true =>
          simp [wpx, wpo, wps, hr1, dl, qi', gq, i0, i3, eqD_int, c1']
          exact keep _ _ _ _
        | false =>
          by_cases c3 : v.2.2.2 < 6
          · have c2 : ¬ v.1 = 0 := fun z => cut ⟨.inr ⟨rfl, c3⟩, z⟩
            simp [wpx, wpo, wps, hr1, dl, qi', gq, i0, i3, eqD_int, c1', c2, c3]
            exact keep _ _ _ _
          · simp [wpx, wpo, wps, hr1, dl, qi', gq, i0, i3, eqD_int, c1', c3]
            exact keep _ _ _ _
  · rintro e S1 ⟨f, N, x7, x8, x9, x11, rfl, g, hN⟩
    rw [show ((hs.length : Int) - 1).toNat = hs.length - 1 from by omega] at hN
    have hr1 := f.getL hr
    have hd1 := hd.ext f
    have dl := hd1.l
    obtain ⟨q, v, hvi, hvB, qi, gq⟩ := hd1.at (show hs.length - 1 < vs.length by omega)
    have hql : qs.length = hs.length := by
      have := hd.r.len
      simp at this
      omega
    have i2 : ∀ S, itemR (some (drL v)) 2 S = .ok (.int v.2.2.1) S := fun S => dr_items.2.2.1
    have rl : ∀ S', itemR (some (hs.map eiD)) (-1) S' = .ok (eiD (eA hs (hs.length - 1))) S' := fun S' => itemR_last (by
      rw [List.getLast?_eq_getElem?, List.length_map, List.getElem?_map]
      unfold eA
      simp [List.getD, show hs.length - 1 < hs.length by omega])
    have ql : ∀ S', itemR (some (qs.map D.ref)) (-1) S' = .ok (.ref q) S' := fun S' => itemR_last (by
      have e := qi S1
      rw [List.getLast?_eq_getElem?, List.length_map, hql]
      obtain ⟨x, hx⟩ : ∃ x, (qs.map D.ref)[hs.length - 1]? = some x := ⟨_, List.getElem?_eq_getElem (by simp; omega)⟩
      rw [itemR_nat hx] at e
      cases e
      exact hx)
    have bl := hH.b _ (eA_mem (show hs.length - 1 < hs.length by omega))
    have pl := fun S => put_e (k := k + 1) (S := S) (b := b) bl.2 hvB.c hbd hbd2 hb hb2
    have hup := hN.up
    have hM : (N ++ [(((eA hs (hs.length - 1)).1 : Rat), putQ (eA hs (hs.length - 1)).2 v.2.2.1 bd b)]).Pairwise fun x y => x.1 < y.1 := by
      rw [List.pairwise_append]
      exact ⟨hup, by simp, fun a ha c hc => by rw [List.mem_singleton] at hc; rw [hc]; exact hN.lt a ha⟩
    have hLe : ∀ x ∈ N ++ [(((eA hs (hs.length - 1)).1 : Rat), putQ (eA hs (hs.length - 1)).2 v.2.2.1 bd b)], x.1 ≤ ((eA hs (hs.length - 1)).1 : Rat) := fun x hx => by
      rcases List.mem_append.mp hx with h | h
      · exact Rat.le_of_lt (hN.lt x h)
      · rw [List.mem_singleton] at h; rw [h]; exact Rat.le_refl
    have hSz : ∀ x ∈ N ++ [(((eA hs (hs.length - 1)).1 : Rat), putQ (eA hs (hs.length - 1)).2 v.2.2.1 bd b)], Sz 140 x.1 ∧ Sz 140 x.2 := fun x hx => by
      rcases List.mem_append.mp hx with h | h
      · exact hN.sz x h
      · rw [List.mem_singleton] at h; rw [h]; exact ⟨zm _ (by omega), put_sz (b := b) bl.2 hvB.c hbd hbd2 hb hb2⟩
    have hOn : tied = true → ∀ x ∈ N ++ [(((eA hs (hs.length - 1)).1 : Rat), putQ (eA hs (hs.length - 1)).2 v.2.2.1 bd b)], x ∈ pts (hs.map (smo b)) := fun ht x hx => by
      rcases List.mem_append.mp hx with h | h
      · exact hN.on ht x h
      · rw [List.mem_singleton] at h; rw [h, (hvB.t ht).2, put_3 hb]
        exact on_pt (by omega)
    have gB : getL (S1.set S.length (.lst (N.map lnDD ++ [.tup [.tup [.int (eA hs (hs.length - 1)).1, .int 1], rD (putQ (eA hs (hs.length - 1)).2 v.2.2.1 bd b)]]))) S.length = some ((N ++ [(((eA hs (hs.length - 1)).1 : Rat), putQ (eA hs (hs.length - 1)).2 v.2.2.1 bd b)]).map lnDD) := by
      rw [getL_set (getL_lt g), List.map_append]
      rfl
    have xB : Ext S (S1.set S.length (.lst (N.map lnDD ++ [.tup [.tup [.int (eA hs (hs.length - 1)).1, .int 1], rD (putQ (eA hs (hs.length - 1)).2 v.2.2.1 bd b)]]))) := f.set (Nat.le_refl _)
    obtain ⟨hh, N', hNe⟩ := hN.hd
    have hNl := hN.l
    simp [wpx, wpo, wps, hr1, dl, rl, ql, gq, i2, pl, g, ei_seq, - List.map_append]
    refine ⟨by unfold lim; omega, ?_⟩
    have hlen : (N ++ [(((eA hs (hs.length - 1)).1 : Rat), putQ (eA hs (hs.length - 1)).2 v.2.2.1 bd b)]).length = N.length + 1 := by simp
    have hlst : (N ++ [(((eA hs (hs.length - 1)).1 : Rat), putQ (eA hs (hs.length - 1)).2 v.2.2.1 bd b)]).getLast? = some (((eA hs (hs.length - 1)).1 : Rat), putQ (eA hs (hs.length - 1)).2 v.2.2.1 bd b) := by simp
    have hcons : ∃ M', N ++ [(((eA hs (hs.length - 1)).1 : Rat), putQ (eA hs (hs.length - 1)).2 v.2.2.1 bd b)] = (((eA hs 0).1 : Rat), hh) :: M' := ⟨N' ++ [_], by rw [hNe]; rfl⟩
    generalize N ++ [(((eA hs (hs.length - 1)).1 : Rat), putQ (eA hs (hs.length - 1)).2 v.2.2.1 bd b)] = M at *
    generalize S1.set S.length (.lst (N.map lnDD ++ [.tup [.tup [.int (eA hs (hs.length - 1)).1, .int 1], rD (putQ (eA hs (hs.length - 1)).2 v.2.2.1 bd b)]])) = SB at *
    simp [wpx, wpo, wps, gB, hlen, wipeE]
    refine lc_rng (fun i acc S2 => S2 = SB ∧ acc = ((pcsN M).take i).map p4D) (by omega) (by omega) (by omega) (by omega) ⟨rfl, rfl⟩ ?_ ?_
    · rintro i acc S2 hi ⟨rfl, rfl⟩
      refine ⟨_, bind_name (by simp), ?_⟩
      obtain ⟨x, hx⟩ : ∃ x, M[i]? = some x := ⟨_, List.getElem?_eq_getElem (by omega)⟩
      obtain ⟨y, hy⟩ : ∃ y, M[i + 1]? = some y := ⟨_, List.getElem?_eq_getElem (by omega)⟩
      have ix : ∀ S', itemR (some (M.map lnDD)) (i : Int) S' = .ok (lnDD x) S' := fun S' => itemR_nat (by rw [List.getElem?_map, hx]; rfl)
      have iy : ∀ S', itemR (some (M.map lnDD)) ((i : Int) + 1) S' = .ok (lnDD y) S' := fun S' => itemR_nat (i := i + 1) (by rw [List.getElem?_map, hy]; rfl)
      have l4 : 2 + 2 ≤ lim := by unfold lim; omega
      have hp := pcsN_get hx hy
      simp [wpx, wpo, wps, gB, ix, iy, lnDD, lnD, l4]
      refine ⟨by have := pcsN_len M; unfold lim; omega, ?_⟩
      rw [List.take_add_one, List.getElem?_map, hp]
      rfl
    · rintro acc S2 ⟨rfl, rfl⟩
      obtain ⟨M', rfl⟩ := hcons
      have hpl := pcsN_len ((((eA hs 0).1 : Rat), hh) :: M')
      rw [show ((N.length : Int) - 0).toNat = N.length from by omega, List.take_of_length_le (by omega)]
      have sml : ((sA (hs.map (smo b)) ((hs.map (smo b)).length - 1)).1 : Rat) = ((eA hs (hs.length - 1)).1 : Rat) := by rw [len, sA_eA]; rfl
      refine ⟨xB.app, _, _, rfl, getL_new, by omega, ?_, ?_, ?_, ?_⟩
      · refine pcsN_hang _ _ _ hM (fun x hx => by rw [sml]; exact hLe x hx) ?_ (.inl rfl)
        rw [sml]
        have e := hlst
        rw [List.getLast?_eq_some_getLast (by simp)] at e
        rw [Option.some.inj e]
      · intro p hp
        obtain ⟨x, hx, y, hy, rfl⟩ := pcsN_mem hp
        exact ⟨(hSz x hx).1, (hSz x hx).2, (hSz y hy).1, (hSz y hy).2⟩
      · intro p hp he
        exact absurd he (Rat.ne_of_lt (pcsN_lt hM hp))
      · intro hf p hp
        obtain ⟨x, hx, y, hy, rfl⟩ := pcsN_mem hp
        have ht : tied = true := by
          rw [hfree] at hf
          simpa using hf
        unfold onP
        rw [Bool.and_eq_true]
        exact ⟨decide_eq_true (hOn ht x hx), decide_eq_true (hOn ht y hy)⟩
def LoneT (hs : List EnI) (T : List P4) : Prop := ∃ p, T = [p] ∧ p.1 = ((eA hs 0).1 : Rat) ∧ p.2.2.1 = ((eA hs 0).1 : Rat)
theorem lone_wp {q : Nat} {v : Dr} {tied : Bool} (hr : getL S r = some (hs.map eiD)) (hH : HeD hs) (h1 : hs.length = 1) (gq : getL S q = some (drL v)) (hB : DrB tied v) (hw : w.free = false → tied = true) (hb : 0 < b) (hb2 : b.natAbs < 2 ^ 90) (hbd : 0 ≤ bd) (hbd2 : bd.natAbs < 2 ^ 130) :
    Wp (callN prog fuel (k + 3) "_law_lone" [.ref r, .ref q, .int bd, .int b] S) E fun x S' => LsR S S' x w (hs.map (smo b)) (2 * hs.length) (LoneT hs) := by
  apply wp_callN lk__law_lone rfl
  simp only [d__law_lone]
  have i1 : ∀ S, itemR (some (drL v)) 1 S = .ok (.int v.2.1) S := fun S => dr_items.2.1
  have r0 : ∀ S, itemR (some (hs.map eiD)) 0 S = .ok (eiD (eA hs 0)) S := fun S => eA_item (S := S) (i := 0) (by omega)
  have bb0 := hH.b _ (eA_mem (show 0 < hs.length by omega))
  have p0 := fun S => put_e (k := k) (S := S) (b := b) bb0.2 hB.b hbd hbd2 hb hb2
  have z0 : Sz 140 ((eA hs 0).1 : Rat) := (sz_int bb0.1 (by decide)).mono (by decide)
  have z1 := put_sz (b := b) bb0.2 hB.b hbd hbd2 hb hb2
  simp [wpx, wpo, wps, hr, gq, r0, i1, p0, ei_seq]
  refine ⟨Ext.one, S.length, [(((eA hs 0).1 : Rat), putQ (eA hs 0).2 v.2.1 bd b, ((eA hs 0).1 : Rat), putQ (eA hs 0).2 v.2.1 bd b)], rfl, getL_new, by simp; omega, ⟨_, rfl, rfl, rfl⟩, pcO_nil.snoc ⟨z0, z1, z0, z1⟩ (fun _ => rfl) fun hf => ?_⟩
  have ht := hw hf
  rw [(hB.t ht).1, put_3 hb]
  unfold onP
  rw [Bool.and_eq_true]
  exact ⟨decide_eq_true (on_pt (by omega)), decide_eq_true (on_pt (by omega))⟩
theorem hung1_wp {d : Nat} {qs : List Nat} {vs : List Dr} (hr : getL S r = some (hs.map eiD)) (hd : DrO S d qs vs (decide (w = .chain))) (hv : vs.length = hs.length) (hH : HeD hs) (h1 : hs.length = 1) (hw : w.loose = false) (hb : 0 < b) (hb2 : b.natAbs < 2 ^ 90) (hbd : 0 ≤ bd) (hbd2 : bd.natAbs < 2 ^ 130) :
    Wp (callN prog fuel (k + 4) "_law_hung" [.ref r, .ref d, .int bd, .int b, .bl (decide (w = .chain))] S) E fun x S' => LsR S S' x w (hs.map (smo b)) (2 * hs.length) (LoneT hs) := by
  apply wp_callN lk__law_hung rfl
  simp only [d__law_hung]
  obtain ⟨q0, v0, hv0, hB0, qi0, gq0⟩ := hd.at (show 0 < vs.length by omega)
  have qi0' : ∀ S', itemR (some (qs.map .ref)) 0 S' = .ok (.ref q0) S' := qi0
  simp [wpx, wpo, wps, hr, eqD_int, h1, hd.l, qi0']
  refine (lone_wp (w := w) hr hH h1 gq0 hB0 (fun hf => by cases w <;> first | rfl | (cases hf; done) | (cases hw; done)) hb hb2 hbd hbd2).imp ?_
  rintro x S1 h
  rw [h1] at h
  exact h
def zsO : List Int := 3 :: (List.replicate 12 [3, 7, 7, 7]).flatten
theorem zsO_get : ∀ K : Fin 12, zsO[4 * K.1 + 1]? = some 3 ∧ zsO[4 * K.1 + 2]? = some 7 ∧ zsO[4 * K.1 + 3]? = some 7 ∧ zsO[4 * K.1 + 4]? = some 7 := by decide
theorem zsO_pos : ∀ z ∈ zsO, 0 < z ∧ z < 2 ^ 8000 := fun z hz => by
  have h2 : (2 : Int) ^ 60 < 2 ^ 8000 := Int.pow_lt_pow_of_lt (by decide) (by decide)
  have : 0 < z ∧ z < 1000 := by
    revert z
    decide
  omega
theorem cut4 {n : Nat} {f : Nat → Int} {c : Int} {K : Nat} (hc : c = K) (h : 4 * K + 5 ≤ n) : cutD (((List.range n).map f).map D.int) (some (4 * c + 1)) (some (4 * c + 5)) = drL (f (4 * K + 1), f (4 * K + 2), f (4 * K + 3), f (4 * K + 4)) := by
  subst hc
  rw [cutD_B (by omega) (by omega), show (4 * (K : Int) + 1).toNat = 4 * K + 1 from by omega, show (4 * (K : Int) + 5).toNat - (4 * K + 1) = 4 from by omega]
  apply List.ext_getElem?
  intro i
  rw [List.getElem?_take, List.getElem?_drop]
  by_cases hi : i < 4
  · rw [if_pos hi, List.getElem?_map, List.getElem?_map, List.getElem?_range (by omega)]
    have : i = 0 ∨ i = 1 ∨ i = 2 ∨ i = 3 := by omega
    rcases this with rfl | rfl | rfl | rfl <;> rfl
  · rw [if_neg hi]
    rw [List.getElem?_eq_none (by simp [drL]; omega)]
structure RwO (rd : List D) (f : Nat → Int) : Prop where
  it : ∀ S, itemR (some rd) 0 S = .ok (.int (f 0)) S
  cut : ∀ (c : Int) (K : Nat), c = K → K < 12 → cutD rd (some (4 * c + 1)) (some (4 * c + 5)) = drL (f (4 * K + 1), f (4 * K + 2), f (4 * K + 3), f (4 * K + 4))
  b0 : 0 ≤ f 0 ∧ f 0 < 3
  b : ∀ K, K < 12 → (0 ≤ f (4 * K + 1) ∧ f (4 * K + 1) < 3) ∧ (0 ≤ f (4 * K + 2) ∧ f (4 * K + 2) < 7) ∧ (0 ≤ f (4 * K + 3) ∧ f (4 * K + 3) < 7) ∧ (0 ≤ f (4 * K + 4) ∧ f (4 * K + 4) < 7)
theorem rwO {ns : List Int} {p : Int} : RwO ((rowF ns p zsO).map .int) (drawF ns p zsO) := by
  refine ⟨fun S => itemR_nat (i := 0) rfl, fun c K hc hK => ?_, draw_bd (i := 0) rfl (by decide), fun K hK => ?_⟩
  · have : zsO.length = 49 := by decide
    unfold rowF
    exact cut4 hc (by omega)
  · obtain ⟨h1, h2, h3, h4⟩ := zsO_get ⟨K, hK⟩
    exact ⟨draw_bd h1 (by decide), draw_bd h2 (by decide), draw_bd h3 (by decide), draw_bd h4 (by decide)⟩
def OwR (S S' : Store) (x : D) (w : Way) (rss : List (List Smp)) : Prop := Ext S S' ∧ ∃ g Ts, x = .ref g ∧ getL S' g = some (Ts.flatten.map p4D) ∧ LieA w rss Ts ∧ (∀ p ∈ Ts.flatten, Sz4 140 p) ∧ Ts.flatten.length ≤ 24
theorem _root_.Lt.LieA.snoc {w : Way} {ts : List Smp} {T : List P4} (hup : ts.Pairwise fun a c => a.1 < c.1) (h1 : 1 ≤ ts.length) (h : LieT w ts T) : ∀ {rss : List (List Smp)} {Ts : List (List P4)}, LieA w rss Ts → LieA w (rss ++ [ts]) (Ts ++ [T])
  | _, _, .nil => .cons hup h1 h .nil
  | _, _, .cons a c d t => .cons a c d (snoc hup h1 h t)
def OwI (S0 : Store) (d : D) (p : Int) (t : Nat) (w : Way) (bd b : Int) (z pc : Nat) (rd : List D) (rs : List (List EnI)) (j : Nat) (e : Env) (S : Store) : Prop := Ext S0 S ∧ ∃ (c : Int) (Ts : List (List P4)) (x9 x10 x11 x12 : Option D), e = [some d, some (.int p), some (.ref t), some (wayD w), some (.int bd), some (.int b), some (.ref z), some (.ref pc), some (.int c), x9, x10, x11, x12] ∧ c = ((rs.take j).flatten.length : Int) ∧ getL S z = some rd ∧ getL S pc = some (Ts.flatten.map p4D) ∧ LieA w ((rs.take j).map fun hs => hs.map (smo b)) Ts ∧ (∀ p ∈ Ts.flatten, Sz4 140 p) ∧ Ts.flatten.length ≤ 2 * (rs.take j).flatten.length
def OdI (B : Store) (d : D) (p : Int) (t : Nat) (w : Way) (bd b : Int) (z pc : Nat) (x9 : Option D) (c0 : Int) (i : Nat) (e : Env) (S : Store) : Prop := Ext B S ∧ ∃ (c : Int) (qs : List Nat) (vs : List Dr) (x11 x12 : Option D), e = [some d, some (.int p), some (.ref t), some (wayD w), some (.int bd), some (.int b), some (.ref z), some (.ref pc), some (.int c), x9, some (.ref B.length), x11, x12] ∧ c = c0 + i ∧ DrO S B.length qs vs (!w.free) ∧ (∀ q ∈ qs, B.length < q) ∧ vs.length = i
theorem own_wp {d : D} {ns : List Int} {p : Int} (hdd : lstOf S d = some (ns.map .int)) (hp0 : 0 ≤ p) (hp : p < 2 ^ 29) {t : Nat} {qs : List Nat} {rs : List (List EnI)} (ht : getL S t = some (qs.map .ref)) (hL : LLD S qs (eis rs)) (hH : ∀ hs ∈ rs, HeD hs) (hn : rs.flatten.length ≤ 12) (hb : 0 < b) (hb2 : b.natAbs < 2 ^ 90) (hbd : 0 ≤ bd) (hbd2 : bd.natAbs < 2 ^ 130) :
    Wp (callN prog fuel (k + 5) "_law_own_telling" [d, .int p, .ref t, wayD w, .int bd, .int b] S) E fun x S' => OwR S S' x w (rs.map fun hs => hs.map (smo b)) := by
  apply wp_callN lk__law_own_telling rfl
  simp only [d__law_own_telling]
  have hl48 : 12 * 4 ≤ lim := by unfold lim; omega
  have hl49 : 1 + 48 ≤ lim := by unfold lim; omega
  simp [wpx, wpo, wps, hl48]
  refine ⟨by unfold lim; omega, ?_⟩
  refine (row_wp (zs := zsO) hD.row hD.cell hD.mix (Ext.one.lstOf hdd) hp0 (by omega) (by simp [getL]; rfl) zsO_pos (by decide)).imp ?_
  rintro x S1 ⟨f1, z, rfl, gz⟩
  have fS1 : Ext S S1 := Ext.one.trans f1
  have rO := rwO (ns := ns) (p := p)
  generalize (rowF ns p zsO).map D.int = rd at *
  generalize drawF ns p zsO = dF at *
  have ht1 : getL (S1 ++ [Cell.lst []]) t = some (qs.map .ref) := getL_app_l (fS1.getL ht)
  have hzl := getL_lt gz
  have lr := hL.len
  refine for_seq (xs := qs.map .ref) (OwI S d p t w bd b z S1.length rd rs) ht1 ?_ ?_ ?_
  · exact ⟨fS1.app, 0, [], _, _, _, _, rfl, rfl, getL_app_l gz, getL_new, LieA.nil, fun p hp => (nomatch hp), Nat.le_refl _⟩
  · rintro i y e S2 hy hi ⟨f, c, Ts, x9, x10, x11, x12, rfl, hc, g1, g2, hTs, hSz, hTl⟩
    obtain ⟨q, hq, rfl⟩ := map_get hy
    refine ⟨f.getL ht, _, bind_name (by simp), ?_⟩
    obtain ⟨rd1, hrd, gq⟩ := hL.get hq
    obtain ⟨hs, hhs, rfl⟩ : ∃ hs, rs[i]? = some hs ∧ rd1 = hs.map eiD := by
      unfold eis at hrd
      rw [List.getElem?_map] at hrd
      cases h : rs[i]? with
      | none => rw [h] at hrd; cases hrd
      | some v => rw [h] at hrd; cases hrd; exact ⟨v, rfl, rfl⟩
    have hHs := hH hs (List.mem_of_getElem? hhs)
    have hcut : (rs.take (i + 1)).flatten.length = (rs.take i).flatten.length + hs.length := by
      rw [List.take_add_one, hhs]
      simp
    have hcl : (rs.take (i + 1)).flatten.length ≤ 12 := by
      have : (rs.take (i + 1)).flatten.length ≤ rs.flatten.length := by
        conv => rhs; rw [← List.take_append_drop (i + 1) rs, List.flatten_append, List.length_append]
        omega
      omega
    have gq2 := f.getL gq
    have gqB : getL (S2 ++ [Cell.lst []]) q = some (hs.map eiD) := getL_app_l gq2
    simp [wpx, wpo, wps]
    refine for_seq (xs := hs.map eiD) (OdI S2 d p t w bd b z S1.length (some (.ref q)) c) gqB ?_ ?_ ?_
    · exact ⟨Ext.one, c, [], [], _, _, rfl, by simp, ⟨getL_new, trivial, fun v hv => (nomatch hv)⟩, fun v hv => (nomatch hv), rfl⟩
    · rintro j y e S3 hy2 hj ⟨fB, c2, qs2, vs, x11, x12, rfl, hc2, hDr, hfr, hvl⟩
      obtain ⟨en, hen, rfl⟩ := map_get hy2
      refine ⟨fB.getL gq2, _, bind_name (by simp), ?_⟩
      have hj2 := (List.getElem?_eq_some_iff.mp hen).1
      have hK : c2 = ((rs.take i).flatten.length + j : Nat) := by omega
      have hK12 : (rs.take i).flatten.length + j < 12 := by omega
      have cut := rO.cut c2 _ hK hK12
      obtain ⟨b1, b2, b3, b4⟩ := rO.b _ hK12
      have b0 := rO.b0
      have it0 := rO.it
      have m4 : Sm 4 c2 := by
        have z1 : IZ 4 10 := ⟨by decide⟩
        have z2 : IZ c2 10 := ⟨by omega⟩
        exact sm_iz (by omega)
      have gz3 := fB.getL g1
      generalize (rs.take i).flatten.length + j = K at *
      generalize dF (4 * K + 1) = v0 at *
      generalize dF (4 * K + 2) = v1 at *
      generalize dF (4 * K + 3) = v2 at *
      generalize dF (4 * K + 4) = v3 at *
      generalize dF 0 = m at *
      have gz4 : ∀ c, getL (S3 ++ [Cell.lst c]) z = some rd := fun c => getL_app_l gz3
      have gd4 : ∀ c, getL (S3 ++ [Cell.lst c]) S2.length = some (qs2.map .ref) := fun c => getL_app_l hDr.l
      have hql : qs2.length = vs.length := by
        have := hDr.r.len
        simpa using this
      have fin : ∀ v : Dr, DrB (!w.free) v → qs2.length < lim ∧ OdI S2 d p t w bd b z S1.length (some (.ref q)) c (j + 1) [some d, some (.int p), some (.ref t), some (wayD w), some (.int bd), some (.int b), some (.ref z), some (.ref S1.length), some (.int (c2 + 1)), some (.ref q), some (.ref S2.length), some (eiD en), some (.ref S3.length)] ((S3 ++ [Cell.lst (drL v)]).set S2.length (.lst (qs2.map .ref ++ [.ref S3.length]))) := fun v hv => by
        have hlt := getL_lt hDr.l
        refine ⟨by unfold lim; omega, (fB.app).set (Nat.le_refl _), c2 + 1, qs2 ++ [S3.length], vs ++ [v], _, _, rfl, by omega, ⟨?_, ?_, ?_⟩, ?_, by simp; omega⟩
        · rw [getL_set (by simp; omega)]
          simp
        · have f2 : Fr [S2.length] S3 ((S3 ++ [Cell.lst (drL v)]).set S2.length (.lst (qs2.map .ref ++ [.ref S3.length]))) := (Fr.of Ext.one).trans (Fr.set (by simp))
          have n2 : getL ((S3 ++ [Cell.lst (drL v)]).set S2.length (.lst (qs2.map .ref ++ [.ref S3.length]))) S3.length = some (drL v) := by
            rw [getL_set_ne (by omega)]; exact getL_new
          have := LLD.snoc n2 (hDr.r.fr f2 (fun p hp => by have := hfr p hp; simp; omega))
          simpa using this
        · intro v' hv'
          rcases List.mem_append.mp hv' with h | h
          · exact hDr.b v' h
          · rw [List.mem_singleton] at h; rw [h]; exact hv
        · intro q' hq'
          rcases List.mem_append.mp hq' with h | h
          · exact hfr q' h
          · rw [List.mem_singleton] at h; rw [h]; exact hlt
      have bm : m = 0 ∨ m = 1 ∨ m = 2 := by omega
      have l2 : Nat.log2 2 < 9000 := by decide +kernel
      have s0 : ∀ (x0 v : D) (xs : List D) (r : Nat) (S : Store), setR (some (x0 :: xs)) r 0 v S = .ok .non (S.set r (.lst (v :: xs))) := fun x0 v xs r S => setR_nat (i := 0) (by simp)
      have s1 : ∀ (x0 x1 v : D) (xs : List D) (r : Nat) (S : Store), setR (some (x0 :: x1 :: xs)) r 1 v S = .ok .non (S.set r (.lst (x0 :: v :: xs))) := fun x0 x1 v xs r S => setR_nat (i := 1) (by simp)
      have s2 : ∀ (x0 x1 x2 v : D) (xs : List D) (r : Nat) (S : Store), setR (some (x0 :: x1 :: x2 :: xs)) r 2 v S = .ok .non (S.set r (.lst (x0 :: x1 :: v :: xs))) := fun x0 x1 x2 v xs r S => setR_nat (i := 2) (by simp)
      have htf : w.tied = !w.free := rfl
      cases hw : w.tied with
      | true =>
        rw [hw] at htf
        rcases bm with rfl | rfl | rfl
        · have := fin (1, 3, 3, v3) ⟨⟨by show (0:Int) ≤ 1; decide, by show (1:Int) < 3; decide⟩, ⟨by show (0:Int) ≤ 3; decide, by show (3:Int) < 7; decide⟩, ⟨by show (0:Int) ≤ 3; decide, by show (3:Int) < 7; decide⟩, b4, fun _ => ⟨rfl, rfl⟩⟩
          simp [wpx, wpo, wps, cm_isin2, way_tied, hw, m4, gz3, cut, it0, eqD_int, drL, gz4, gd4, s0, s1, s2, isInt, l2]
          simpa [drL] using this
        · have e2 : v0.fdiv 2 = v0 / 2 := by rw [Int.fdiv_eq_ediv_of_nonneg _ (by decide)]
          have := fin (v0.fdiv 2, 3, 3, v3) ⟨⟨by show 0 ≤ v0.fdiv 2; omega, by show v0.fdiv 2 < 3; omega⟩, ⟨by show (0:Int) ≤ 3; decide, by show (3:Int) < 7; decide⟩, ⟨by show (0:Int) ≤ 3; decide, by show (3:Int) < 7; decide⟩, b4, fun _ => ⟨rfl, rfl⟩⟩
          simp [wpx, wpo, wps, cm_isin2, way_tied, hw, m4, gz3, cut, it0, eqD_int, drL, gz4, gd4, s0, s1, s2, isInt, l2]
          simpa [drL] using this
        · have := fin (v0, 3, 3, v3) ⟨b1, ⟨by show (0:Int) ≤ 3; decide, by show (3:Int) < 7; decide⟩, ⟨by show (0:Int) ≤ 3; decide, by show (3:Int) < 7; decide⟩, b4, fun _ => ⟨rfl, rfl⟩⟩
          simp [wpx, wpo, wps, cm_isin2, way_tied, hw, m4, gz3, cut, it0, eqD_int, drL, gz4, gd4, s0, s1, s2, isInt, l2]
          simpa [drL] using this
      | false =>
        rw [hw] at htf
        rcases bm with rfl | rfl | rfl
        · have := fin (1, v1, v2, v3) ⟨⟨by show (0:Int) ≤ 1; decide, by show (1:Int) < 3; decide⟩, b2, b3, b4, fun z => by rw [← htf] at z; cases z⟩
          simp [wpx, wpo, wps, cm_isin2, way_tied, hw, m4, gz3, cut, it0, eqD_int, drL, gz4, gd4, s0, s1, s2, isInt, l2]
          simpa [drL] using this
        · have e2 : v0.fdiv 2 = v0 / 2 := by rw [Int.fdiv_eq_ediv_of_nonneg _ (by decide)]
          have := fin (v0.fdiv 2, v1, v2, v3) ⟨⟨by show 0 ≤ v0.fdiv 2; omega, by show v0.fdiv 2 < 3; omega⟩, b2, b3, b4, fun z => by rw [← htf] at z; cases z⟩
          simp [wpx, wpo, wps, cm_isin2, way_tied, hw, m4, gz3, cut, it0, eqD_int, drL, gz4, gd4, s0, s1, s2, isInt, l2]
          simpa [drL] using this
        · have := fin (v0, v1, v2, v3) ⟨b1, b2, b3, b4, fun z => by rw [← htf] at z; cases z⟩
          simp [wpx, wpo, wps, cm_isin2, way_tied, hw, m4, gz3, cut, it0, eqD_int, drL, gz4, gd4, s0, s1, s2, isInt, l2]
          simpa [drL] using this
    · rintro e S3 ⟨fB, c2, qs2, vs, x11, x12, rfl, hc2, hDr, hfr, hvl⟩
      rw [List.length_map] at hvl hc2
      have gq3 := fB.getL gq2
      refine ⟨gq3, ?_⟩
      have g23 := fB.getL g2
      have g13 := fB.getL g1
      have hup : (hs.map (smo b)).Pairwise fun a c => a.1 < c.1 := by
        rw [List.pairwise_map]
        exact hHs.up
      have len : (hs.map (smo b)).length = hs.length := List.length_map _
      have e0 : ((sA (hs.map (smo b)) 0).1 : Rat) = ((eA hs 0).1 : Rat) := by rw [sA_eA]; rfl
      have hl1 := hHs.l1
      have tk : rs.take (i + 1) = rs.take i ++ [hs] := by rw [List.take_add_one, hhs]; rfl
      have done : ∀ (g : Nat) (T : List P4) (S4 : Store) (x11 x12 : Option D), Ext S3 S4 → getL S4 g = some (T.map p4D) → T.length ≤ 2 * hs.length → LieT w (hs.map (smo b)) T → (∀ p ∈ T, Sz4 140 p) → Wp (extend (.ref S1.length) (.ref g) S4) E fun _ S5 => OwI S d p t w bd b z S1.length rd rs (i + 1) [some d, some (.int p), some (.ref t), some (wayD w), some (.int bd), some (.int b), some (.ref z), some (.ref S1.length), some (.int c2), some (.ref q), some (.ref S2.length), x11, x12] S5 := fun g T S4 x11 x12 fE gT hl hLie hS => by
        have g24 := fE.getL g23
        rw [extend_e g24 gT (by rw [List.length_map, List.length_map]; unfold lim; omega), wp_ok]
        have hlt := getL_lt g24
        refine ⟨((f.trans fB).trans fE).set fS1.len, c2, Ts ++ [T], _, _, _, _, rfl, by rw [hcut]; omega, by rw [getL_set_ne (by omega)]; exact fE.getL g13, ?_, ?_, ?_, ?_⟩
        · rw [getL_set hlt]; simp
        · rw [tk, List.map_append]
          exact hTs.snoc hup (by omega) hLie
        · intro p hp
          rw [List.flatten_append, List.flatten_singleton] at hp
          rcases List.mem_append.mp hp with h | h
          · exact hSz p h
          · exact hS p h
        · rw [List.flatten_append, List.flatten_singleton, List.length_append, hcut]
          omega
      cases hw : w.loose with
      | true =>
        simp [wpx, wpo, wps, cm_isin2, way_loose, hw, g23]
        refine (loose_wp (k := k + 1) (w := w) gq3 hDr hvl hHs hb hb2 hbd hbd2).imp ?_
        rintro x S4 ⟨fE, g, T, rfl, gT, hl, hC, hO⟩
        exact done g T S4 _ _ fE gT (by omega) ⟨hO.one, fun _ => hC, fun z => (by rw [hw] at z; cases z), fun z => (by rw [hw] at z; cases z), hO.on⟩ hO.sz
      | false =>
        have et : (!w.free) = decide (w = .chain) := by cases w <;> first | rfl | cases hw
        rw [et] at hDr
        simp [wpx, wpo, wps, cm_isin2, way_loose, hw, way_chain, g23]
        by_cases h1 : hs.length = 1
        · refine (hung1_wp (k := k) (w := w) gq3 hDr hvl hHs h1 hw hb hb2 hbd hbd2).imp ?_
          rintro x S4 ⟨fE, g, T, rfl, gT, hl, ⟨p, hp, hp1, hp2⟩, hO⟩
          exact done g T S4 _ _ fE gT hl ⟨hO.one, fun z => (by rw [hw] at z; cases z), fun _ z => by omega, fun _ _ => ⟨p, hp, by rw [e0]; exact hp1, by rw [e0]; exact hp2⟩, hO.on⟩ hO.sz
        · refine (hung_wp (k := k) (w := w) gq3 hDr hvl hHs (by omega) hw hb hb2 hbd hbd2).imp ?_
          rintro x S4 ⟨fE, g, T, rfl, gT, hl, hC, hO⟩
          exact done g T S4 _ _ fE gT hl ⟨hO.one, fun z => (by rw [hw] at z; cases z), fun _ _ => (by rw [e0]; exact hC), fun _ z => by omega, hO.on⟩ hO.sz
  · rintro e S2 ⟨f, c, Ts, x9, x10, x11, x12, rfl, hc, g1, g2, hTs, hSz, hTl⟩
    have htk : rs.take (qs.map D.ref).length = rs := by
      rw [List.take_of_length_le]
      rw [List.length_map, lr]
      simp [eis]
    rw [htk] at hTs hTl
    refine ⟨f.getL ht, ?_⟩
    simp [wpx, wpo, wps]
    exact ⟨f, _, _, rfl, g2, hTs, hSz, by omega⟩
theorem has_e {p : P4} {m : Int} (hp : SzP 140 p) (hm : m.natAbs < 2 ^ 100) : callN prog fuel (k + 1) "_law_has" [p4D p, .int m] S = .ok (.bl (decide (inP p m))) S := by
  obtain ⟨h1, h2, h3, h4⟩ := hp
  have z1 : IZ (p.1.den : Int) 140 := ⟨dn_lt h1⟩
  have z3 : IZ (p.2.2.1.den : Int) 140 := ⟨dn_lt h3⟩
  have zm : IZ m 100 := ⟨hm⟩
  have m1 : Sm m (p.1.den : Int) := sm_iz (by omega)
  have m3 : Sm m (p.2.2.1.den : Int) := sm_iz (by omega)
  apply eq_of_wp
  apply wp_callN lk__law_has rfl
  simp only [d__law_has]
  have e1 : (p.1.num ≤ m * (p.1.den : Int)) = (p.1 ≤ (m : Rat)) := propext le_num
  have e2 : (m * (p.2.2.1.den : Int) ≤ p.2.2.1.num) = ((m : Rat) ≤ p.2.2.1) := propext ge_num
  by_cases c1 : p.1 ≤ (m : Rat)
  · by_cases c2 : (m : Rat) ≤ p.2.2.1
    · simp [wpx, wpo, wps, p4_seq, rD_seq, m1, m3, e1, e2, c1, c2, inP]
    · simp [wpx, wpo, wps, p4_seq, rD_seq, m1, m3, e1, e2, c1, c2, inP]
  · simp [wpx, wpo, wps, p4_seq, rD_seq, m1, m3, e1, e2, c1, inP]
def hiI (p : P4) (m : Int) : Int × Int := if p.1 = p.2.2.1 then (p.2.1.num, (p.2.1.den : Int)) else hgI p m
theorem high_e {p : P4} {m : Int} (hp : SzP 140 p) (hm : m.natAbs < 2 ^ 100) : callN prog fuel (k + 2) "_law_high" [p4D p, .int m] S = .ok (.tup [.int (hiI p m).1, .int (hiI p m).2]) S := by
  apply eq_of_wp
  apply wp_callN lk__law_high rfl
  simp only [d__law_high]
  have ht := fun S => height4_e (k := k) (F := fuel) (S := S) hHt hp hm (by decide)
  unfold hiI
  by_cases e : p.1 = p.2.2.1
  · simp [wpx, wpo, wps, p4_seq, eqD_rD, e, rD]
  · simp [wpx, wpo, wps, p4_seq, eqD_rD, e, ht]
theorem hi_pos {p : P4} {m : Int} (h : inP p m) : 0 < (hiI p m).2 := by
  unfold hiI
  split
  · exact den_pos _
  · rename_i e
    exact hg_pos (Rat.lt_of_le_of_ne (Rat.le_trans h.1 h.2) e)
theorem hi_val {p : P4} {m : Int} (h : inP p m) : frV (hiI p m) = hgtQ p (m : Rat) := by
  unfold hiI hgtQ
  split
  · unfold frV
    simp only
    rw [← divInt_eq_div, Rat.num_divInt_den]
  · rename_i e
    rw [hg_val (Rat.lt_of_le_of_ne (Rat.le_trans h.1 h.2) e)]
    unfold hgQ
    grind
theorem hi_b {p : P4} {m : Int} (hp : SzP 140 p) (hm : m.natAbs < 2 ^ 100) : (hiI p m).1.natAbs < 2 ^ 1930 ∧ (hiI p m).2.natAbs < 2 ^ 1930 := by
  unfold hiI
  split
  · exact ⟨Nat.lt_of_lt_of_le hp.2.1.1 (nat_pow_mono (by decide)), Nat.lt_of_lt_of_le (dn_lt hp.2.1) (nat_pow_mono (by decide))⟩
  · obtain ⟨a, c⟩ := hg_b (n := 140) hp hm
    exact ⟨Nat.lt_of_lt_of_le a (nat_pow_mono (by decide)), Nat.lt_of_lt_of_le c (nat_pow_mono (by decide))⟩
theorem far_val {T W n b : Int} {ht : Rat} (hb : 0 < b) (hW : 0 < W) (hv : frV (T, W) = ht) : frV (((T * b - n * W).natAbs : Int), W * b) = absQ (Rat.divInt n b - ht) := by
  have hq := cast_posI hb
  have hw := cast_posI hW
  have hp : (0 : Rat) < (b : Rat) * (W : Rat) := Rat.mul_pos hq hw
  have hT : (T : Rat) = ht * (W : Rat) := by rw [← hv]; unfold frV; grind
  have e1 : ((T * b - n * W : Int) : Rat) = (ht - Rat.divInt n b) * ((b : Rat) * (W : Rat)) := by
    rw [divInt_eq_div]
    simp only [Rat.intCast_sub, Rat.intCast_mul]
    rw [hT]
    grind
  unfold frV
  simp only
  rw [← abs_cast, e1, ← abs_mul hp, Rat.intCast_mul]
  have e2 : absQ (ht - Rat.divInt n b) = absQ (Rat.divInt n b - ht) := by
    rw [← absQ_neg]
    congr 1
    grind
  rw [e2]
  grind
theorem _root_.Lt.LieA.get {w : Way} : ∀ {rss : List (List Smp)} {Ts : List (List P4)} {i : Nat} {ts : List Smp}, LieA w rss Ts → rss[i]? = some ts → ∃ T, Ts[i]? = some T ∧ LieG ts T ∧ 1 ≤ ts.length
  | _, _, i, ts, .nil, h => by simp at h
  | _, _, 0, ts, .cons hup h1 h t, e => by
    simp at e
    subst e
    exact ⟨_, rfl, h.g hup h1, h1⟩
  | _, _, i + 1, ts, .cons hup h1 h t, e => by
    obtain ⟨T, hT, g⟩ := t.get (i := i) (by simpa using e)
    exact ⟨T, by simpa using hT, g⟩
theorem _root_.Lt.LieA.of {w : Way} : ∀ {rss : List (List Smp)} {Ts : List (List P4)} {p : P4}, LieA w rss Ts → p ∈ Ts.flatten → ∃ (i : Nat) (ts : List Smp) (T : List P4), rss[i]? = some ts ∧ Ts[i]? = some T ∧ p ∈ T ∧ LieG ts T ∧ 1 ≤ ts.length
  | _, _, p, .nil, h => by simp at h
  | _, _, p, .cons hup h1 h t, e => by
    rw [List.flatten_cons] at e
    rcases List.mem_append.mp e with z | z
    · exact ⟨0, _, _, rfl, rfl, z, h.g hup h1, h1⟩
    · obtain ⟨i, ts, T, a, b, c⟩ := t.of z
      exact ⟨i + 1, ts, T, by simpa using a, by simpa using b, c⟩
theorem runs_apart : ∀ {rss : List (List Smp)} {i j : Nat} {a c : List Smp}, (rss.flatten.Pairwise fun x y => x.1 < y.1) → rss[i]? = some a → rss[j]? = some c → i < j → ∀ x ∈ a, ∀ y ∈ c, x.1 < y.1
  | [], i, j, a, c, _, h, _, _, _, _, _, _ => by simp at h
  | r :: rss, 0, j + 1, a, c, hp, h1, h2, _, x, hx, y, hy => by
    rw [List.flatten_cons, List.pairwise_append] at hp
    simp at h1
    subst h1
    exact hp.2.2 x hx y (List.mem_flatten_of_mem (List.mem_of_getElem? (by simpa using h2)) hy)
  | r :: rss, i + 1, j + 1, a, c, hp, h1, h2, h3, x, hx, y, hy => by
    rw [List.flatten_cons, List.pairwise_append] at hp
    exact runs_apart hp.2.1 (by simpa using h1) (by simpa using h2) (by omega) x hx y hy
  | _, _, 0, _, _, _, _, _, h, _, _, _, _ => by omega
theorem lie_mem {w : Way} {rss : List (List Smp)} {Ts : List (List P4)} {i : Nat} {ts : List Smp} {T : List P4} {p : P4} {s : Smp} (h : LieA w rss Ts) (hup : rss.flatten.Pairwise fun x y => x.1 < y.1) (h1 : rss[i]? = some ts) (h2 : Ts[i]? = some T) (hs : s ∈ ts) (hp : p ∈ Ts.flatten) (hin : inP p s.1) : p ∈ T := by
  obtain ⟨j, ts', T', a1, a2, a3, a4, a5⟩ := h.of hp
  have lo := a4.lo p a3
  have hi := a4.hi p a3
  rcases Nat.lt_trichotomy i j with c | c | c
  · have := runs_apart hup h1 a1 c s hs _ (sA_mem (show 0 < ts'.length by omega))
    have l2 := Rat.intCast_le_intCast.mp (Rat.le_trans lo hin.1)
    omega
  · subst c
    rw [h2] at a2
    cases a2
    exact a3
  · have := runs_apart hup a1 h1 c _ (sA_mem (show ts'.length - 1 < ts'.length by omega)) s hs
    have l2 := Rat.intCast_le_intCast.mp (Rat.le_trans hin.2 hi)
    omega
theorem _root_.Lt.LieA.len {w : Way} : ∀ {rss : List (List Smp)} {Ts : List (List P4)}, LieA w rss Ts → Ts.length = rss.length
  | _, _, .nil => rfl
  | _, _, .cons _ _ _ t => by simp [t.len]
theorem missL_take : ∀ {rss : List (List Smp)} {Ts : List (List P4)} {i : Nat} {q : Rat} {ts : List Smp} {T : List P4}, rss[i]? = some ts → Ts[i]? = some T → missL (rss.take (i + 1)) (Ts.take (i + 1)) q = upQ (missL (rss.take i) (Ts.take i) q) (missQ T ts)
  | [], _, i, q, ts, T, h, _ => by simp at h
  | _ :: _, [], i, q, ts, T, _, h => by simp at h
  | a :: rss, b :: Ts, 0, q, ts, T, h1, h2 => by
    simp at h1 h2
    subst h1; subst h2
    simp [missL]
  | a :: rss, b :: Ts, i + 1, q, ts, T, h1, h2 => by
    have := missL_take (rss := rss) (Ts := Ts) (i := i) (q := upQ q (missQ b a)) (ts := ts) (T := T) (by simpa using h1) (by simpa using h2)
    simpa [missL] using this
structure MstO (m : Int × Int) (w : Rat) : Prop where
  p : 0 < m.2
  v : frV m = w
  a : m.1.natAbs < 2 ^ 4200
  b : m.2.natAbs < 2 ^ 2200
def OmI (S0 : Store) (t g : Nat) (b : Int) (w : Rat) (e : Env) (S : Store) : Prop := Ext S0 S ∧ ∃ (m : Int × Int) (x4 x5 x6 x7 x8 x9 : Option D), e = [some (.ref t), some (.ref g), some (.int b), some (.tup [.int m.1, .int m.2]), x4, x5, x6, x7, x8, x9, none] ∧ MstO m w
theorem own_miss_wp {t g : Nat} {qs : List Nat} {rs : List (List EnI)} {Ts : List (List P4)} (ht : getL S t = some (qs.map .ref)) (hL : LLD S qs (eis rs)) (hg : getL S g = some (Ts.flatten.map p4D)) (hH : ∀ hs ∈ rs, HeD hs) (hup : (rs.map fun hs => hs.map (smo b)).flatten.Pairwise fun x y => x.1 < y.1) (hA : LieA w (rs.map fun hs => hs.map (smo b)) Ts) (hS : ∀ p ∈ Ts.flatten, Sz4 140 p) (hn : Ts.flatten.length ≤ 400) (hb : 0 < b) (hb2 : b.natAbs < 2 ^ 90) :
    Wp (callN prog fuel (k + 3) "_law_own_miss" [.ref t, .ref g, .int b] S) E fun x S' => Ext S S' ∧ x = rD (missL (rs.map fun hs => hs.map (smo b)) Ts 0) := by
  apply wp_callN lk__law_own_miss rfl
  simp only [d__law_own_miss]
  have lr := hL.len
  simp [wpx, wpo, wps]
  refine for_seq (xs := qs.map .ref) (fun i => OmI S t g b (missL ((rs.map fun hs => hs.map (smo b)).take i) (Ts.take i) 0)) ht ?_ ?_ ?_
  · exact ⟨Ext.refl, (0, 1), _, _, _, _, _, _, rfl, ⟨by decide, by unfold frV; simp [missL]; grind, by decide, by decide⟩⟩
  · rintro i y e S1 hy hi ⟨f, m, x4, x5, x6, x7, x8, x9, rfl, hm⟩
    obtain ⟨q, hq, rfl⟩ := map_get hy
    refine ⟨f.getL ht, _, bind_name (by simp), ?_⟩
    obtain ⟨rd1, hrd, gq⟩ := hL.get hq
    obtain ⟨hs, hhs, rfl⟩ : ∃ hs, rs[i]? = some hs ∧ rd1 = hs.map eiD := by
      unfold eis at hrd
      rw [List.getElem?_map] at hrd
      cases h : rs[i]? with
      | none => rw [h] at hrd; cases hrd
      | some v => rw [h] at hrd; cases hrd; exact ⟨v, rfl, rfl⟩
    have hHs := hH hs (List.mem_of_getElem? hhs)
    have hrs : (rs.map fun hs => hs.map (smo b))[i]? = some (hs.map (smo b)) := by rw [List.getElem?_map, hhs]; rfl
    obtain ⟨T, hT, hG, hl1⟩ := hA.get hrs
    have h0 := missL_nn ((rs.map fun hs => hs.map (smo b)).take i) (Ts.take i) 0 Rat.le_refl
    rw [missL_take hrs hT, miss_fold h0]
    generalize missL ((rs.map fun hs => hs.map (smo b)).take i) (Ts.take i) 0 = w0 at *
    have gq1 := f.getL gq
    simp [wpx, wpo, wps]
    refine for_seq (xs := hs.map eiD) (fun j => OmI S t g b (((hs.map (smo b)).take j).foldl (fun w s => upQ w (farQ T s)) w0)) gq1 ?_ ?_ ?_
    · exact ⟨f, m, _, _, _, _, _, _, rfl, hm⟩
    · rintro j y e S2 hy2 hj ⟨f2, m, x4, x5, x6, x7, x8, x9, rfl, hm⟩
      obtain ⟨s, hsj, rfl⟩ := map_get hy2
      refine ⟨f2.getL gq, _, bind_two (by simp), ?_⟩
      have sb := hHs.b s (List.mem_of_getElem? hsj)
      have hsm : smo b s ∈ hs.map (smo b) := List.mem_map.mpr ⟨s, List.mem_of_getElem? hsj, rfl⟩
      have hg2 := f2.getL hg
      have tk : (hs.map (smo b)).take (j + 1) = (hs.map (smo b)).take j ++ [smo b s] := by
        rw [List.take_add_one, List.getElem?_map, hsj]; rfl
      rw [tk, List.foldl_append, List.foldl_cons, List.foldl_nil]
      generalize ((hs.map (smo b)).take j).foldl (fun w s => upQ w (farQ T s)) w0 = w at *
      have sm : s.1.natAbs < 2 ^ 100 := Nat.lt_of_lt_of_le sb.1 (nat_pow_mono (by decide))
      have lm : ∀ p ∈ Ts.flatten, inP p s.1 → p ∈ T := fun p hp hi => lie_mem hA hup hrs hT hsm hp hi
      have tm : ∀ p ∈ T, p ∈ Ts.flatten := fun p hp => List.mem_flatten_of_mem (List.mem_of_getElem? hT) hp
      generalize Ts.flatten = TF at *
      simp [wpx, wpo, wps, wipeE]
      refine lcI_seq (xs := TF.map p4D) (fun i acc S3 => S3 = S2 ∧ acc = ((TF.take i).filter fun p => decide (inP p s.1)).map p4D) hg2 ⟨rfl, rfl⟩ ?_ ?_
      · rintro i y acc S3 hy hi ⟨rfl, rfl⟩
        obtain ⟨p, hp, rfl⟩ := map_get hy
        have tk : TF.take (i + 1) = TF.take i ++ [p] := by rw [List.take_add_one, hp]; rfl
        have hlim : ((TF.take i).filter fun p => decide (inP p s.1)).length < lim := by
          have h1 := List.length_filter_le (fun p => decide (inP p s.1)) (TF.take i)
          have h2 : (TF.take i).length ≤ TF.length := by rw [List.length_take]; omega
          unfold lim; omega
        have he := fun S => has_e (k := k + 1) (S := S) (hS p (List.mem_of_getElem? hp)) sm
        refine ⟨hg2, _, bind_name (by simp), ?_⟩
        rw [tk, List.filter_append]
        by_cases hin : inP p s.1
        · simp [wpx, wpo, wps, he, hin, hlim]
        · simp [wpx, wpo, wps, he, hin]
      · rintro acc S3 ⟨rfl, rfl⟩
        refine ⟨hg2, ?_⟩
        rw [List.length_map, List.take_length]
        obtain ⟨p0, hp0, hin0⟩ := hG.cov _ hsm
        have hin0 : inP p0 s.1 := hin0
        obtain ⟨p, own, hown⟩ : ∃ p own, (TF.filter fun p => decide (inP p s.1)) = p :: own := by
          cases h : TF.filter fun p => decide (inP p s.1) with
          | nil =>
            have : p0 ∈ TF.filter fun p => decide (inP p s.1) := List.mem_filter.mpr ⟨tm p0 hp0, by simpa using hin0⟩
            rw [h] at this
            cases this
          | cons p own => exact ⟨p, own, rfl⟩
        have hpm : p ∈ TF.filter fun p => decide (inP p s.1) := by rw [hown]; simp
        obtain ⟨hpF, hpi⟩ := List.mem_filter.mp hpm
        have hpi : inP p s.1 := by simpa using hpi
        have hfar := hG.far hsm (lm p hpF hpi) hpi
        rw [hown]
        have i0 : ∀ S', itemR (some ((p :: own).map p4D)) 0 S' = .ok (p4D p) S' := fun S' => itemR_nat (i := 0) rfl
        have hh := fun S => high_e (k := k) (S := S) (hS p hpF) sm
        obtain ⟨hb1, hb2'⟩ := hi_b (hS p hpF) sm
        have hpos := hi_pos hpi
        have hval := hi_val hpi
        generalize hiI p s.1 = h at *
        have hv2 := far_val (n := s.2) hb hpos hval
        have z1 : IZ h.1 1930 := ⟨hb1⟩
        have z2 : IZ h.2 1930 := ⟨hb2'⟩
        have zb : IZ b 90 := ⟨hb2⟩
        have zn : IZ s.2 130 := ⟨sb.2⟩
        have m1 : Sm h.1 b := sm_iz (by omega)
        have m2 : Sm s.2 h.2 := sm_iz (by omega)
        have m3 : Sm h.2 b := sm_iz (by omega)
        have zf := (inferInstance : IZ (h.1 * b - s.2 * h.2) _).z
        have zd := (inferInstance : IZ (h.2 * b) _).z
        have zf2 : ((h.1 * b - s.2 * h.2).natAbs : Int).natAbs < 2 ^ 4200 := by
          rw [Int.natAbs_natCast]
          exact Nat.lt_of_lt_of_le zf (nat_pow_mono (by decide))
        have zd2 : (h.2 * b).natAbs < 2 ^ 2200 := Nat.lt_of_lt_of_le zd (nat_pow_mono (by decide))
        have dpos : 0 < h.2 * b := Int.mul_pos hpos hb
        have y1 : IZ m.1 4200 := ⟨hm.a⟩
        have y2 : IZ m.2 2200 := ⟨hm.b⟩
        have y3 : IZ ((h.1 * b - s.2 * h.2).natAbs : Int) 4200 := ⟨zf2⟩
        have y4 : IZ (h.2 * b) 2200 := ⟨zd2⟩
        have hless := fun S => lless_fr (P := prog) (F := fuel) (k := k + 1) (S := S) lk__law_less (p := m) (q := (((h.1 * b - s.2 * h.2).natAbs : Int), h.2 * b)) hm.p dpos (sm_iz (by omega)) (sm_iz (by omega))
        have hv2 := hv2.trans hfar.symm
        simp only at hless
        simp [wpx, wpo, wps, i0, hh, m1, m2, m3, hless]
        by_cases c : frV m < frV (((h.1 * b - s.2 * h.2).natAbs : Int), h.2 * b)
        · simp [wpx, wpo, wps, c, m3]
          refine ⟨f2.app, (((h.1 * b - s.2 * h.2).natAbs : Int), h.2 * b), _, _, _, _, _, _, rfl, dpos, ?_, zf2, zd2⟩
          rw [hv2] at c ⊢
          rw [hm.v] at c
          unfold upQ
          rw [if_pos c]
        · simp [wpx, wpo, wps, c]
          refine ⟨f2.app, m, _, _, _, _, _, _, rfl, hm.p, ?_, hm.a, hm.b⟩
          rw [hv2, hm.v] at c
          unfold upQ
          rw [if_neg c]
          exact hm.v
    · rintro e S2 ⟨f2, m, x4, x5, x6, x7, x8, x9, rfl, hm⟩
      refine ⟨f2.getL gq, f2, m, _, _, _, _, _, _, rfl, ?_⟩
      rw [List.length_map, ← List.length_map (f := smo b) (as := hs), List.take_length] at hm
      exact hm
  · rintro e S1 ⟨f, m, x4, x5, x6, x7, x8, x9, rfl, hm⟩
    refine ⟨f.getL ht, ?_⟩
    have hlen : (qs.map D.ref).length = rs.length := by
      rw [List.length_map, lr]
      simp [eis]
    have hlT : Ts.length = rs.length := by
      rw [hA.len, List.length_map]
    rw [hlen, List.take_of_length_le (by simp), List.take_of_length_le (by omega)] at hm
    have y2 : IZ m.2 2200 := ⟨hm.b⟩
    have rt := lratio_e (S := S1) (k := k + 1) (i := m.1) (j := m.2) (m := 2200) lk__law_ratio hF hm.p (by decide)
    simp [wpx, wpo, wps, rt]
    refine ⟨f, ?_⟩
    rw [← hm.v]
    exact fr_ratio
def nearQ (q : Rat) : Rat := Rat.divInt (q.num * 999999999) ((q.den : Int) * 1000000000)
def abvQ (q : Rat) : Rat := Rat.divInt (q.num * 1000000000 + (q.den : Int)) ((q.den : Int) * 1000000000)
theorem near_eq {q : Rat} : nearQ q * 1000000000 = q * 999999999 := by
  have hd := den_posQ q
  unfold nearQ
  rw [divInt_eq_div]
  simp only [Rat.intCast_mul, num_eq]
  have e1 : ((999999999 : Int) : Rat) = 999999999 := rfl
  have e2 : ((1000000000 : Int) : Rat) = 1000000000 := rfl
  rw [e1, e2]
  generalize ((q.den : Int) : Rat) = d at *
  grind
theorem abv_eq {q : Rat} : abvQ q * 1000000000 = q * 1000000000 + 1 := by
  have hd := den_posQ q
  unfold abvQ
  rw [divInt_eq_div]
  simp only [Rat.intCast_mul, Rat.intCast_add, num_eq]
  have e2 : ((1000000000 : Int) : Rat) = 1000000000 := rfl
  rw [e2]
  generalize ((q.den : Int) : Rat) = d at *
  grind
theorem abv_le {q : Rat} : q ≤ abvQ q := by
  have := abv_eq (q := q)
  grind
theorem near_le {q : Rat} (h : 0 ≤ q) : (q ≤ nearQ q) ↔ q.num = 0 := by
  have e := near_eq (q := q)
  constructor
  · intro hl
    have : q = 0 := by grind
    rw [this]; rfl
  · intro hz
    have : q = 0 := Rat.num_eq_zero.mp hz
    grind
theorem sz_near {q : Rat} (h : Sz 1131 q) : Sz 8000 (nearQ q) ∧ Sz 8000 (abvQ q) := by
  have z1 : IZ q.num 1131 := ⟨h.1⟩
  have z2 : IZ (q.den : Int) 1131 := ⟨dn_lt h⟩
  have z3 : IZ (999999999 : Int) 30 := ⟨by decide⟩
  have z4 : IZ (1000000000 : Int) 30 := ⟨by decide⟩
  have hd := den_pos q
  have d1 := (inferInstance : IZ ((q.den : Int) * 1000000000) _).z
  have d2 := (inferInstance : IZ (q.num * 999999999) _).z
  have d3 := (inferInstance : IZ (q.num * 1000000000 + (q.den : Int)) _).z
  exact ⟨sz_divInt (by omega) (Nat.lt_of_lt_of_le d2 (nat_pow_mono (by decide))) (Nat.lt_of_lt_of_le d1 (nat_pow_mono (by decide))), sz_divInt (by omega) (Nat.lt_of_lt_of_le d3 (nat_pow_mono (by decide))) (Nat.lt_of_lt_of_le d1 (nat_pow_mono (by decide)))⟩
theorem looked_wp {t g : Nat} {row : List EnN} {TF : List P4} {q : Rat} (ht : getL S t = some (row.map enD)) (hg : getL S g = some (TF.map p4D)) (hl : row.length ≤ 40) (hR : ∀ ts ∈ sruns (row.map (hdN b)), RunS 140 ts) (hb : 0 < b) (hb2 : b.natAbs < 2 ^ 90) (hS : ∀ p ∈ TF, Sz4 140 p) (hn : TF.length ≤ 400) (hq : missW w TF (sruns (row.map (hdN b))) = some q) (h0 : 0 ≤ q) :
    Wp (callN prog fuel (k + 8) "_law_looked" [.ref t, .int b, wayD w, .ref g, rD q] S) E fun x S' => Ext S S' ∧ x = .bl true := by
  have sq := sz_missW hS hR hq
  have sq2 : Sz 1131 q := sq
  have zq : SZ q 1131 := ⟨sq2⟩
  apply wp_callN lk__law_looked rfl
  simp only [d__law_looked]
  simp [wpx, wpo, wps]
  refine (hand_wp (k := k + 5) hHd lk__law_ratio hF ht hb hb2 hl).imp ?_
  rintro x S1 ⟨f1, r, rfl, hr0, gr⟩
  have gg1 := f1.getL hg
  simp [wpx, wpo, wps, gg1]
  have grA : getL (S1 ++ [Cell.lst (TF.map p4D)]) r = some ((row.map (hdN b)).map entD) := getL_app_l gr
  have gtA : getL (S1 ++ [Cell.lst (TF.map p4D)]) S1.length = some (TF.map p4D) := getL_new
  have fA : Ext S (S1 ++ [Cell.lst (TF.map p4D)]) := f1.app
  generalize S1 ++ [Cell.lst (TF.map p4D)] = SA at *
  generalize S1.length = tl at *
  have hel : (row.map (hdN b)).length ≤ 100 := by rw [List.length_map]; omega
  refine (miss_wp (k := k + 1) (n := 140) (w := w) hJv grA gtA hel hR (by omega) hS (by decide) (by decide)).imp ?_
  rintro x S2 ⟨f2, rfl⟩
  rw [hq]
  have ir := fun S => is_ratio_e (F := fuel) (k := k + 5) (S := S) (q := q) lk__law_is_ratio lk__law_ratio hF (by decide)
  have z1 : IZ q.num 1131 := ⟨sq2.1⟩
  have z2 : IZ (q.den : Int) 1131 := ⟨dn_lt sq2⟩
  have z3 : IZ (999999999 : Int) 30 := ⟨by decide⟩
  have z4 : IZ (1000000000 : Int) 30 := ⟨by decide⟩
  have m1 : Sm q.num 999999999 := sm_iz (by omega)
  have m2 : Sm q.num 1000000000 := sm_iz (by omega)
  have m3 : Sm (q.den : Int) 1000000000 := sm_iz (by omega)
  have hdp := den_pos q
  have r1 : ∀ S, callN prog fuel (k + 7) "_law_ratio" [.int (q.num * 999999999), .int ((q.den : Int) * 1000000000)] S = .ok (rD (nearQ q)) S := fun S => lratio_e (k := k + 6) (m := 1131 + 30) lk__law_ratio hF (by omega) (by decide)
  have r2 : ∀ S, callN prog fuel (k + 7) "_law_ratio" [.int (q.num * 1000000000 + (q.den : Int)), .int ((q.den : Int) * 1000000000)] S = .ok (rD (abvQ q)) S := fun S => lratio_e (k := k + 6) (m := 1131 + 30) lk__law_ratio hF (by omega) (by decide)
  simp [wpx, wpo, wps, valD, ir, eqD_rD, rD_seq, m1, m2, m3, r1, r2]
  have fit : ∀ {S' : Store} {x : Rat} {E : XP}, Ext SA S' → Sz 8000 x → Wp (callN prog fuel (k + 7) "fits" [.ref r, wayD w, rD x, .ref tl] S') E fun y S3 => Ext S' S3 ∧ y = .bl (decide (q ≤ x)) := fun {S' x E} fx hx => by
    have := fits_wp (k := k) (E := E) (n := 140) (w := w) hJv (fx.getL grA) (fx.getL gtA) hel hR (by omega) hS (by decide) (by decide) hx
    rw [hq] at this
    exact this
  refine (fit f2 (sq2.mono (by decide))).imp ?_
  rintro x S3 ⟨f3, rfl⟩
  have c1 : decide (q ≤ q) = true := by simp [Rat.le_refl]
  rw [c1]
  simp [wpx, wpo, wps]
  refine (fit (f2.trans f3) (sz_near sq2).2).imp ?_
  rintro x S4 ⟨f4, rfl⟩
  have c2 : decide (q ≤ abvQ q) = true := by simp [abv_le]
  rw [c2]
  simp [wpx, wpo, wps]
  refine (fit ((f2.trans f3).trans f4) (sz_near sq2).1).imp ?_
  rintro x S5 ⟨f5, rfl⟩
  have fSA := ((f2.trans f3).trans f4).trans f5
  have ht5 := (fA.trans fSA).getL ht
  have hc : decide (q ≤ nearQ q) = decide (q.num = 0) := by
    rw [decide_eq_decide]
    exact near_le h0
  rw [hc]
  have eb : ∀ (a c : Bool) S, eqD S (.bl a) (.bl c) = some (decide (a = c)) := fun a c S => by cases a <;> cases c <;> rfl
  have isb : ∀ (a : Bool) S, isIR .bool (.bl a) S = .ok (.bl true) S := fun a S => rfl
  simp [wpx, wpo, wps, rD_seq, eqD_int, eb, isb]
  refine (hand_wp (k := k + 5) hHd lk__law_ratio hF ht5 hb hb2 hl).imp ?_
  rintro x S6 ⟨f6, r', rfl, hr6, gr6⟩
  have er := eqD_rows ((fSA.trans f6).getL grA) gr6
  have eg := eqD_p4l ((fSA.trans f6).getL gtA) (((fA.trans fSA).trans f6).getL hg)
  simp [wpx, wpo, wps, er, eg]
  exact (fA.trans fSA).trans f6
theorem _root_.Lt.LieT.free {w w' : Way} {ts : List Smp} {T : List P4} (hl : w'.loose = w.loose) (hf : w'.free = true) (h : LieT w ts T) : LieT w' ts T :=
  ⟨h.one, fun z => h.cut (by rw [← hl]; exact z), fun z => h.hang (by rw [← hl]; exact z), fun z => h.lone (by rw [← hl]; exact z), fun z => by rw [hf] at z; cases z⟩
theorem _root_.Lt.LieA.free {w w' : Way} (hl : w'.loose = w.loose) (hf : w'.free = true) : ∀ {rss : List (List Smp)} {Ts : List (List P4)}, LieA w rss Ts → LieA w' rss Ts
  | _, _, .nil => .nil
  | _, _, .cons a b c t => .cons a b (c.free hl hf) (t.free hl hf)
def othW : Way → Way
  | .apart => .apart
  | .joined => .joined
  | .spans => .apart
  | .chain => .joined
theorem oth_lie {w : Way} {rss : List (List Smp)} {Ts : List (List P4)} (h : LieA w rss Ts) : LieA (othW w) rss Ts := by
  cases w
  · exact h
  · exact h
  · exact LieA.free (w := .spans) (w' := .apart) rfl rfl h
  · exact LieA.free (w := .chain) (w' := .joined) rfl rfl h
def askD (w : Way) : D := .tup [wayD w, wayD (othW w)]
theorem ask_at {i : Nat} (h : i < 4) : ∃ w : Way, [askD .apart, askD .joined, askD .spans, askD .chain][i]? = some (askD w) := by
  have : i = 0 ∨ i = 1 ∨ i = 2 ∨ i = 3 := by omega
  rcases this with rfl | rfl | rfl | rfl
  · exact ⟨.apart, rfl⟩
  · exact ⟨.joined, rfl⟩
  · exact ⟨.spans, rfl⟩
  · exact ⟨.chain, rfl⟩
theorem runsN_D {es : List EnN} (h : RowN 130 es) (hl : es.length ≤ 12) : (∀ r ∈ runsN es, HeD r) ∧ (runsN es).flatten.length ≤ 12 := by
  obtain ⟨h1, h2⟩ := runsN_all es
  have hl2 := heldI_len es
  refine ⟨fun r hr => ?_, by rw [h1]; omega⟩
  obtain ⟨a, c⟩ := runsN_P h (by omega) r hr
  have hs : r.Sublist (heldI es) := by rw [← h1]; exact List.sublist_flatten_of_mem hr
  have := hs.length_le
  exact ⟨a.up, fun e he => ⟨Nat.lt_of_lt_of_le (a.b e he).1 (nat_pow_mono (by decide)), (a.b e he).2⟩, by omega, c⟩
theorem runs_S {hs : List EnI} (hH : HeD hs) (hb : 0 < b) (hb2 : b.natAbs < 2 ^ 90) : RunS 140 (hs.map (smo b)) := by
  have l := hH.l
  have l1 := hH.l1
  refine ⟨by rw [List.length_map]; omega, by rw [List.length_map]; exact l1, by rw [List.pairwise_map]; exact hH.up, fun s hs' => ?_⟩
  obtain ⟨e, he, rfl⟩ := List.mem_map.mp hs'
  exact ⟨(sz_int (hH.b e he).1 (by decide)).mono (by decide), (sz_divInt (n := 130) hb (hH.b e he).2 (Nat.lt_of_lt_of_le hb2 (nat_pow_mono (by decide)))).mono (by decide)⟩
def LwI (S0 : Store) (d : D) (p a r : Nat) (b bd : Int) (e : Env) (S : Store) : Prop := Ext S0 S ∧ ∃ x3 x7 x8 x9 x10 : Option D, e = [some d, some (.ref p), some (.ref a), x3, some (.ref r), some (.int b), some (.int bd), x7, x8, x9, x10]
theorem law_wp {k : Nat} {S : Store} (ns : List Int) : Wp (callN prog fuel (k + 12) "law" [.frl (ns.map .int)] S) (fun _ _ => False) fun r _ => r = .bl true := by
  apply wp_callN lk_law rfl
  simp only [d_law]
  simp [wpx, wpo, wps]
  refine (drawn_wp hD (most := 12) lstOf_frl (by decide) (by decide) (by omega) (by decide)).imp ?_
  rintro x S1 ⟨d, row, b, bd, rfl, ⟨hE1, r, rfl, hr0, hrow⟩, hrn, hrl, hb, hb2, hbd, hbd2⟩
  simp [wpx, wpo, wps]
  refine (law_runs_wp (k := k + 10) hRun hrow (by omega)).imp ?_
  rintro x S2 ⟨hE2, p, qs, rfl, hpl, hp, hL, hqs⟩
  have hrow2 := hE2.getL hrow
  obtain ⟨hH, hn⟩ := runsN_D hrn hrl
  have hsr := sruns_N b row
  have hRS : ∀ ts ∈ sruns (row.map (hdN b)), RunS 140 ts := fun ts hts => by
    rw [hsr] at hts
    obtain ⟨hs, h1, rfl⟩ := List.mem_map.mp hts
    exact runs_S (hH hs h1) hb hb2
  have hOk := (runsOk_hd (b := b) hrn).up
  rw [hsr] at hOk
  have ga : getL (S2 ++ [Cell.lst [askD .apart, askD .joined, askD .spans, askD .chain]]) S2.length = some [askD .apart, askD .joined, askD .spans, askD .chain] := getL_new
  have fA : Ext S2 (S2 ++ [Cell.lst [askD .apart, askD .joined, askD .spans, askD .chain]]) := Ext.one
  have hrowA := fA.getL hrow2
  have hpA := fA.getL hp
  have hLA : LLD (S2 ++ [Cell.lst [askD .apart, askD .joined, askD .spans, askD .chain]]) qs (eis (runsN row)) := hL.fr (Fr.of fA : Fr [] _ _) (by simp)
  generalize hSA : S2 ++ [Cell.lst [askD .apart, askD .joined, askD .spans, askD .chain]] = SA at *
  refine for_rng (fun _ => LwI SA (.frl (ns.map .int)) p S2.length r b bd) (by omega) (by omega) (by omega) (by omega) ?_ ?_ ?_
  · exact ⟨by subst hSA; exact Ext.refl, _, _, _, _, _, rfl⟩
  · rintro i e S3 hi ⟨f3, x3, x7, x8, x9, x10, rfl⟩
    refine ⟨_, bind_name (by simp), ?_⟩
    obtain ⟨w, hw⟩ := ask_at (show i < 4 by omega)
    have wi : ∀ S', itemR (some [askD .apart, askD .joined, askD .spans, askD .chain]) (i : Int) S' = .ok (askD w) S' := fun S' => itemR_nat hw
    have ga3 := f3.getL ga
    have hrow3 := f3.getL hrowA
    have hp3 := f3.getL hpA
    have hL3 := hLA.fr (Fr.of f3 : Fr [] _ _) (by simp)
    have asq : ∀ S', seqOf S' (askD w) = some [wayD w, wayD (othW w)] := fun S' => rfl
    simp [wpx, wpo, wps, ga3, wi, asq]
    refine (own_wp (k := k + 6) (w := w) (b := b) (p := (i : Int) + 1) lstOf_frl (by omega) (by omega) hp3 hL3 hH hn hb hb2 hbd hbd2).imp ?_
    rintro x S4 ⟨f4, g, Ts, rfl, hg, hA, hSz, hTl⟩
    have fl : (Ts.flatten).length ≤ 400 := by omega
    try simp [wpx, wpo, wps]
    refine (own_miss_wp (k := k + 8) (f4.getL hp3) (hL3.fr (Fr.of f4 : Fr [] _ _) (by simp)) hg hH hOk hA hSz fl hb hb2).imp ?_
    rintro x S5 ⟨f5, rfl⟩
    have m1 := missW_lie hA
    have m2 := missW_lie (oth_lie hA)
    have h0 := missL_nn ((runsN row).map fun hs => hs.map (smo b)) Ts 0 Rat.le_refl
    rw [← hsr] at m1 m2
    rw [← hsr] at h0
    rw [← hsr]
    generalize missL (sruns (row.map (hdN b))) Ts 0 = q at *
    try simp [wpx, wpo, wps]
    refine (looked_wp (k := k + 3) (w := w) ((f4.trans f5).getL hrow3) (f5.getL hg) (by omega) hRS hb hb2 hSz fl m1 h0).imp ?_
    rintro x S6 ⟨f6, rfl⟩
    try simp [wpx, wpo, wps]
    refine (looked_wp (k := k + 3) (w := othW w) (((f4.trans f5).trans f6).getL hrow3) ((f5.trans f6).getL hg) (by omega) hRS hb hb2 hSz fl m2 h0).imp ?_
    rintro x S7 ⟨f7, rfl⟩
    simp [wpx, wpo, wps]
    exact ⟨(((f3.trans f4).trans f5).trans f6).trans f7, _, _, _, _, _, rfl⟩
  · rintro e S3 ⟨f3, x3, x7, x8, x9, x10, rfl⟩
    trivial
end
theorem law_true (ns : List Int) (h1 : ns.length ≤ 63) (h2 : ∀ z ∈ ns, PySem.Builtin.Int.intBits z ≤ 1048576) : ∃ S', callN prog fuel 60 "law" [.frl (ns.map .int)] [] = .ok (.bl true) S' :=
  ok_of (law_wp (k := 48) ns)
end LawP
open PySem PySem.W PySem.Calls PyProof.Rows in
theorem PySem.Challenge.cw_lath_k62_tellings_looked_at_holds : PySem.Challenge.rw_lath_k62_tellings_looked_at.Holds := by
  w_on; o_law
  refine HandSHeadRun.head_any (r := OpenLaw.row PySem.Challenge.rw_lath_k62_tellings_looked_at) (q := view (OpenLaw.row PySem.Challenge.rw_lath_k62_tellings_looked_at).prog [47]) (H := LawH.hk) (ob := LawH.ob) (M := 4000) (loose := LawH.names) (d := HandSHeadRun.topDef (OpenLaw.row PySem.Challenge.rw_lath_k62_tellings_looked_at).prog 47) (kwd := []) LawH.ob_eq
    (by kernel_rfl) (fun s => by kernel_rfl) LawH.run (by kernel_rfl) (by kernel_rfl) (by kernel_rfl) (by rfl) (by first | assumption | decide +kernel) (by decide +kernel) ⟨rfl, rfl, rfl, rfl, rfl, by decide +kernel⟩ ?hw ?hc
  case hw => w_witness2
  case hc => exact Lt.lt_end (l := PySem.Challenge.rw_lath_k62_tellings_looked_at) (k := 60) (fuel := LawP.fuel) (x := "_law_script") (P := LawT.prog) (fa := LawH.fa) (fn := LawH.fn) (m := LawT.d_law) rfl (by kernel_rfl) ⟨rfl, by decide, by decide⟩ (by kernel_rfl) (by kernel_rfl) (by kernel_rfl) LawH.checks LawT.lk_law (by kernel_rfl) (by kernel_rfl) LawP.law_true
