import PyProof.Rows.All
import Wide.All
import OpenK.AllK
import Wide.FinOn
import KE.KStateDown
import Lean
import HandS.ForExc
import HandS.More
import HandS.Defaults
import HandS.Head0
import HandS.Head1
import HandS.Head2
import HandS.HeadEnd
import HandS.HeadHook1
import HandS.HeadHook2
import HandS.Conv
import HandS.Dict
import HandS.ForDict
import KE.KDictCopyH
import HandS.ForMost
import HandS.Wide
import HandS.Deep
import HandS.Text
import HandS.HotCalls
import HandS.TupAny
import HandS.Style
import HandS.IsInst
import HandS.SortInts
import HandS.CallSlots
import HandS.TryOnly
import HandS.ExcOwn
import HandS.ExcInit
import HandS.ExcIs
import HandS.ExcField
import HandS.ExcCtx
import HandS.SuiteRaise
import HandS.RaiseFrom
import HandS.ExcInitHot
import HandS.Codes
import HandS.Flt
import HandS.Iter
import HandS.WordsExc
import HandS.WordsDict
import HandS.TryMany
import HandS.FStr
import HandS.SetFor
import HandS.Base
import HandS.Call
import HandS.Ends
import HandS.Exc
import HandS.EndBits
import HandS.HeadHook3
import PySem.Challenge.RW_lath_k85_rows_as_lines
set_option Elab.async false
set_option linter.all false
set_option maxRecDepth 100000
set_option maxHeartbeats 0
set_option maxRecDepth 100000
namespace L2
open PySem PySem.Spec PyProof.Rows
def leafB (b : Bool) : Leaf := .num (if b = true then 1 else 0)
theorem leafB_inj {a b : Bool} (h : leafB a = leafB b) : a = b := by
  cases a <;> cases b <;> first | rfl | (injection h with h; cases h)
def lkB {α : Type} (kv : Bool × α) : Leaf × α := (leafB kv.1, kv.2)
theorem lk_val {b : Bool} : ∀ kvs : List (Bool × V), valV (kvs.map lkB) (leafB b) = valV kvs b
  | [] => rfl
  | p :: r => by
    rw [List.map_cons]
    by_cases c : p.1 = b
    · rw [valV_pos (p := lkB p) (congrArg leafB c), valV_pos c]
      rfl
    · rw [valV_neg (p := lkB p) (fun z => c (leafB_inj z)), valV_neg c]
      exact lk_val r
theorem lk_put {b : Bool} {v : V} (kvs : List (Bool × V)) : putK (kvs.map lkB) (leafB b) v = (putK kvs b v).map lkB := by
  unfold putK
  have e : ((kvs.map lkB).any fun kv => decide (kv.1 = leafB b)) = kvs.any fun kv => decide (kv.1 = b) := by
    rw [List.any_map]
    congr 1
    funext p
    show decide (leafB p.1 = leafB b) = decide (p.1 = b)
    rw [decide_eq_decide]
    exact ⟨leafB_inj, congrArg leafB⟩
  rw [e]
  split
  · rw [List.map_map, List.map_map]
    refine List.map_congr_left fun p _ => ?_
    show (if leafB p.1 = leafB b then (leafB p.1, v) else (leafB p.1, p.2)) = lkB (if p.1 = b then (p.1, v) else p)
    by_cases c : p.1 = b
    · rw [if_pos c, if_pos (congrArg leafB c)]
      rfl
    · rw [if_neg c, if_neg (fun z => c (leafB_inj z))]
      rfl
  · rw [List.map_append]
    rfl
theorem pairs_mem {P : Program} {w : World} {es : List DictEntry} {vs : List (Leaf × Value)} (h : Pairs (leafKind P w) es vs) : ∀ e ∈ es, ∃ kv ∈ vs, (leafKind P w).is kv.1 e.key = true := by
  induction h with
  | nil => exact fun e he => nomatch he
  | cons h1 _ _ ih =>
    intro e he
    rcases List.mem_cons.mp he with rfl | he
    · exact ⟨_, List.mem_cons_self .., h1⟩
    · obtain ⟨kv, a, c⟩ := ih e he
      exact ⟨kv, List.mem_cons_of_mem _ a, c⟩
theorem pairs_any {P P' : Program} {w w' : World} {es : List DictEntry} {vs : List (Leaf × Value)} (h : Pairs (leafKind P w) es vs) : Pairs (leafKind P' w') es vs := by
  induction h with
  | nil => exact .nil
  | cons h1 h2 _ ih => exact .cons h1 h2 ih
theorem leaf_any {P P' : Program} {w w' : World} {h : Heap} {a : Addr} {vs : List (Leaf × Value)} (hn : ∀ kv ∈ vs, ∃ b, kv.1 = leafB b) (dd : h.DictOf (leafKind P w) a vs) : h.DictOf (leafKind P' w') a vs := by
  obtain ⟨o, es, ep, h1, h2, h3, h4, h5, h6⟩ := dd
  refine ⟨o, es, ep, h1, h2, h3, fun e he => ?_, pairs_any h5, h6⟩
  obtain ⟨k, k1, k2⟩ := h4 e he
  obtain ⟨kv, hkv, hk⟩ := pairs_mem h5 e (Array.mem_toList_iff.mpr he)
  have e1 : k = kv.1 := (leafKind P w).inj _ _ _ k1 hk
  obtain ⟨b, hb⟩ := hn kv hkv
  refine ⟨k, k1, ?_⟩
  rw [k2, e1, hb]
  cases b <;> rfl
/-- a dict of bools as a thing by what is true of its object -/
def DBo (a : Addr) (kvs : List (Bool × V)) : HO := .ext fun h => kvs.length ≤ sizeLine ∧ (a == sysModules) = false ∧ ∃ P w vs, KV (kvs.map lkB) vs ∧ h.DictOf (leafKind P w) a vs
section
variable {P : Program} {w : World} {H : Hp} {h : Heap} {a : Addr}
theorem leafB_is {b : Bool} {u : Value} (r : RelV (.bl b) u) : (leafKind P w).is (leafB b) u = true := by
  cases (show u = Value.bool b from r)
  cases b <;> rfl
theorem db_of {kvs : List (Bool × V)} (ok : HOk P w H h) (e : H a = some (DBo a kvs)) : kvs.length ≤ sizeLine ∧ (a == sysModules) = false ∧ ∃ vs, KV (kvs.map lkB) vs ∧ h.DictOf (leafKind P w) a vs := by
  obtain ⟨z, hd, P', w', vs, rel, dd⟩ := (show ObjOk P w H h a (DBo a kvs) from ok a _ e).1
  refine ⟨z, hd, vs, rel, leaf_any (fun kv hkv => ?_) dd⟩
  have hk : kv.1 ∈ vs.map (·.1) := List.mem_map.mpr ⟨kv, hkv, rfl⟩
  rw [← rel.keys, List.map_map] at hk
  obtain ⟨p, _, ep⟩ := List.mem_map.mp hk
  exact ⟨p.1, ep.symm⟩
theorem db_new {H' : Hp} {h' : Heap} {kvs : List (Bool × V)} {vs : List (Leaf × Value)} (z : kvs.length ≤ sizeLine) (hd : (a == sysModules) = false) (rel : KV (kvs.map lkB) vs) (dd : h'.DictOf (leafKind P w) a vs) :
    ObjOk P w H' h' a (DBo a kvs) := by
  refine ⟨⟨z, hd, P, w, vs, rel, dd⟩, ?_, fun h1 h2 ⟨z, hd, P, w, vs, rel, dd⟩ e => ⟨z, hd, P, w, vs, rel, ?_⟩⟩
  · obtain ⟨q, _, _, hq, _⟩ := dd
    exact ⟨q, hq⟩
  · obtain ⟨q, es, ep, hq, r⟩ := dd
    exact ⟨q, es, ep, e q hq, r⟩
end
/-- what the dict at a holds at y, whatever its keys -/
def DGetX (H : Hp) (a : Addr) (y : V) (r : Option V) : Prop := DGet H a y r ∨ ∃ kvs b, H a = some (DBo a kvs) ∧ y = .bl b ∧ r = valV kvs b
def DPutX (H : Hp) (a : Addr) (y v : V) (H' : Hp) : Prop := DPut H a y v H' ∨ ∃ kvs b, H a = some (DBo a kvs) ∧ y = .bl b ∧ kvs.length < sizeLine ∧ H' = upd H a (DBo a (putK kvs b v))
section
variable {X : Cx} {pins : List (Addr × Obj)} {σ : St} {H : Hp} {s : Shared} {a : Addr} {y v : V} {u r : Value} {o : Option V} {A : Around} {E : Value → Shared → Prop}
theorem dx_getItem {Q : Value → Shared → Prop} (hu : A.units + 1 < cLine) (I : Inv X pins σ H s) (g : DGetX H a y (some v)) (ry : RelV y u) (h : ∀ w' s', Inv X pins σ H s' → RelV v w' → Q w' s') :
    wpAny (model X.prog X.w) A (getItem (.ref a) u) Q E s := by
  rcases g with g | ⟨kvs, b, e, ey, l⟩
  · exact d_getItem hu I g ry h
  · subst ey
    obtain ⟨z, hd, vs, rel, dd⟩ := db_of I.hok e
    obtain ⟨w', hw, rw'⟩ := RelO.some_of (v := v) (o := valueAt vs (leafB b)) (by rw [l, ← lk_val]; exact rel.val _)
    exact wpAny_getItem_of (leafB_is ry) dd.mapOf hw (h w' _ (I.tok _) rw')
theorem dx_in {Q : Value → Shared → Prop} (hu : A.units + 1 < cLine) (I : Inv X pins σ H s) (g : DGetX H a y o) (ry : RelV y u) (h : ∀ s', Inv X pins σ H s' → Q (.bool o.isSome) s') :
    wpAny (model X.prog X.w) A (compareOp .In u (.ref a)) Q E s := by
  rcases g with g | ⟨kvs, b, e, ey, l⟩
  · exact d_in hu I g ry h
  · subst ey
    obtain ⟨z, hd, vs, rel, dd⟩ := db_of I.hok e
    refine wpAny_in_of (leafB_is ry) hd dd.mapOf ?_
    rw [← (rel.val _).isSome_eq, lk_val, ← l]
    exact h _ (I.tok _)
theorem dx_notIn {Q : Value → Shared → Prop} (hu : A.units + 1 < cLine) (I : Inv X pins σ H s) (g : DGetX H a y o) (ry : RelV y u) (h : ∀ s', Inv X pins σ H s' → Q (.bool (!o.isSome)) s') :
    wpAny (model X.prog X.w) A (compareOp .NotIn u (.ref a)) Q E s := by
  rcases g with g | ⟨kvs, b, e, ey, l⟩
  · exact d_notIn hu I g ry h
  · subst ey
    obtain ⟨z, hd, vs, rel, dd⟩ := db_of I.hok e
    refine wpAny_notIn_of (leafB_is ry) hd dd.mapOf ?_
    rw [← (rel.val _).isSome_eq, lk_val, ← l]
    exact h _ (I.tok _)
theorem dx_setItem {H' : Hp} {Q : Unit → Shared → Prop} (hu : A.units + 1 < cLine) (I : Inv X pins σ H s) (g : DPutX H a y v H') (ry : RelV y u) (rv : RelV v r) (h : ∀ s', Inv X pins σ H' s' → Q () s') :
    wpAny (model X.prog X.w) A (setItem (.ref a) u r) Q E s := by
  rcases g with g | ⟨kvs, b, e, ey, l, eH⟩
  · exact d_setItem hu I g ry rv h
  · subst ey eH
    obtain ⟨z, hd, vs, rel, dd⟩ := db_of I.hok e
    have hz : vs.length ≤ sizeLine := by rw [← rel.length, List.length_map]; exact z
    have hl : (putK kvs b v).length ≤ sizeLine := by have := length_putK kvs b v; omega
    refine wpAny_setItem_pairs (hsz := hz) (leafB_is ry) dd fun h' dd' hs => h _ ?_
    have he : ∃ q, h'.get? a = some q := let ⟨q, _, _, hq, _⟩ := dd'; ⟨q, hq⟩
    exact d_write I (by rw [e]; exact True.intro) hs he (db_new hl hd (by rw [← lk_put]; exact rel.put _ rv) dd')
theorem dictx_typeIs (I : Inv X pins σ H s) (g : DGetX H a y o) : s.TypeIs (.ref a) "dict" := by
  rcases g with g | ⟨kvs, b, e, ey, l⟩
  · exact dict_typeIs I g
  · obtain ⟨_, _, vs, _, dd⟩ := db_of I.hok e
    exact dd.typeIs
end
def tDGetBo (td ty : TE) : TE := fun σ H Q => td σ H fun x H1 => ty σ H1 fun y H2 => ∃ a v, x = .ref a ∧ DGetX H2 a y (some v) ∧ Q v H2
def tDInX (ty td : TE) : TE := fun σ H Q => ty σ H fun y H1 => td σ H1 fun x H2 => ∃ a o, x = .ref a ∧ DGetX H2 a y o ∧ Q (.bl o.isSome) H2
def tDNotInX (ty td : TE) : TE := fun σ H Q => ty σ H fun y H1 => td σ H1 fun x H2 => ∃ a o, x = .ref a ∧ DGetX H2 a y o ∧ Q (.bl (!o.isSome)) H2
def sDPutX (td ty tv : TE) : TS := fun D σ H => tv σ H fun v H1 => td σ H1 fun x H2 => ty σ H2 fun y H3 => ∃ a H4, x = .ref a ∧ DPutX H3 a y v H4 ∧ D.nx σ H4
def tDNewB : TE := fun _ H Q => ∀ p, H p = none → Q (.ref p) (upd H p (DBo p []))
section
variable {X : Cx} {o i e value : Expr} {pos pos' tpos : Pos} {td ty tv : TE}
theorem pe_dgetBo (hu : X.A.units + 1 < cLine) (ho : PE X o td) (hi : PE X i ty) (hs : NoSl i) : PE X (.Subscript o i pos) (tDGetBo td ty) := by
  refine ⟨fun pins s σ H Q I h => ?_⟩
  refine subD_of PySem.F.slot_dict_getitem.lookup hs (thn (ho.run pins s σ H _ I h) fun u s1 ⟨x, H1, I1, rx, q1⟩ => thn (hi.run pins s1 σ H1 _ I1 q1) fun iv s2 ⟨y, H2, I2, ry, a, v, ex, g, q2⟩ => ?_)
  subst ex
  obtain rfl : u = Value.ref a := rx
  exact ⟨dictx_typeIs I2 g, dx_getItem hu I2 g ry fun w' s3 I3 rw' => ⟨v, H2, I3, rw', q2⟩⟩
theorem pc_dinX (hu : X.A.units + 1 < cLine) (hi : PE X i ty) (ho : PE X o td) : PC X .In i o (tDInX ty td) := by
  refine ⟨fun pins s σ H Q I h => ?_⟩
  refine thn (hi.run pins s σ H _ I h) fun iv s1 ⟨y, H1, I1, ry, q1⟩ => thn (ho.run pins s1 σ H1 _ I1 q1) fun u s2 ⟨x, H2, I2, rx, a, ov, ex, g, q2⟩ => ?_
  subst ex
  obtain rfl : u = Value.ref a := rx
  exact dx_in hu I2 g ry fun s3 I3 => ⟨.bl ov.isSome, H2, I3, rfl, q2⟩
theorem pc_dnotinX (hu : X.A.units + 1 < cLine) (hi : PE X i ty) (ho : PE X o td) : PC X .NotIn i o (tDNotInX ty td) := by
  refine ⟨fun pins s σ H Q I h => ?_⟩
  refine thn (hi.run pins s σ H _ I h) fun iv s1 ⟨y, H1, I1, ry, q1⟩ => thn (ho.run pins s1 σ H1 _ I1 q1) fun u s2 ⟨x, H2, I2, rx, a, ov, ex, g, q2⟩ => ?_
  subst ex
  obtain rfl : u = Value.ref a := rx
  exact dx_notIn hu I2 g ry fun s3 I3 => ⟨.bl (!ov.isSome), H2, I3, rfl, q2⟩
theorem ps_dputX (hu : X.A.units + 1 < cLine) (ho : PE X o td) (hi : PE X i ty) (hv : PE X value tv) (hs : swapsWith value (some (.Subscript o i pos')) pos.line X.env = pure false) :
    PS X (.Assign [.Subscript o i pos'] value pos) (sDPutX td ty tv) := by
  refine ⟨fun pins s σ H D I h => ?_⟩
  refine wpAny_Assign_Subscript (thn (hv.run pins s σ H _ I h) fun r s1 ⟨v, H1, I1, rv, q1⟩ => thn (ho.run pins s1 σ H1 _ I1 q1) fun u s2 ⟨x, H2, I2, rx, q2⟩ => thn (hi.run pins s2 σ H2 _ I2 q2) fun iv s3 ⟨y, H3, I3, ry, a, H4, ex, g, q3⟩ => ?_) hs
  subst ex
  obtain rfl : u = Value.ref a := rx
  exact dx_setItem hu I3 g ry rv fun s4 I4 => ⟨σ, H4, I4, q3⟩
theorem db_empty {P : Program} {w : World} {H : Hp} (h : Heap) (hb : sysModules < h.objs.size) : ObjOk P w H (h.push { cls := .type "dict", data := .dict #[] }) h.objs.size (DBo h.objs.size []) :=
  db_new (Nat.zero_le _) (beq_eq_false_iff_ne.mpr (Ne.symm (Nat.ne_of_lt hb))) .nil (Heap.DictOf.new h)
theorem pe_dnewB : PE X (.Dict [] [] pos) tDNewB := ⟨fun pins s σ H Q I h =>
  wpAny_Dict_empty ⟨.ref s.heap.objs.size, _, I.laid (a := s.heap.objs.size) (o := DBo s.heap.objs.size []) (t' := s.toks) (fun _ _ q => Heap.get?_push_of_some _ q) (Nat.le_refl _) (db_empty s.heap I.big), rfl, h _ (I.hok.fresh (Nat.le_refl _))⟩⟩
end
end L2
namespace Lt
open PySem L2
inductive D where
  | non | bl (b : Bool) | int (i : Int) | str (s : Str) | tup (xs : List D) | frl (xs : List D) | frt (xs : List D) | ref (n : Nat)
  deriving Inhabited
inductive Cell where
  | lst (xs : List D) | dK (kvs : List (Key × D)) | dT (kvs : List (List Key × D)) | dB (kvs : List (Bool × D)) | ins (C : Str) (fs : List (Str × D))
  deriving Inhabited
abbrev Store := List Cell
abbrev Env := List (Option D)
structure Exc where
  cls : Str
  at_ : Option D
inductive R (α : Type) where
  | ok (a : α) (S : Store) | exc (c : Exc) (S : Store) | bad
inductive SR where
  | nx (e : Env) (S : Store) | ret (d : D) (S : Store) | brk (e : Env) (S : Store) | exc (c : Exc) (e : Env) (S : Store) | bad
def R.bind {α β : Type} (r : R α) (k : α → Store → R β) : R β := match r with
  | .ok a S => k a S
  | .exc c S => .exc c S
  | .bad => .bad
def R.toS {α : Type} (r : R α) (e : Env) (k : α → Store → SR) : SR := match r with
  | .ok a S => k a S
  | .exc c S => .exc c e S
  | .bad => .bad
inductive Op where | add | sub | mul | fdiv | mod | pow
inductive Cm where | lt | le | gt | ge | eq | ne | isin | notin
inductive Ty where | int | bool | str | tuple | list
inductive Bi where | len | abs | int | str | list | tuple | sorted | max | min
/-- of two: split, partition, join, count, remove; a text of a number, a text, a number -/
inductive X2 where | spl | prt | joi | cnt | rmv | fs (s : Str)
mutual
inductive Ex where
  | int (i : Int) | str (s : Str) | bl (b : Bool) | non
  | var (i : Nat) | glo (x : Str)
  | bin (op : Op) (a b : Ex) | neg (a : Ex) | not (a : Ex) | and (a b : Ex) | or (a b : Ex)
  | cmp (op : Cm) (a b : Ex) | chn (o1 o2 : Cm) (a b c : Ex) | isN (a : Ex) | ntN (a : Ex) | ife (c a b : Ex)
  | tup (es : List Ex) | lst (es : List Ex)
  | idx (a i : Ex) | slT (a b : Ex) | slF (a b : Ex) | slB (a b c : Ex) | rev (a : Ex)
  | call (f : Str) (es : List Ex)
  | bi (b : Bi) (es : List Ex) | isI (a : Ex) (t : Ty)
  | app (o a : Ex) | ext (o a : Ex) | clr (o : Ex)
  | isB (a : Ex) (b : Bool) | chn4 (o1 o2 o3 : Cm) (a b c d : Ex)
  | fld (a : Ex) (C f : Str) | mth (o : Ex) (C m key : Str) (es : List Ex) | mk (C key : Str) (es : List Ex)
  | any | chn5 (o1 o2 o3 o4 : Cm) (a b c d f : Ex) | ntB (a : Ex) (b : Bool)
  | dic (t : Bool) | dgt (o k : Ex) | din (n : Bool) (k o : Ex) | get1 (o k : Ex) | get2 (o k d : Ex) | dpop (o k : Ex)
  | ixo (o a : Ex) | ins (o i a : Ex) | pop0 (o : Ex) | pop1 (o i : Ex)
  | xis (i : Nat) (C : Str) | xat (i : Nat) | xcl (i : Nat) (f : Str) | dsp (es : List Ex) | lrg (a : Ex) | callK (f : Str) (es : List Ex) (a : Ex) | dcb
  | op2 (k : X2) (o a : Ex) | idS (a i : Ex) | lsd (o : Ex) | upp (o : Ex) | gget (x : Str) (k : Ex)
  | lc (own : List Nat) (t : Tg) (it : It) (el : Ex) | lcI (own : List Nat) (t : Tg) (it : It) (c el : Ex)
inductive It where
  | seq (a : Ex) | rng (a : Ex) | rng2 (a b : Ex) | enm (a : Ex) | zip (a b : Ex) | rvd (a : Ex)
inductive Tg where
  | name (i : Nat) | tup (is : List Nat)
end
inductive St where
  | asg (t : Tg) (e : Ex) | par (i j : Nat) (a b : Ex) | sub (o i e : Ex)
  | exp (e : Ex) | ite (c : Ex) (a b : List St) | forS (t : Tg) (it : It) (b : List St) | whl (c : Ex) (b : List St)
  | ret (e : Ex) | retN | brk | pass
  | stf (o : Ex) (C f : Str) (e : Ex)
  | any | dst (o k e : Ex)
  | rai (C : Str) | tryC (b : List St) (C : Str) (a : Ex)
  | raiA (C : Str) (a : Ex) | tryA (b : List St) (C : Str) (i : Nat) (su : List St)
  | tryR (b : List St) (C C2 : Str) (i : Nat) | tryN (b : List St) | tryCC (b : List St) (C : Str) (a : Ex) (C2 : Str) (a2 : Ex) | tryAC (b : List St) (C : Str) (i : Nat) (su : List St) (C2 : Str) (a2 : Ex)
  | par3 (i j l : Nat) (a b c : Ex) | try2 (b : List St) (C : Str) (i : Nat) (su : List St) (C2 : Str) (i2 : Nat) (su2 : List St)
/-- lists and texts are shorter -/
def lim : Nat := 100000
/-- the list at a cell -/
def getL (S : Store) (r : Nat) : Option (List D) := match S[r]? with
  | some (.lst xs) => some xs
  | _ => none
/-- a value's list -/
def lstOf (S : Store) (d : D) : Option (List D) := match d with
  | .ref r => getL S r
  | .frl xs => some xs
  | _ => none
def alloc (c : Cell) (S : Store) : R D := .ok (.ref S.length) (S ++ [c])
def Sm (i j : Int) : Prop := i.natAbs.log2 + j.natAbs.log2 < 1000000
instance (i j : Int) : Decidable (Sm i j) := inferInstanceAs (Decidable (_ < _))
def binop (op : Op) (x y : D) (S : Store) : R D := match op, x, y with
  | .add, .int i, .int j => .ok (.int (i + j)) S
  | .add, .str s, .str t => if s.length + t.length ≤ lim then .ok (.str (s ++ t)) S else .bad
  | .add, .ref a, .ref b => match getL S a, getL S b with
    | some xs, some ys => if xs.length + ys.length ≤ lim then alloc (.lst (xs ++ ys)) S else .bad
    | _, _ => .bad
  | .add, .tup xs, .tup ys => if xs.length + ys.length ≤ lim then .ok (.tup (xs ++ ys)) S else .bad
  | .sub, .int i, .int j => .ok (.int (i - j)) S
  | .mul, .int i, .int j => if Sm i j then .ok (.int (i * j)) S else .bad
  | .mul, .ref a, .int j => match getL S a with
    | some xs => if 0 ≤ j ∧ j ≤ 100000 ∧ xs.length * j.toNat ≤ lim then alloc (.lst (List.replicate j.toNat xs).flatten) S else .bad
    | _ => .bad
  | .fdiv, .int i, .int j => if j ≠ 0 ∧ j.natAbs.log2 < 9000 then .ok (.int (i.fdiv j)) S else .bad
  | .mod, .int i, .int j => if j ≠ 0 then .ok (.int (i.fmod j)) S else .bad
  | .pow, .int i, .int j => if 0 ≤ j ∧ j ≤ 1000000 ∧ i.natAbs < 2 ^ 64 then .ok (.int (i ^ j.toNat)) S else .bad
  | _, _, _ => .bad
def mapO {α β : Type} (f : α → Option β) : List α → Option (List β)
  | [] => some []
  | x :: r => match f x, mapO f r with
    | some y, some ys => some (y :: ys)
    | _, _ => none
/-- a value as plain data -/
def toP (S : Store) : Nat → D → Option PyData
  | 0, _ => none
  | _ + 1, .non => some .none
  | _ + 1, .bl b => some (.bool b)
  | _ + 1, .int i => some (.int i)
  | _ + 1, .str s => if PyData.canLay0 (.str s) = true then some (.str s) else none
  | n + 1, .tup xs => (mapO (toP S n) xs).map .tuple
  | n + 1, .frl xs => (mapO (toP S n) xs).map .list
  | n + 1, .frt xs => (mapO (toP S n) xs).map .tuple
  | n + 1, .ref r => match getL S r with
    | some xs => (mapO (toP S n) xs).map .list
    | none => none
def eqD (S : Store) (x y : D) : Option Bool := match toP S 12 x, toP S 12 y with
  | some a, some b => some (PyData.eqv a b)
  | _, _ => none
/-- a flat value is among flat ones -/
def flatD : D → Bool
  | .non => true
  | .bl _ => true
  | .int _ => true
  | .str _ => true
  | _ => false
def eqF : D → D → Bool
  | .non, .non => true
  | .bl a, .bl b => a == b
  | .bl a, .int b => (if a then 1 else 0) == b
  | .int a, .bl b => a == (if b then 1 else 0)
  | .int a, .int b => a == b
  | .str a, .str b => a == b
  | _, _ => false
def inO (S : Store) (x : D) (y : D) : Option Bool := match y with
  | .tup ys => if flatD x = true ∧ ys.all flatD = true then some (ys.any fun z => eqF z x) else none
  | .frt ys => if flatD x = true ∧ ys.all flatD = true then some (ys.any fun z => eqF z x) else none
  | .ref _ => match toP S 12 x, toP S 12 y with
    | some a, some (.list bs) => some (bs.any fun b => PyData.eqv b a)
    | _, _ => none
  | .str j => match x with
    | .str i => some (!(Builtin.Str.occurrences j i 0 j.length 1).isEmpty)
    | _ => none
  | _ => none
def cmpop (op : Cm) (x y : D) (S : Store) : R D := match op with
  | .lt => match x, y with
    | .int i, .int j => .ok (.bl (decide (i < j))) S
    | _, _ => .bad
  | .le => match x, y with
    | .int i, .int j => .ok (.bl (decide (i ≤ j))) S
    | _, _ => .bad
  | .gt => match x, y with
    | .int i, .int j => .ok (.bl (decide (j < i))) S
    | _, _ => .bad
  | .ge => match x, y with
    | .int i, .int j => .ok (.bl (decide (j ≤ i))) S
    | _, _ => .bad
  | .eq => match eqD S x y with
    | some b => .ok (.bl b) S
    | none => .bad
  | .ne => match eqD S x y with
    | some b => .ok (.bl (!b)) S
    | none => .bad
  | .isin => match inO S x y with
    | some b => .ok (.bl b) S
    | none => .bad
  | .notin => match inO S x y with
    | some b => .ok (.bl (!b)) S
    | none => .bad
def isN : D → Bool
  | .non => true
  | _ => false
def isTy (S : Store) (t : Ty) (x : D) : Option Bool := match x with
  | .non => some false
  | .bl _ => some (match t with
    | .bool => true
    | .int => true
    | _ => false)
  | .int _ => some (match t with
    | .int => true
    | _ => false)
  | .str _ => some (match t with
    | .str => true
    | _ => false)
  | .tup _ => some (match t with
    | .tuple => true
    | _ => false)
  | .frl _ => some (match t with
    | .list => true
    | _ => false)
  | .frt _ => some (match t with
    | .tuple => true
    | _ => false)
  | .ref r => match getL S r with
    | some _ => some (match t with
      | .list => true
      | _ => false)
    | none => none
def seqOf (S : Store) (d : D) : Option (List D) := match d with
  | .tup xs => some xs
  | .frl xs => some xs
  | .frt xs => some xs
  | .ref r => getL S r
  | _ => none
/-- a sign of a text -/
def sign (c : Nat) : D := .str ⟨#[c]⟩
def itemS (z : Str) (k : Int) (S : Store) : R D := if z.length ≤ lim then (match atI z.cps.toList k with
  | some c => .ok (sign c) S
  | none => .bad) else .bad
def item (x i : D) (S : Store) : R D := match i with
  | .int k => match seqOf S x with
    | some xs => match atI xs k with
      | some d => .ok d S
      | none => .bad
    | none => .bad
  | _ => .bad
/-- a text's sign -/
def idSR (x i : D) (S : Store) : R D := match x, i with
  | .str z, .int k => itemS z k S
  | _, _ => .bad
def cutD (xs : List D) (lo hi : Option Int) : List D := (xs.drop (HT.sIx xs.length 0 lo)).take (HT.sIx xs.length xs.length hi - HT.sIx xs.length 0 lo)
def intO : Option D → Option (Option Int)
  | none => some none
  | some (.int i) => some (some i)
  | _ => none
def isInt : D → Bool
  | .int _ => true
  | _ => false
def slice (x : D) (lo hi : Option D) (S : Store) : R D := match x with
  | .tup xs => match intO lo, intO hi with
    | some l, some h => .ok (.tup (cutD xs l h)) S
    | _, _ => .bad
  | .str z => match intO lo, intO hi with
    | some l, some h => if z.length ≤ lim then .ok (.str (PySem.Txt.slice z l h)) S else .bad
    | _, _ => .bad
  | x => match lstOf S x, intO lo, intO hi with
    | some xs, some l, some h => alloc (.lst (cutD xs l h)) S
    | _, _, _ => .bad
def intsOf : List D → Option (List Int)
  | [] => some []
  | .int i :: r => match intsOf r with
    | some is => some (i :: is)
    | none => none
  | _ :: _ => none
def keyD : D → Option Key
  | .int i => some (.inl i)
  | .str s => some (.inr s)
  | _ => none
def keysD : D → Option (List Key)
  | .tup xs => mapO keyD xs
  | _ => none
section
variable {κ : Type} [DecidableEq κ]
def lookK (kvs : List (κ × D)) (k : κ) : Option D := (kvs.find? fun kv => decide (kv.1 = k)).map (·.2)
def putKD (kvs : List (κ × D)) (k : κ) (v : D) : List (κ × D) :=
  if (kvs.any fun kv => decide (kv.1 = k)) = true then kvs.map (fun kv => if kv.1 = k then (kv.1, v) else kv) else kvs ++ [(k, v)]
def dropKD (kvs : List (κ × D)) (k : κ) : List (κ × D) := kvs.filter fun kv => decide (kv.1 ≠ k)
end
/-- a display's pairs, one behind another -/
def pairsD : List D → Option (List (Key × D))
  | [] => some []
  | [_] => none
  | k :: v :: r => match keyD k, pairsD r with
    | some k, some l => some ((k, v) :: l)
    | _, _ => none
def mergeD (kvs : List (Key × D)) : List (Key × D) := kvs.foldl (fun acc kv => putKD acc kv.1 kv.2) []
def dspR (ds : List D) (S : Store) : R D := match pairsD ds with
  | some kvs => if kvs.length ≤ 15 then alloc (.dK (mergeD kvs)) S else .bad
  | none => .bad
def isDct (x : D) (S : Store) : Bool := match x with
  | .ref r => match S[r]? with
    | some (.dK _) => true
    | some (.dT _) => true
    | _ => false
  | _ => false
def dgetO (S : Store) (x y : D) : Option (Option D) := match x with
  | .ref r => match S[r]? with
    | some (.dK kvs) => (keyD y).map (lookK kvs)
    | some (.dT kvs) => (keysD y).map (lookK kvs)
    | _ => none
  | _ => none
/-- of a dict whose keys are bools -/
def keyBo : D → Option Bool
  | .bl b => some b
  | _ => none
def dbO (S : Store) (x y : D) : Option (Option D) := match x with
  | .ref r => match S[r]? with
    | some (.dB kvs) => (keyBo y).map (lookK kvs)
    | _ => none
  | _ => none
def dbgR (x y : D) (S : Store) : R D := match dbO S x y with
  | some (some d) => .ok d S
  | _ => .bad
def dbiR (n : Bool) (y x : D) (S : Store) : R D := match dbO S x y with
  | some o => .ok (.bl (if n then !o.isSome else o.isSome)) S
  | none => .bad
def dgtR (x y : D) (S : Store) : R D := match dgetO S x y with
  | some (some d) => .ok d S
  | some none => .bad
  | none => dbgR x y S
def dinR (n : Bool) (y x : D) (S : Store) : R D := match dgetO S x y with
  | some o => .ok (.bl (if n then !o.isSome else o.isSome)) S
  | none => dbiR n y x S
def getR (x y z : D) (S : Store) : R D := match dgetO S x y with
  | some o => .ok (o.getD z) S
  | none => .bad
def dpopR (x y : D) (S : Store) : R D := match x with
  | .ref r => match S[r]?, keyD y with
    | some (.dK kvs), some k => match lookK kvs k with
      | some v => .ok v (S.set r (.dK (dropKD kvs k)))
      | none => .bad
    | _, _ => .bad
  | _ => .bad
def dstR (x y v : D) (S : Store) : R D := match x with
  | .ref r => match S[r]? with
    | some (.dK kvs) => match keyD y with
      | some k => if kvs.length < lim then .ok .non (S.set r (.dK (putKD kvs k v))) else .bad
      | none => .bad
    | some (.dT kvs) => match keysD y with
      | some k => if kvs.length < lim then .ok .non (S.set r (.dT (putKD kvs k v))) else .bad
      | none => .bad
    | some (.dB kvs) => match keyBo y with
      | some k => if kvs.length < lim then .ok .non (S.set r (.dB (putKD kvs k v))) else .bad
      | none => .bad
    | _ => .bad
  | _ => .bad
def lenO (S : Store) (x : D) : Option Nat := match x with
  | .ref r => match S[r]? with
    | some (.dK kvs) => some kvs.length
    | some (.lst xs) => some xs.length
    | _ => none
  | x => (seqOf S x).map (·.length)
def minL : Int → List Int → Int
  | a, [] => a
  | a, b :: r => minL (if b < a then b else a) r
def maxL : Int → List Int → Int
  | a, [] => a
  | a, b :: r => maxL (if b > a then b else a) r
/-- the whole numbers that a dict holds as keys -/
def intsK : List (Key × D) → Option (List Int)
  | [] => some []
  | (.inl i, _) :: r => (intsK r).map (i :: ·)
  | _ :: _ => none
/-- two texts as they are sorted -/
def sort2 (a b : Str) : List D := if PySem.Spec.ltCps b.cps.toList a.cps.toList = true then [.str b, .str a] else [.str a, .str b]
/-- sorted of a dict, of two texts -/
def srtR (x : D) (S : Store) : R D := match x with
  | .ref r => match S[r]? with
    | some (.dK kvs) => match intsK kvs with
      | some is => if is.length < 64 then alloc (.lst ((is.mergeSort (fun a b => decide (a ≤ b))).map .int)) S else .bad
      | none => .bad
    | some (.lst [.str a, .str b]) => alloc (.lst (sort2 a b)) S
    | _ => .bad
  | _ => .bad
/-- a dict's keys -/
def dKey : Key → D
  | .inl i => .int i
  | .inr s => .str s
def keysO (S : Store) (x : D) : Option (List Key) := match x with
  | .ref r => match S[r]? with
    | some (.dK kvs) => some (kvs.map (·.1))
    | _ => none
  | _ => none
/-- list of a dict -/
def lsdR (x : D) (S : Store) : R D := match keysO S x with
  | some ks => alloc (.lst (ks.map dKey)) S
  | none => .bad
def biop (b : Bi) (ds : List D) (S : Store) : R D := match b, ds with
  | .len, [x] => match x with
    | .str s => if s.length ≤ lim then .ok (.int s.length) S else .bad
    | x => match lenO S x with
      | some n => .ok (.int n) S
      | none => .bad
  | .abs, [.int i] => .ok (.int (if i < 0 then -i else i)) S
  | .int, [.int i] => .ok (.int i) S
  | .int, [.str z] => if z.length ≤ 640 then (match PySem.intText? z with
    | some n => .ok (.int n) S
    | none => .bad) else .bad
  | .str, [.int i] => if i.natAbs.log2 < 1920 then .ok (.str (toString i)) S else .bad
  | .int, [.bl k] => .ok (.int (if k then 1 else 0)) S
  | .list, [x] => match seqOf S x with
    | some xs => alloc (.lst xs) S
    | none => .bad
  | .tuple, [x] => match x with
    | .tup xs => .ok (.tup xs) S
    | x => match lstOf S x with
      | some xs => .ok (.tup xs) S
      | none => .bad
  | .max, [.int i, .int j] => .ok (.int (if j > i then j else i)) S
  | .min, [.int i, .int j] => .ok (.int (if j < i then j else i)) S
  | .min, [.int i, .int j, .int l] => .ok (.int (if l < (if j < i then j else i) then l else (if j < i then j else i))) S
  | .max, [x] => match lstOf S x with
    | some xs => match intsOf xs with
      | some (a :: is) => .ok (.int (maxL a is)) S
      | _ => .bad
    | none => .bad
  | .min, [x] => match lstOf S x with
    | some xs => match intsOf xs with
      | some (a :: is) => .ok (.int (minL a is)) S
      | _ => .bad
    | none => .bad
  | .sorted, [x] => match lstOf S x with
    | some xs => match intsOf xs with
      | some is => if is.length < 64 then alloc (.lst ((is.mergeSort (fun a b => decide (a ≤ b))).map .int)) S else .bad
      | none => srtR x S
    | none => srtR x S
  | _, _ => .bad
def isLst (o : D) (S : Store) : Bool := match o with
  | .ref r => (getL S r).isSome
  | _ => false
def append (o a : D) (S : Store) : R D := match o with
  | .ref r => match getL S r with
    | some xs => if xs.length < lim then .ok .non (S.set r (.lst (xs ++ [a]))) else .bad
    | _ => .bad
  | _ => .bad
def extend (o a : D) (S : Store) : R D := match o, a with
  | .ref r, .ref q => match getL S r, getL S q with
    | some xs, some ys => if xs.length + ys.length ≤ lim then .ok .non (S.set r (.lst (xs ++ ys))) else .bad
    | _, _ => .bad
  | _, _ => .bad
def clear (o : D) (S : Store) : R D := match o with
  | .ref r => match getL S r with
    | some _ => .ok .non (S.set r (.lst []))
    | _ => .bad
  | _ => .bad
/-- the first place of an equal one -/
def findP (a : PyData) : List PyData → Option Nat
  | [] => none
  | b :: r => if PyData.eqv b a = true then some 0 else (findP a r).map (· + 1)
def ixoR (x y : D) (S : Store) : R D := match toP S 12 x, toP S 12 y with
  | some (.list bs), some a => match findP a bs with
    | some j => .ok (.int j) S
    | none => .bad
  | _, _ => .bad
def insR (x i y : D) (S : Store) : R D := match x, i with
  | .ref r, .int j => match getL S r with
    | some xs => if xs.length < lim ∧ 0 ≤ j ∧ j < 2 ^ 62 then .ok .non (S.set r (.lst (xs.take j.toNat ++ [y] ++ xs.drop j.toNat))) else .bad
    | none => .bad
  | _, _ => .bad
def pop0R (x : D) (S : Store) : R D := match x with
  | .ref r => match getL S r with
    | some xs => match xs[xs.length - 1]? with
      | some y => .ok y (S.set r (.lst xs.dropLast))
      | none => .bad
    | none => .bad
  | _ => .bad
def pop1R (x i : D) (S : Store) : R D := match x, i with
  | .ref r, .int j => match getL S r with
    | some xs => match xs[j.toNat]? with
      | some y => if 0 ≤ j ∧ j < 2 ^ 62 then .ok y (S.set r (.lst (xs.eraseIdx j.toNat))) else .bad
      | none => .bad
    | none => .bad
  | _, _ => .bad
def setItem (o i v : D) (S : Store) : R D := match o, i with
  | .ref r, .int k => match getL S r with
    | some xs => match ixN xs.length k with
      | some j => .ok .non (S.set r (.lst (xs.set j v)))
      | none => .bad
    | _ => .bad
  | _, _ => .bad
def strsOf : List D → Option (List Str)
  | [] => some []
  | .str s :: r => (strsOf r).map (s :: ·)
  | _ :: _ => none
/-- the first of the two is right for it -/
def x2Ok (k : X2) (x : D) (S : Store) : Bool := match k with
  | .spl => match x with
    | .str _ => true
    | _ => false
  | .prt => match x with
    | .str _ => true
    | _ => false
  | .joi => match x with
    | .str _ => true
    | _ => false
  | .cnt => isLst x S
  | .rmv => isLst x S
  | .fs s => match x with
    | .int i => decide (i.natAbs.log2 < 1920 ∧ (toString i : Str).length + s.length ≤ lim)
    | _ => false
def splR (x y : D) (S : Store) : R D := match x, y with
  | .str a, .str b => if b.length ≠ 0 ∧ a.length + 2 ≤ lim then alloc (.lst ((PySem.Txt.split a b).map .str)) S else .bad
  | _, _ => .bad
def prtR (x y : D) (S : Store) : R D := match x, y with
  | .str a, .str b => if b.length ≠ 0 ∧ a.length ≤ lim then .ok (.tup [.str (PySem.Txt.partition a b).1, .str (PySem.Txt.partition a b).2.1, .str (PySem.Txt.partition a b).2.2]) S else .bad
  | _, _ => .bad
def joiR (x y : D) (S : Store) : R D := match x with
  | .str a => match seqOf S y with
    | some ys => match strsOf ys with
      | some ss => if (ss.map (·.length)).sum + ss.length * a.length ≤ lim then .ok (.str (PySem.Txt.join a ss)) S else .bad
      | none => .bad
    | none => .bad
  | _ => .bad
def cntR (x y : D) (S : Store) : R D := match x with
  | .ref r => match getL S r with
    | some xs => if flatD y = true ∧ xs.all flatD = true then .ok (.int (xs.countP fun z => eqF z y)) S else .bad
    | none => .bad
  | _ => .bad
def rmvR (x y : D) (S : Store) : R D := match x, y with
  | .ref r, .str z => match getL S r with
    | some xs => match strsOf xs with
      | some ss => if z ∈ ss then .ok .non (S.set r (.lst ((ss.erase z).map .str))) else .bad
      | none => .bad
    | none => .bad
  | _, _ => .bad
def fsR (s : Str) (x y : D) (S : Store) : R D := match x, y with
  | .int i, .int j => if i.natAbs.log2 < 1920 ∧ j.natAbs.log2 < 1920 ∧ (toString i : Str).length + s.length + (toString j : Str).length ≤ lim then .ok (.str ((toString i : Str) ++ s ++ (toString j : Str))) S else .bad
  | _, _ => .bad
def x2R (k : X2) (x y : D) (S : Store) : R D := match k with
  | .spl => splR x y S
  | .prt => prtR x y S
  | .joi => joiR x y S
  | .cnt => cntR x y S
  | .rmv => rmvR x y S
  | .fs s => fsR s x y S
def uppR (x : D) (S : Store) : R D := match x with
  | .str a => if a.length ≤ lim then .ok (.str (PySem.Txt.upper a)) S else .bad
  | _ => .bad
/-- a written dict at a text -/
def ggetR (o : Option (List (Str × D))) (y : D) (S : Store) : R D := match o, y with
  | some l, .str s => .ok ((l.lookup s).getD .non) S
  | _, _ => .bad
def getI (S : Store) (r : Nat) : Option (Str × List (Str × D)) := match S[r]? with
  | some (.ins C fs) => some (C, fs)
  | _ => none
def putD (f : Str) (v : D) : List (Str × D) → List (Str × D)
  | [] => [(f, v)]
  | (g, x) :: r => if g = f then (g, v) :: r else (g, x) :: putD f v r
def fldR (C f : Str) (x : D) (S : Store) : R D := match x with
  | .ref r => match getI S r with
    | some (C', fs) => if C' = C then (match fs.lookup f with
      | some d => .ok d S
      | none => .bad) else .bad
    | none => .bad
  | _ => .bad
def insOk (C m : Str) (x : D) (S : Store) : Bool := match x with
  | .ref r => match getI S r with
    | some (C', fs) => decide (C' = C) && (fs.lookup m).isNone
    | none => false
  | _ => false
def stfR (C f : Str) (x v : D) (S : Store) : R D := match x with
  | .ref r => match getI S r with
    | some (C', fs) => if C' = C ∧ fs.length < 900 then .ok .non (S.set r (.ins C (putD f v fs))) else .bad
    | none => .bad
  | _ => .bad
/-- behind __init__ -/
def madeR (n : Nat) (d : D) (S : Store) : R D := match d with
  | .non => .ok (.ref n) S
  | _ => .bad
def isBR (b : Bool) (x : D) (S : Store) : R D := match x with
  | .bl c => .ok (.bl (decide (c = b))) S
  | _ => .bad
def ntBR (b : Bool) (x : D) (S : Store) : R D := match x with
  | .bl c => .ok (.bl (!decide (c = b))) S
  | _ => .bad
structure Itr where
  n : Nat
  at_ : Nat → Store → Option D
  fin : Store → Bool
/-- a text, sign by sign -/
def strItr (d : D) : Option Itr := match d with
  | .str z => some ⟨z.cps.size, fun i _ => (z.cps[i]?).map sign, fun _ => true⟩
  | _ => none
def seqItr (d : D) (S : Store) : Option Itr := match seqOf S d with
  | some xs => some ⟨xs.length, fun i S => match seqOf S d with
      | some ys => if ys.length = xs.length then ys[i]? else none
      | none => none, fun S => match seqOf S d with
      | some ys => decide (ys.length = xs.length)
      | none => false⟩
  | none => strItr d
def lstItr (d : D) (S : Store) (f : Nat → Nat → Nat) (w : Nat → D → D) : Option Itr := match lstOf S d with
  | some xs => some ⟨xs.length, fun i S => match lstOf S d with
      | some ys => if ys.length = xs.length then (ys[f xs.length i]?).map (w i) else none
      | none => none, fun S => match lstOf S d with
      | some ys => decide (ys.length = xs.length)
      | none => false⟩
  | none => none
def zipItr (x y : D) (S : Store) : Option Itr := match lstOf S x, lstOf S y with
  | some xs, some ys => some ⟨min xs.length ys.length, fun i S => match lstOf S x, lstOf S y with
      | some xs', some ys' => if xs'.length = xs.length ∧ ys'.length = ys.length then (match xs'[i]?, ys'[i]? with
        | some u, some v => some (.tup [u, v])
        | _, _ => none) else none
      | _, _ => none, fun S => match lstOf S x, lstOf S y with
      | some xs', some ys' => decide (xs'.length = xs.length ∧ ys'.length = ys.length)
      | _, _ => false⟩
  | _, _ => none
def rngItr (lo hi : Int) : Option Itr := if -(2 ^ 62) ≤ lo ∧ lo < 2 ^ 62 ∧ -(2 ^ 62) ≤ hi ∧ hi < 2 ^ 62 then some ⟨(hi - lo).toNat, fun i _ => some (.int (lo + i)), fun _ => true⟩ else none
/-- list(range(n)) -/
def lrgR (x : D) (S : Store) : R D := match x with
  | .int j => if 0 ≤ j ∧ j ≤ 1000 then alloc (.lst ((List.range j.toNat).map fun (i : Nat) => .int (i : Int))) S else .bad
  | _ => .bad
/-- the slots of a target -/
def tsl : Tg → List Nat
  | .name i => [i]
  | .tup is => is
def setAll : List Nat → List D → Env → Option Env
  | [], [], e => some e
  | i :: is, x :: xs, e => if i < e.length then setAll is xs (e.set i (some x)) else none
  | _, _, _ => none
def bindT : Tg → D → Env → Store → Option Env
  | .name i, d, e, _ => if i < e.length then some (e.set i (some d)) else none
  | .tup is, d, e, S => match seqOf S d with
    | some xs => if xs.length = is.length then setAll is xs e else none
    | none => none
/-- turns of a loop: k are left, the next is the i-th -/
def forGo (t : Tg) (it : Itr) (body : Env → Store → SR) : Nat → Nat → Env → Store → SR
  | 0, _, e, S => if it.fin S = true then .nx e S else .bad
  | k + 1, i, e, S => match it.at_ i S with
    | none => .bad
    | some d => match bindT t d e S with
      | none => .bad
      | some e1 => match body e1 S with
        | .nx e2 S2 => forGo t it body k (i + 1) e2 S2
        | .brk e2 S2 => .nx e2 S2
        | r => r
def whGo (c : Env → Store → R D) (body : Env → Store → SR) : Nat → Env → Store → SR
  | 0, _, _ => .bad
  | k + 1, e, S => (c e S).toS e fun d S1 => match d with
    | .bl true => match body e S1 with
      | .nx e2 S2 => whGo c body k e2 S2
      | .brk e2 S2 => .nx e2 S2
      | r => r
    | .bl false => .nx e S1
    | _ => .bad
/-- no error comes out of a comprehension -/
def R.bindX {α β : Type} (r : R α) (k : α → Store → R β) : R β := match r with
  | .ok a S => k a S
  | _ => .bad
/-- turns of a comprehension; acc: what is made so far -/
def lcGo (t : Tg) (it : Itr) (c : Option (Env → Store → R D)) (el : Env → Store → R D) (e : Env) : Nat → Nat → List D → Store → R (List D)
  | 0, _, acc, S => if it.fin S = true then .ok acc S else .bad
  | k + 1, i, acc, S => match it.at_ i S with
    | none => .bad
    | some d => match bindT t d e S with
      | none => .bad
      | some e1 => match c with
        | none => (el e1 S).bindX fun y S2 => if acc.length < lim then lcGo t it none el e k (i + 1) (acc ++ [y]) S2 else .bad
        | some c => (c e1 S).bindX fun b S1 => match b with
          | .bl true => (el e1 S1).bindX fun y S2 => if acc.length < lim then lcGo t it (some c) el e k (i + 1) (acc ++ [y]) S2 else .bad
          | .bl false => lcGo t it (some c) el e k (i + 1) acc S1
          | _ => .bad
def wipeE (e : Env) : List Nat → Env
  | [] => e
  | v :: vs => (wipeE e vs).set v none
structure Cxt where
  cl : Str → List D → Store → R D
  glo : Str → Option D
  fuel : Nat
  sub : Str → Str → Option Bool
  /-- the error that a suite holds -/
  exc : Option Exc
  /-- isinstance of an error's class -/
  isc : Str → Str → Option Bool
  /-- a def that looks at the error that a suite holds -/
  clx : Str → Exc → Store → R D
  /-- written dicts -/
  frd : Str → Option (List (Str × D))
def xclR (o : Option Exc) (g : Exc → R D) : R D := match o with
  | some c => g c
  | none => .bad
def xisR (o : Option Exc) (f : Str → Option Bool) (S : Store) : R D := match o with
  | some c => match f c.cls with
    | some b => .ok (.bl b) S
    | none => .bad
  | none => .bad
def xatR (o : Option Exc) (f : Str → Bool) (S : Store) : R D := match o with
  | some c => match c.at_ with
    | some d => if f c.cls = true then .ok d S else .bad
    | none => .bad
  | none => .bad
mutual
def ev (G : Cxt) : Ex → Env → Store → R D
  | .int i, _, S => .ok (.int i) S
  | .str s, _, S => .ok (.str s) S
  | .bl b, _, S => .ok (.bl b) S
  | .non, _, S => .ok .non S
  | .var i, e, S => match e[i]? with
    | some (some d) => .ok d S
    | _ => .bad
  | .glo x, _, S => match G.glo x with
    | some d => .ok d S
    | none => .bad
  | .bin op a b, e, S => (ev G a e S).bind fun x S => (ev G b e S).bind fun y S => binop op x y S
  | .neg a, e, S => (ev G a e S).bind fun x S => match x with
    | .int i => .ok (.int (-i)) S
    | _ => .bad
  | .not a, e, S => (ev G a e S).bind fun x S => match x with
    | .bl b => .ok (.bl (!b)) S
    | _ => .bad
  | .and a b, e, S => (ev G a e S).bind fun x S => match x with
    | .bl true => ev G b e S
    | .bl false => .ok (.bl false) S
    | _ => .bad
  | .or a b, e, S => (ev G a e S).bind fun x S => match x with
    | .bl true => .ok (.bl true) S
    | .bl false => ev G b e S
    | _ => .bad
  | .cmp op a b, e, S => (ev G a e S).bind fun x S => (ev G b e S).bind fun y S => cmpop op x y S
  | .chn o1 o2 a b c, e, S => (ev G a e S).bind fun x S => (ev G b e S).bind fun y S => (cmpop o1 x y S).bind fun k S => match k with
    | .bl true => (ev G c e S).bind fun z S => cmpop o2 y z S
    | .bl false => .ok (.bl false) S
    | _ => .bad
  | .isN a, e, S => (ev G a e S).bind fun x S => .ok (.bl (isN x)) S
  | .ntN a, e, S => (ev G a e S).bind fun x S => .ok (.bl (!isN x)) S
  | .ife c a b, e, S => (ev G c e S).bind fun x S => match x with
    | .bl true => ev G a e S
    | .bl false => ev G b e S
    | _ => .bad
  | .tup es, e, S => (evs G es e S).bind fun ds S => .ok (.tup ds) S
  | .lst es, e, S => (evs G es e S).bind fun ds S => alloc (.lst ds) S
  | .idx a i, e, S => (ev G a e S).bind fun x S => (ev G i e S).bind fun y S => item x y S
  | .slT a b, e, S => (ev G a e S).bind fun x S => (ev G b e S).bind fun y S => slice x none (some y) S
  | .slF a b, e, S => (ev G a e S).bind fun x S => (ev G b e S).bind fun y S => slice x (some y) none S
  | .slB a b c, e, S => (ev G a e S).bind fun x S => (ev G b e S).bind fun y S => if isInt y = true then (ev G c e S).bind fun z S => slice x (some y) (some z) S else .bad
  | .rev a, e, S => (ev G a e S).bind fun x S => match lstOf S x with
    | some xs => alloc (.lst xs.reverse) S
    | none => .bad
  | .call f es, e, S => (evs G es e S).bind fun ds S => G.cl f ds S
  | .bi b es, e, S => (evs G es e S).bind fun ds S => biop b ds S
  | .isI a t, e, S => (ev G a e S).bind fun x S => match isTy S t x with
    | some b => .ok (.bl b) S
    | none => .bad
  | .app o a, e, S => (ev G o e S).bind fun x S => if isLst x S = true then (ev G a e S).bind fun y S => append x y S else .bad
  | .ext o a, e, S => (ev G o e S).bind fun x S => if isLst x S = true then (ev G a e S).bind fun y S => extend x y S else .bad
  | .clr o, e, S => (ev G o e S).bind fun x S => clear x S
  | .isB a b, e, S => (ev G a e S).bind (isBR b)
  | .chn4 o1 o2 o3 a b c d, e, S => (ev G a e S).bind fun x S => (ev G b e S).bind fun y S => (cmpop o1 x y S).bind fun k S => match k with
    | .bl true => (ev G c e S).bind fun z S => (cmpop o2 y z S).bind fun k S => match k with
      | .bl true => (ev G d e S).bind fun w S => cmpop o3 z w S
      | .bl false => .ok (.bl false) S
      | _ => .bad
    | .bl false => .ok (.bl false) S
    | _ => .bad
  | .fld a C f, e, S => (ev G a e S).bind (fldR C f)
  | .mth o C m key es, e, S => (ev G o e S).bind fun x S => if insOk C m x S = true then (evs G es e S).bind fun ds S => G.cl key (x :: ds) S else .bad
  | .mk C key es, e, S => (evs G es e S).bind fun ds S => (G.cl key (.ref S.length :: ds) (S ++ [.ins C []])).bind (madeR S.length)
  | .any, _, _ => .bad
  | .chn5 o1 o2 o3 o4 a b c d f, e, S => (ev G a e S).bind fun x S => (ev G b e S).bind fun y S => (cmpop o1 x y S).bind fun k S => match k with
    | .bl true => (ev G c e S).bind fun z S => (cmpop o2 y z S).bind fun k S => match k with
      | .bl true => (ev G d e S).bind fun w S => (cmpop o3 z w S).bind fun k S => match k with
        | .bl true => (ev G f e S).bind fun u S => cmpop o4 w u S
        | .bl false => .ok (.bl false) S
        | _ => .bad
      | .bl false => .ok (.bl false) S
      | _ => .bad
    | .bl false => .ok (.bl false) S
    | _ => .bad
  | .ntB a b, e, S => (ev G a e S).bind (ntBR b)
  | .dic t, _, S => alloc (if t = true then .dT [] else .dK []) S
  | .dcb, _, S => alloc (.dB []) S
  | .dgt o k, e, S => (ev G o e S).bind fun x S => (ev G k e S).bind fun y S => dgtR x y S
  | .din n k o, e, S => (ev G k e S).bind fun y S => (ev G o e S).bind fun x S => dinR n y x S
  | .get1 o k, e, S => (ev G o e S).bind fun x S => if isDct x S = true then (ev G k e S).bind fun y S => getR x y .non S else .bad
  | .get2 o k d, e, S => (ev G o e S).bind fun x S => if isDct x S = true then (ev G k e S).bind fun y S => (ev G d e S).bind fun z S => getR x y z S else .bad
  | .dpop o k, e, S => (ev G o e S).bind fun x S => if isDct x S = true then (ev G k e S).bind fun y S => dpopR x y S else .bad
  | .ixo o a, e, S => (ev G o e S).bind fun x S => if isLst x S = true then (ev G a e S).bind fun y S => ixoR x y S else .bad
  | .ins o i a, e, S => (ev G o e S).bind fun x S => if isLst x S = true then (ev G i e S).bind fun j S => (ev G a e S).bind fun y S => insR x j y S else .bad
  | .pop0 o, e, S => (ev G o e S).bind pop0R
  | .pop1 o i, e, S => (ev G o e S).bind fun x S => if isLst x S = true then (ev G i e S).bind fun j S => pop1R x j S else .bad
  | .xis _ C, _, S => xisR G.exc (fun x => G.isc x C) S
  | .xat _, _, S => xatR G.exc (fun x => (G.isc x x).isSome) S
  | .xcl _ f, _, S => xclR G.exc (fun c => G.clx f c S)
  | .dsp es, e, S => (evs G es e S).bind dspR
  | .lrg a, e, S => (ev G a e S).bind lrgR
  | .callK f es a, e, S => (evs G es e S).bind fun ds S => (ev G a e S).bind fun d S => G.cl f (ds ++ [d]) S
  | .op2 k o a, e, S => (ev G o e S).bind fun x S => if x2Ok k x S = true then (ev G a e S).bind fun y S => x2R k x y S else .bad
  | .upp o, e, S => (ev G o e S).bind uppR
  | .idS a i, e, S => (ev G a e S).bind fun x S => (ev G i e S).bind fun y S => idSR x y S
  | .lsd o, e, S => (ev G o e S).bind lsdR
  | .gget x k, e, S => (ev G k e S).bind (ggetR (G.frd x))
  | .lc own t it el, e, S => (evI G it e S).bind fun j S => (lcGo t j none (ev G el) (wipeE e own) j.n 0 [] S).bind fun ds S => alloc (.lst ds) S
  | .lcI own t it c el, e, S => (evI G it e S).bind fun j S => (lcGo t j (some (ev G c)) (ev G el) (wipeE e own) j.n 0 [] S).bind fun ds S => alloc (.lst ds) S
def evs (G : Cxt) : List Ex → Env → Store → R (List D)
  | [], _, S => .ok [] S
  | a :: r, e, S => (ev G a e S).bind fun x S => (evs G r e S).bind fun xs S => .ok (x :: xs) S
def evI (G : Cxt) : It → Env → Store → R Itr
  | .seq a, e, S => (ev G a e S).bind fun x S => match seqItr x S with
    | some j => .ok j S
    | none => .bad
  | .rng a, e, S => (ev G a e S).bind fun x S => match x with
    | .int j => match rngItr 0 j with
      | some j => .ok j S
      | none => .bad
    | _ => .bad
  | .rng2 a b, e, S => (ev G a e S).bind fun x S => (ev G b e S).bind fun y S => match x, y with
    | .int i, .int j => match rngItr i j with
      | some j => .ok j S
      | none => .bad
    | _, _ => .bad
  | .enm a, e, S => (ev G a e S).bind fun x S => match lstItr x S (fun _ i => i) (fun i d => .tup [.int i, d]) with
    | some j => .ok j S
    | none => .bad
  | .zip a b, e, S => (ev G a e S).bind fun x S => (ev G b e S).bind fun y S => match zipItr x y S with
    | some j => .ok j S
    | none => .bad
  | .rvd a, e, S => (ev G a e S).bind fun x S => match lstItr x S (fun n i => n - 1 - i) (fun _ d => d) with
    | some j => .ok j S
    | none => .bad
end
/-- behind a suite: the error's name goes -/
def suR (i : Nat) : SR → SR
  | .nx e2 S2 => .nx (e2.set i none) S2
  | .ret d S2 => .ret d S2
  | .brk e2 S2 => .brk (e2.set i none) S2
  | .exc _ _ _ => .bad
  | .bad => .bad
mutual
def exS (G : Cxt) : St → Env → Store → SR
  | .asg t a, e, S => (ev G a e S).toS e fun d S1 => match bindT t d e S1 with
    | some e1 => .nx e1 S1
    | none => .bad
  | .par i j a b, e, S => (ev G a e S).toS e fun x S1 => (ev G b e S1).toS e fun y S2 => if i < e.length ∧ j < e.length then .nx ((e.set i (some x)).set j (some y)) S2 else .bad
  | .sub o i a, e, S => (ev G a e S).toS e fun v S1 => (ev G o e S1).toS e fun x S2 => (ev G i e S2).toS e fun k S3 => (setItem x k v S3).toS e fun _ S4 => .nx e S4
  | .exp a, e, S => (ev G a e S).toS e fun _ S1 => .nx e S1
  | .ite c a b, e, S => (ev G c e S).toS e fun x S1 => match x with
    | .bl true => exB G a e S1
    | .bl false => exB G b e S1
    | _ => .bad
  | .forS t it b, e, S => (evI G it e S).toS e fun j S1 => forGo t j (exB G b) j.n 0 e S1
  | .whl c b, e, S => whGo (ev G c) (exB G b) G.fuel e S
  | .ret a, e, S => (ev G a e S).toS e fun d S1 => .ret d S1
  | .retN, _, S => .ret .non S
  | .brk, e, S => .brk e S
  | .pass, e, S => .nx e S
  | .stf o C f a, e, S => (ev G a e S).toS e fun v S1 => (ev G o e S1).toS e fun x S2 => (stfR C f x v S2).toS e fun _ S3 => .nx e S3
  | .any, _, _ => .bad
  | .dst o k a, e, S => (ev G a e S).toS e fun v S1 => (ev G o e S1).toS e fun x S2 => (ev G k e S2).toS e fun y S3 => (dstR x y v S3).toS e fun _ S4 => .nx e S4
  | .rai C, e, S => .exc ⟨C, none⟩ e S
  | .tryC b C a, e, S => match exB G b e S with
    | .exc c e1 S1 => match G.sub c.cls C with
      | some true => match ev G a e1 S1 with
        | .ok d S2 => .ret d S2
        | _ => .bad
      | some false => .exc c e1 S1
      | none => .bad
    | q => q
  | .tryR b C C2 i, e, S => match exB G b e S with
    | .exc c e1 S1 => match G.sub c.cls C with
      | some true => match e1[i]? with
        | some (some d) => .exc ⟨C2, some d⟩ e1 S1
        | _ => .bad
      | some false => .exc c e1 S1
      | none => .bad
    | q => q
  | .tryN b, e, S => match exB G b e S with
    | .exc _ _ _ => .bad
    | q => q
  | .tryCC b C a C2 a2, e, S => match exB G b e S with
    | .exc c e1 S1 => match G.sub c.cls C with
      | some true => match ev G a e1 S1 with
        | .ok d S2 => .ret d S2
        | _ => .bad
      | some false => match G.sub c.cls C2 with
        | some true => match ev G a2 e1 S1 with
          | .ok d S2 => .ret d S2
          | _ => .bad
        | some false => .exc c e1 S1
        | none => .bad
      | none => .bad
    | q => q
  | .tryAC b C i su C2 a2, e, S => match exB G b e S with
    | .exc c e1 S1 => match G.sub c.cls C with
      | some true => if i < e1.length then suR i (exB { G with exc := some c } su (e1.set i none) S1) else .bad
      | some false => match G.sub c.cls C2 with
        | some true => match ev G a2 e1 S1 with
          | .ok d S2 => .ret d S2
          | _ => .bad
        | some false => .exc c e1 S1
        | none => .bad
      | none => .bad
    | q => q
  | .raiA C a, e, S => (ev G a e S).toS e fun d S1 => .exc ⟨C, some d⟩ e S1
  | .tryA b C i su, e, S => match exB G b e S with
    | .exc c e1 S1 => match G.sub c.cls C with
      | some true => if i < e1.length then suR i (exB { G with exc := some c } su (e1.set i none) S1) else .bad
      | some false => .exc c e1 S1
      | none => .bad
    | q => q
  | .par3 i j l a b c, e, S => (ev G a e S).toS e fun x S1 => (ev G b e S1).toS e fun y S2 => (ev G c e S2).toS e fun z S3 => if i < e.length ∧ j < e.length ∧ l < e.length then .nx (((e.set i (some x)).set j (some y)).set l (some z)) S3 else .bad
  | .try2 b C i su C2 i2 su2, e, S => match exB G b e S with
    | .exc c e1 S1 => match G.sub c.cls C with
      | some true => if i < e1.length then suR i (exB { G with exc := some c } su (e1.set i none) S1) else .bad
      | some false => match G.sub c.cls C2 with
        | some true => if i2 < e1.length then suR i2 (exB { G with exc := some c } su2 (e1.set i2 none) S1) else .bad
        | some false => .exc c e1 S1
        | none => .bad
      | none => .bad
    | q => q
def exB (G : Cxt) : List St → Env → Store → SR
  | [], e, S => .nx e S
  | s :: r, e, S => match exS G s e S with
    | .nx e1 S1 => exB G r e1 S1
    | q => q
end
structure Def where
  ps : List Str
  ns : List Str
  dfl : List D
  body : List St
structure Prog where
  defs : List (Str × Def)
  glob : List (Str × D)
  subs : List (Str × List (Str × Bool))
  /-- a class: its fields, its methods with their defs' names -/
  kl : List (Str × List Str × List (Str × Str))
  /-- of each error's class, whose instances its instances are -/
  isx : List (Str × List (Str × Bool))
  /-- errors with a field, as subs -/
  sub2 : List (Str × List (Str × Bool))
  /-- defs that look at a held error -/
  xdefs : List (Str × Def)
  /-- written dicts of texts -/
  frd : List (Str × List (Str × D))
  /-- defs that raise where nothing is handled -/
  nar : List Str
def endX : SR → R D
  | .nx _ S => .ok .non S
  | .ret d S => .ok d S
  | _ => .bad
def endR : SR → R D
  | .nx _ S => .ok .non S
  | .ret d S => .ok d S
  | .exc c _ S => .exc c S
  | _ => .bad
/-- within such a def -/
def Prog.xc (P : Prog) (c : Exc) : Cxt := ⟨fun _ _ _ => .bad, fun _ => none, 0, fun _ _ => none, some c, fun x y => (P.isx.lookup x).bind fun l => l.lookup y, fun _ _ _ => .bad, fun _ => none⟩
def Prog.clx (P : Prog) (f : Str) (c : Exc) (S : Store) : R D := match P.xdefs.lookup f with
  | some m => endX (exB (P.xc c) m.body (List.replicate m.ns.length none) S)
  | none => .bad
def Prog.cx (P : Prog) (fuel : Nat) (cl : Str → List D → Store → R D) : Cxt := ⟨cl, fun x => P.glob.lookup x, fuel, fun x y => ((P.subs.lookup x).or (P.sub2.lookup x)).bind fun l => l.lookup y, none, fun x y => (P.isx.lookup x).bind fun l => l.lookup y, P.clx, fun x => P.frd.lookup x⟩
/-- left out arguments -/
def padD (m : Def) (ds : List D) : List D := ds ++ m.dfl.drop (m.dfl.length - (m.ps.length - ds.length))
def callN (P : Prog) (fuel : Nat) : Nat → Str → List D → Store → R D
  | 0, _, _, _ => .bad
  | k + 1, f, ds, S => match P.defs.lookup f with
    | none => .bad
    | some d => if (padD d ds).length = d.ps.length then endR (exB (P.cx fuel (callN P fuel k)) d.body ((padD d ds).map some ++ List.replicate (d.ns.length - (padD d ds).length) none) S) else .bad
end Lt
namespace Lt
open PySem PySem.Spec PyProof.Rows L2
abbrev Sl := List (Option V)
/-- a list that never changes -/
def SqF (K : PySem.W.Frag) (H : Hp) (a : Addr) (vs : List V) : Prop := (∃ o, H a = some (.frz o (.lst vs))) ∨
    ∃ (o : Obj) (its : Array Value) (n : Nat), K.lookup a = some o ∧ o.cls = .type "list" ∧ o.dict = none ∧ o.data = .seq its n ∧ its.size ≤ sizeLine ∧ Vals vs its.toList
theorem SqF.sq {K : PySem.W.Frag} {H : Hp} {a : Addr} {vs : List V} (h : SqF K H a vs) : SqL K H a vs := by
  rcases h with h | h
  · exact .inl (.inr h)
  · exact .inr h
/-- a tuple of the module's -/
def SqC (K : PySem.W.Frag) (a : Addr) (vs : List V) : Prop := ∃ (o : Obj) (its : Array Value) (n : Nat), K.lookup a = some o ∧ o.cls = .type "tuple" ∧ o.data = .seq its n ∧ its.size ≤ sizeLine ∧ Vals vs its.toList
theorem SqC.sq {K : PySem.W.Frag} {H : Hp} {a : Addr} {vs : List V} (h : SqC K a vs) : SqT K H a vs := .inr h
section
variable (K : PySem.W.Frag) (CA : Str → Addr)
mutual
def RelD (L : List Addr) (H : Hp) : D → V → Prop
  | .non, v => v = .non
  | .bl b, v => v = .bl b
  | .int i, v => v = .int i
  | .str s, v => v = .str s
  | .ref n, v => ∃ a, L[n]? = some a ∧ v = .ref a
  | .tup xs, v => ∃ p vs, v = .ref p ∧ H p = some (.tup vs) ∧ RelDs L H xs vs
  | .frt xs, v => ∃ p vs, v = .ref p ∧ SqC K p vs ∧ RelDs L H xs vs
  | .frl xs, v => ∃ p vs, v = .ref p ∧ SqF K H p vs ∧ RelDs L H xs vs
def RelDs (L : List Addr) (H : Hp) : List D → List V → Prop
  | [], vs => vs = []
  | x :: xs, vs => ∃ v r, vs = v :: r ∧ RelD L H x v ∧ RelDs L H xs r
end
def CellR (L : List Addr) (H : Hp) (c : Cell) (a : Addr) : Prop := match c with
  | .lst xs => ∃ vs, H a = some (.lst vs) ∧ RelDs K L H xs vs
  | .dK kvs => ∃ vs, H a = some (.dK vs) ∧ vs.map (·.1) = kvs.map (·.1) ∧ RelDs K L H (kvs.map (·.2)) (vs.map (·.2))
  | .dB kvs => ∃ vs : List (Bool × V), H a = some (DBo a vs) ∧ vs.map (·.1) = kvs.map (·.1) ∧ RelDs K L H (kvs.map (·.2)) (vs.map (·.2))
  | .dT kvs => ∃ vs, H a = some (.dT vs) ∧ vs.map (·.1) = kvs.map (·.1) ∧ RelDs K L H (kvs.map (·.2)) (vs.map (·.2))
  | .ins C fs => ∃ dx gs, H a = some (.ins (CA C) dx gs) ∧ H dx = some (.own a) ∧ gs.map (·.1) = fs.map (·.1) ∧ RelDs K L H (fs.map (·.2)) (gs.map (·.2))
structure Good (S : Store) (L : List Addr) (H : Hp) : Prop where
  len : L.length = S.length
  nd : L.Nodup
  cell : ∀ (n : Nat) c a, S[n]? = some c → L[n]? = some a → CellR K CA L H c a
structure Step (L : List Addr) (H : Hp) (L' : List Addr) (H' : Hp) : Prop where
  ext : ∃ M, L' = L ++ M
  fresh : ∀ a, a ∈ L' → a ∈ L ∨ H a = none
  keep : ∀ a o, H a = some o → a ∉ L → H' a = some o
end
section
variable {K : PySem.W.Frag} {CA : Str → Addr} {S S' : Store} {L L1 M2 L' : List Addr} {H H1 H2 H' : Hp}
theorem Step.refl : Step L H L H := ⟨⟨[], by simp⟩, fun _ h => .inl h, fun _ _ h _ => h⟩
theorem Step.trans (a : Step L H L1 H1) (b : Step L1 H1 M2 H2) : Step L H M2 H2 := by
  obtain ⟨M, rfl⟩ := a.ext
  obtain ⟨M2, rfl⟩ := b.ext
  refine ⟨⟨M ++ M2, by simp⟩, fun x hx => ?_, fun x o e hn => ?_⟩
  · rcases b.fresh x hx with h | h
    · exact a.fresh x h
    · by_cases hL : x ∈ L
      · exact .inl hL
      · cases e : H x with
        | none => exact .inr rfl
        | some o =>
          have := a.keep x o e hL
          rw [h] at this; cases this
  · refine b.keep x o (a.keep x o e hn) fun hm => ?_
    rcases a.fresh x hm with h | h
    · exact hn h
    · rw [e] at h; cases h
theorem Step.get (a : Step L H L1 H1) {n : Nat} {x : Addr} (h : L[n]? = some x) : L1[n]? = some x := by
  obtain ⟨M, rfl⟩ := a.ext
  obtain ⟨hn, _⟩ := List.getElem?_eq_some_iff.mp h
  rw [List.getElem?_append_left hn]; exact h
theorem Good.at_ (g : Good K CA S L H) {a : Addr} (h : a ∈ L) : ∃ (n : Nat) (c : Cell), S[n]? = some c ∧ L[n]? = some a ∧ CellR K CA L H c a := by
  obtain ⟨n, hn, e⟩ := List.getElem_of_mem h
  have hS : n < S.length := by rw [← g.len]; exact hn
  exact ⟨n, S[n], by simp [hS], by simp [hn, e], g.cell n _ a (by simp [hS]) (by simp [hn, e])⟩
theorem Good.there (g : Good K CA S L H) {a : Addr} (h : a ∈ L) : ∃ o, H a = some o ∧ (∀ xs, o ≠ .tup xs) ∧ (∀ ob u, o ≠ .frz ob u) ∧ ∀ fs, o ≠ .xd fs := by
  obtain ⟨n, c, _, _, r⟩ := g.at_ h
  cases c with
  | lst xs => obtain ⟨vs, e, _⟩ := r; exact ⟨_, e, (by intro _ z; cases z), (by intro _ _ z; cases z), (by intro _ z; cases z)⟩
  | dK xs => obtain ⟨vs, e, _⟩ := r; exact ⟨_, e, (by intro _ z; cases z), (by intro _ _ z; cases z), (by intro _ z; cases z)⟩
  | dT xs => obtain ⟨vs, e, _⟩ := r; exact ⟨_, e, (by intro _ z; cases z), (by intro _ _ z; cases z), (by intro _ z; cases z)⟩
  | dB xs => obtain ⟨vs, e, _⟩ := r; exact ⟨_, e, (by intro _ z; cases z), (by intro _ _ z; cases z), (by intro _ z; cases z)⟩
  | ins C fs => obtain ⟨dx, gs, e, _⟩ := r; exact ⟨_, e, (by intro _ z; cases z), (by intro _ _ z; cases z), (by intro _ z; cases z)⟩
theorem Good.fresh (g : Good K CA S L H) {a : Addr} (e : H a = none) : a ∉ L := fun h => by
  obtain ⟨o, e', _⟩ := g.there h
  rw [e] at e'; cases e'
/-- what never changes -/
def Per : HO → Prop
  | .tup _ => True
  | .frz _ _ => True
  | .xd _ => True
  | _ => False
/-- no cell goes, nothing changes that never changes -/
structure Mon (L : List Addr) (H : Hp) (L' : List Addr) (H' : Hp) : Prop where
  get : ∀ (n : Nat) (a : Addr), L[n]? = some a → L'[n]? = some a
  per : ∀ a o, H a = some o → Per o → H' a = some o
theorem Step.mon (g : Good K CA S L H) (st : Step L H L1 H1) : Mon L H L1 H1 := ⟨fun _ _ h => st.get h, fun a o e p => st.keep a o e fun h => by
  obtain ⟨o', e', n1, n2, n3⟩ := g.there h
  rw [e] at e'; cases e'
  cases o with
  | tup xs => exact n1 _ rfl
  | frz x u => exact n2 _ _ rfl
  | xd fs => exact n3 _ rfl
  | _ => exact p⟩
theorem SqT.mon (m : Mon L H L1 H1) {p : Addr} {vs : List V} (h : SqT K H p vs) : SqT K H1 p vs := by
  rcases h with (h | ⟨o, h⟩) | h
  · exact .inl (.inl (m.per _ _ h True.intro))
  · exact .inl (.inr ⟨o, m.per _ _ h True.intro⟩)
  · exact .inr h
theorem SqF.mon (m : Mon L H L1 H1) {p : Addr} {vs : List V} (h : SqF K H p vs) : SqF K H1 p vs := by
  rcases h with ⟨o, h⟩ | h
  · exact .inl ⟨o, m.per _ _ h True.intro⟩
  · exact .inr h
mutual
theorem RelD.mon (m : Mon L H L1 H1) : ∀ (d : D) (v : V), RelD K L H d v → RelD K L1 H1 d v
  | .non, v, h => by simpa [RelD] using h
  | .bl b, v, h => by simpa [RelD] using h
  | .int i, v, h => by simpa [RelD] using h
  | .str s, v, h => by simpa [RelD] using h
  | .ref n, v, h => by
    simp only [RelD] at h ⊢
    obtain ⟨a, e, h⟩ := h
    exact ⟨a, m.get _ _ e, h⟩
  | .tup xs, v, h => by
    simp only [RelD] at h ⊢
    obtain ⟨p, vs, e, h1, h2⟩ := h
    exact ⟨p, vs, e, m.per _ _ h1 True.intro, RelDs.mon m xs vs h2⟩
  | .frt xs, v, h => by
    simp only [RelD] at h ⊢
    obtain ⟨p, vs, e, h1, h2⟩ := h
    exact ⟨p, vs, e, h1, RelDs.mon m xs vs h2⟩
  | .frl xs, v, h => by
    simp only [RelD] at h ⊢
    obtain ⟨p, vs, e, h1, h2⟩ := h
    exact ⟨p, vs, e, h1.mon m, RelDs.mon m xs vs h2⟩
theorem RelDs.mon (m : Mon L H L1 H1) : ∀ (ds : List D) (vs : List V), RelDs K L H ds vs → RelDs K L1 H1 ds vs
  | [], vs, h => by simpa [RelDs] using h
  | d :: ds, vs, h => by
    simp only [RelDs] at h ⊢
    obtain ⟨v, r, e, h1, h2⟩ := h
    exact ⟨v, r, e, RelD.mon m d v h1, RelDs.mon m ds r h2⟩
end
theorem RelD.step (g : Good K CA S L H) (st : Step L H L1 H1) {d : D} {v : V} (h : RelD K L H d v) : RelD K L1 H1 d v := RelD.mon (st.mon g) d v h
theorem RelDs.step (g : Good K CA S L H) (st : Step L H L1 H1) {d : List D} {v : List V} (h : RelDs K L H d v) : RelDs K L1 H1 d v := RelDs.mon (st.mon g) d v h
theorem RelDs.cons {d : D} {ds : List D} {v : V} {vs : List V} (h : RelD K L H d v) (t : RelDs K L H ds vs) : RelDs K L H (d :: ds) (v :: vs) := by
  simp only [RelDs]
  exact ⟨v, vs, rfl, h, t⟩
theorem RelDs.nil : RelDs K L H [] [] := by simp [RelDs]
theorem RelDs.length : ∀ {ds : List D} {vs : List V}, RelDs K L H ds vs → vs.length = ds.length
  | [], vs, h => by simp only [RelDs] at h; rw [h]; rfl
  | d :: ds, vs, h => by
    simp only [RelDs] at h
    obtain ⟨v, r, rfl, _, t⟩ := h
    simp [RelDs.length t]
theorem RelDs.get : ∀ {ds : List D} {vs : List V} {i : Nat} {d : D}, RelDs K L H ds vs → ds[i]? = some d → ∃ v, vs[i]? = some v ∧ RelD K L H d v
  | [], _, _, _, _, e => by simp at e
  | x :: ds, vs, i, d, h, e => by
    simp only [RelDs] at h
    obtain ⟨v, r, rfl, h1, t⟩ := h
    cases i with
    | zero => simp at e; subst e; exact ⟨v, by simp, h1⟩
    | succ i => simp at e; obtain ⟨w, e2, h2⟩ := RelDs.get t e; exact ⟨w, by simpa using e2, h2⟩
theorem RelDs.append : ∀ {ds es : List D} {vs ws : List V}, RelDs K L H ds vs → RelDs K L H es ws → RelDs K L H (ds ++ es) (vs ++ ws)
  | [], _, vs, _, h, t => by simp only [RelDs] at h; subst h; exact t
  | x :: ds, _, vs, _, h, t => by
    simp only [RelDs] at h
    obtain ⟨v, r, rfl, h1, h2⟩ := h
    exact RelDs.cons h1 (RelDs.append h2 t)
theorem RelDs.set : ∀ {ds : List D} {vs : List V} (i : Nat) {d : D} {v : V}, RelDs K L H ds vs → RelD K L H d v → RelDs K L H (ds.set i d) (vs.set i v)
  | [], vs, _, _, _, h, _ => by simp only [RelDs] at h; subst h; exact RelDs.nil
  | x :: ds, vs, i, _, _, h, hd => by
    simp only [RelDs] at h
    obtain ⟨v, r, rfl, h1, h2⟩ := h
    cases i with
    | zero => exact RelDs.cons hd h2
    | succ i => exact RelDs.cons h1 (RelDs.set i h2 hd)
theorem RelDs.drop : ∀ {ds : List D} {vs : List V} (i : Nat), RelDs K L H ds vs → RelDs K L H (ds.drop i) (vs.drop i)
  | ds, vs, 0, h => by simpa using h
  | [], vs, i + 1, h => by simp only [RelDs] at h; subst h; exact RelDs.nil
  | x :: ds, vs, i + 1, h => by
    simp only [RelDs] at h
    obtain ⟨v, r, rfl, h1, h2⟩ := h
    exact RelDs.drop i h2
theorem RelDs.take : ∀ {ds : List D} {vs : List V} (i : Nat), RelDs K L H ds vs → RelDs K L H (ds.take i) (vs.take i)
  | ds, vs, 0, h => by simpa using RelDs.nil
  | [], vs, i + 1, h => by simp only [RelDs] at h; subst h; exact RelDs.nil
  | x :: ds, vs, i + 1, h => by
    simp only [RelDs] at h
    obtain ⟨v, r, rfl, h1, h2⟩ := h
    exact RelDs.cons h1 (RelDs.take i h2)
theorem RelDs.reverse : ∀ {ds : List D} {vs : List V}, RelDs K L H ds vs → RelDs K L H ds.reverse vs.reverse
  | [], vs, h => by simp only [RelDs] at h; subst h; exact RelDs.nil
  | x :: ds, vs, h => by
    simp only [RelDs] at h
    obtain ⟨v, r, rfl, h1, h2⟩ := h
    rw [List.reverse_cons, List.reverse_cons]
    exact RelDs.append (RelDs.reverse h2) (RelDs.cons h1 RelDs.nil)
theorem RelDs.rep {ds : List D} {vs : List V} (h : RelDs K L H ds vs) : ∀ n, RelDs K L H (List.replicate n ds).flatten (List.replicate n vs).flatten
  | 0 => RelDs.nil
  | n + 1 => by
    rw [List.replicate_succ, List.replicate_succ, List.flatten_cons, List.flatten_cons]
    exact RelDs.append h (RelDs.rep h n)
theorem RelDs.ints : ∀ {is : List Int}, RelDs K L H (is.map .int) (is.map V.int)
  | [] => RelDs.nil
  | i :: is => by
    rw [List.map_cons, List.map_cons]
    exact RelDs.cons (by simp [RelD]) RelDs.ints
/-- what a cell's description leans on -/
theorem CellR.mon (m : Mon L H L1 H1) {c : Cell} {a : Addr} (h : CellR K CA L H c a) (e : H1 a = H a) (hd : ∀ dx, H dx = some (.own a) → H1 dx = some (.own a)) : CellR K CA L1 H1 c a := by
  cases c with
  | lst xs => obtain ⟨vs, e1, r⟩ := h; exact ⟨vs, e.trans e1, RelDs.mon m _ _ r⟩
  | dK xs => obtain ⟨vs, e1, k, r⟩ := h; exact ⟨vs, e.trans e1, k, RelDs.mon m _ _ r⟩
  | dT xs => obtain ⟨vs, e1, k, r⟩ := h; exact ⟨vs, e.trans e1, k, RelDs.mon m _ _ r⟩
  | dB xs => obtain ⟨vs, e1, k, r⟩ := h; exact ⟨vs, e.trans e1, k, RelDs.mon m _ _ r⟩
  | ins C fs => obtain ⟨dx, gs, e1, e2, e3, r⟩ := h; exact ⟨dx, gs, e.trans e1, hd dx e2, e3, RelDs.mon m _ _ r⟩
theorem Good.noO (g : Good K CA S L H) {b x : Addr} (e : H b = some (.own x)) : b ∉ L := fun h => by
  obtain ⟨n, c, _, _, r⟩ := g.at_ h
  cases c with
  | lst xs => obtain ⟨vs, e', _⟩ := r; rw [e] at e'; cases e'
  | dK xs => obtain ⟨vs, e', _⟩ := r; rw [e] at e'; cases e'
  | dT xs => obtain ⟨vs, e', _⟩ := r; rw [e] at e'; cases e'
  | dB xs => obtain ⟨vs, e', _⟩ := r; rw [e] at e'; cases e'
  | ins C fs => obtain ⟨dx, gs, e', _⟩ := r; rw [e] at e'; cases e'
/-- a new cell -/
theorem Good.alloc (g : Good K CA S L H) {p : Addr} {o : HO} {c : Cell} (hp : H p = none) (hc : CellR K CA (L ++ [p]) (upd H p o) c p) :
    Step L H (L ++ [p]) (upd H p o) ∧ Good K CA (S ++ [c]) (L ++ [p]) (upd H p o) := by
  have hn := g.fresh hp
  have st : Step L H (L ++ [p]) (upd H p o) := by
    refine ⟨⟨[p], rfl⟩, fun x hx => ?_, fun x u e _ => ?_⟩
    · rcases List.mem_append.mp hx with h | h
      · exact .inl h
      · rw [List.mem_singleton] at h; subst h; exact .inr hp
    · rw [upd_ne (ne_of_none e hp)]; exact e
  refine ⟨st, by simp [g.len], ?_, fun n c' a h1 h2 => ?_⟩
  · rw [List.nodup_append]
    refine ⟨g.nd, by simp, fun x hx y hy => ?_⟩
    rw [List.mem_singleton] at hy
    subst hy
    exact fun e => hn (e ▸ hx)
  · by_cases hlt : n < S.length
    · rw [List.getElem?_append_left hlt] at h1
      rw [List.getElem?_append_left (by rw [g.len]; exact hlt)] at h2
      have ha : a ∈ L := List.mem_of_getElem? h2
      refine (g.cell n c' a h1 h2).mon (st.mon g) (upd_ne fun e => hn (e ▸ ha)) fun dx e => ?_
      rw [upd_ne (ne_of_none e hp)]; exact e
    · have e : n = S.length := by
        have := (List.getElem?_eq_some_iff.mp h1).1
        simp at this; omega
      subst e
      rw [List.getElem?_append_right (Nat.le_refl _)] at h1
      rw [List.getElem?_append_right (by rw [g.len]; exact Nat.le_refl _)] at h2
      simp at h1
      simp [g.len] at h2
      subst h1 h2
      exact hc
/-- something new that is no cell -/
theorem Good.side (g : Good K CA S L H) {p : Addr} {o : HO} (hp : H p = none) : Step L H L (upd H p o) ∧ Good K CA S L (upd H p o) := by
  have hn := g.fresh hp
  have st : Step L H L (upd H p o) := ⟨⟨[], by simp⟩, fun x hx => .inl hx, fun x u e _ => by rw [upd_ne (ne_of_none e hp)]; exact e⟩
  refine ⟨st, g.len, g.nd, fun n c a h1 h2 => ?_⟩
  have ha : a ∈ L := List.mem_of_getElem? h2
  refine (g.cell n c a h1 h2).mon (st.mon g) (upd_ne fun e => hn (e ▸ ha)) fun dx e => ?_
  rw [upd_ne (ne_of_none e hp)]; exact e
/-- a cell is written -/
theorem Good.write (g : Good K CA S L H) {n : Nat} {a : Addr} {o : HO} {c : Cell} (hn : L[n]? = some a) (hc : CellR K CA L (upd H a o) c a) :
    Step L H L (upd H a o) ∧ Good K CA (S.set n c) L (upd H a o) := by
  have ha : a ∈ L := List.mem_of_getElem? hn
  have st : Step L H L (upd H a o) := ⟨⟨[], by simp⟩, fun x hx => .inl hx, fun x u e hx => by rw [upd_ne (by intro z; subst z; exact hx ha)]; exact e⟩
  refine ⟨st, by simp [g.len], g.nd, fun m c' b h1 h2 => ?_⟩
  by_cases hm : m = n
  · subst hm
    rw [hn] at h2; cases h2
    have hlt : m < S.length := by rw [← g.len]; exact (List.getElem?_eq_some_iff.mp hn).1
    rw [List.getElem?_set_self hlt] at h1
    cases h1
    exact hc
  · rw [List.getElem?_set_ne (Ne.symm hm)] at h1
    have hab : b ≠ a := fun e => by
      subst e
      obtain ⟨h3, e3⟩ := List.getElem?_eq_some_iff.mp h2
      obtain ⟨h4, e4⟩ := List.getElem?_eq_some_iff.mp hn
      exact hm ((List.getElem_inj g.nd).mp (e3.trans e4.symm))
    refine (g.cell m c' b h1 h2).mon (st.mon g) (upd_ne hab) fun dx e => ?_
    rw [upd_ne (by intro z; subst z; exact g.noO e ha)]; exact e
/-- a list that is no cell is changed -/
theorem Good.other (g : Good K CA S L H) {p : Addr} {xs ys : List V} (hp : p ∉ L) (e : H p = some (.lst xs)) : Mon L H L (upd H p (.lst ys)) ∧ Good K CA S L (upd H p (.lst ys)) := by
  have m : Mon L H L (upd H p (.lst ys)) := ⟨fun _ _ h => h, fun a o ea pa => by
    rw [upd_ne (by intro z; subst z; rw [e] at ea; cases ea; exact pa)]; exact ea⟩
  refine ⟨m, g.len, g.nd, fun n c a h1 h2 => ?_⟩
  have ha : a ∈ L := List.mem_of_getElem? h2
  refine (g.cell n c a h1 h2).mon m (upd_ne fun z => hp (z ▸ ha)) fun dx ex => ?_
  rw [upd_ne (by intro z; subst z; rw [e] at ex; cases ex)]; exact ex
/-- where a suite's error stands: its slot, its address, its dict's address and what stands there -/
abbrev PinT := Option (Nat × Addr × Option (Addr × D))
structure Cxp extends Cxt where
  pin : PinT
instance : Coe Cxp Cxt := ⟨Cxp.toCxt⟩
def PinR (K : PySem.W.Frag) (pn : PinT) (L : List Addr) (H : Hp) (e : Env) (σ : Sl) : Prop := ∀ i a o, pn = some (i, a, o) → σ[i]? = some (some (.ref a)) ∧ e[i]? = some none ∧ ∀ x d, o = some (x, d) → ∃ v, H x = some (.xd [("at", v)]) ∧ RelD K L H d v
structure EnvR (K : PySem.W.Frag) (pn : PinT) (L : List Addr) (H : Hp) (e : Env) (σ : Sl) : Prop where
  len : e.length = σ.length
  has : ∀ (i : Nat) d, e[i]? = some (some d) → ∃ v, σ[i]? = some (some v) ∧ RelD K L H d v
  pin : PinR K pn L H e σ
variable {pn : PinT}
theorem EnvR.mon {e : Env} {σ : Sl} (h : EnvR K pn L H e σ) (m : Mon L H L1 H1) : EnvR K pn L1 H1 e σ :=
  ⟨h.len, fun i d hi => let ⟨v, e1, r⟩ := h.has i d hi; ⟨v, e1, RelD.mon m d v r⟩, fun i a o hp => by
    obtain ⟨p1, p2, p3⟩ := h.pin i a o hp
    refine ⟨p1, p2, fun x d ho => ?_⟩
    obtain ⟨v, q1, q2⟩ := p3 x d ho
    exact ⟨v, m.per _ _ q1 True.intro, RelD.mon m d v q2⟩⟩
theorem EnvR.step {e : Env} {σ : Sl} (h : EnvR K pn L H e σ) (g : Good K CA S L H) (st : Step L H L1 H1) : EnvR K pn L1 H1 e σ := h.mon (st.mon g)
theorem EnvR.set {e : Env} {σ : Sl} (h : EnvR K pn L H e σ) {i : Nat} {d : D} {v : V} (r : RelD K L H d v) (hp : ∀ j a o, pn = some (j, a, o) → j ≠ i) : EnvR K pn L H (e.set i (some d)) (σ.set i (some v)) := by
  refine ⟨by simp [h.len], fun j d' hj => ?_, fun j a o hj => ?_⟩
  · by_cases hij : j = i
    · subst hij
      by_cases hlt : j < e.length
      · rw [List.getElem?_set_self hlt] at hj
        cases hj
        exact ⟨v, by rw [List.getElem?_set_self (by rw [← h.len]; exact hlt)], r⟩
      · rw [List.getElem?_eq_none (by simpa using hlt)] at hj; cases hj
    · rw [List.getElem?_set_ne (Ne.symm hij)] at hj
      obtain ⟨w, e1, r1⟩ := h.has j d' hj
      exact ⟨w, by rw [List.getElem?_set_ne (Ne.symm hij)]; exact e1, r1⟩
  · have hij := hp j a o hj
    obtain ⟨p1, p2, p3⟩ := h.pin j a o hj
    exact ⟨by rw [List.getElem?_set_ne (Ne.symm hij)]; exact p1, by rw [List.getElem?_set_ne (Ne.symm hij)]; exact p2, p3⟩
theorem EnvR.wipe {e : Env} {σ : Sl} (h : EnvR K pn L H e σ) (hp : pn = none) : ∀ vs : List Nat, EnvR K pn L H (wipeE e vs) (L2.wipe σ vs)
  | [] => h
  | v :: vs => by
    have ih := EnvR.wipe h hp vs
    unfold wipeE L2.wipe
    refine ⟨by simp [ih.len], fun j d' hj => ?_, fun j a o hj => by rw [hp] at hj; cases hj⟩
    by_cases hij : j = v
    · subst hij
      by_cases hlt : j < (wipeE e vs).length
      · rw [List.getElem?_set_self hlt] at hj; cases hj
      · rw [List.getElem?_eq_none (by simpa using hlt)] at hj; cases hj
    · rw [List.getElem?_set_ne (Ne.symm hij)] at hj
      obtain ⟨w, e1, r1⟩ := ih.has j d' hj
      exact ⟨w, by rw [List.getElem?_set_ne (Ne.symm hij)]; exact e1, r1⟩
def ExR (K : PySem.W.Frag) (CA : Str → Addr) (L : List Addr) (H : Hp) (c : Exc) (cls : Value) (dd : Option Addr) : Prop := cls = .ref (CA c.cls) ∧ match c.at_ with
  | none => dd = none
  | some d => ∃ x v, dd = some x ∧ H x = some (.xd [("at", v)]) ∧ RelD K L H d v
variable {α β : Type} {W : WX} {σ : Sl}
/-- behind a result: P of its value -/
def Aft (K : PySem.W.Frag) (CA : Str → Addr) (W : WX) (σ : Sl) (L : List Addr) (H : Hp) (r : R α) (P : α → Store → List Addr → Hp → Prop) : Prop := match r with
  | .ok a S' => ∀ L' H', Step L H L' H' → Good K CA S' L' H' → P a S' L' H'
  | .exc c S' => ∀ cls dd L' H', Step L H L' H' → Good K CA S' L' H' → ExR K CA L' H' c cls dd → W cls dd σ H'
  | .bad => False
theorem Aft.from (st : Step L H L1 H1) {r : R α} {P : α → Store → List Addr → Hp → Prop} (h : Aft K CA W σ L H r P) : Aft K CA W σ L1 H1 r P := by
  cases r with
  | ok a S' => exact fun L' H' s' g => h L' H' (st.trans s') g
  | exc c S' => exact fun cls dd L' H' s' g x => h cls dd L' H' (st.trans s') g x
  | bad => exact h
theorem Aft.bind {r : R α} {k : α → Store → R β} {P : β → Store → List Addr → Hp → Prop} (h : Aft K CA W σ L H (r.bind k) P) :
    Aft K CA W σ L H r fun a S1 L1 H1 => Step L H L1 H1 ∧ Good K CA S1 L1 H1 ∧ Aft K CA W σ L1 H1 (k a S1) P := by
  cases r with
  | ok a S1 => exact fun L1 H1 s1 g1 => ⟨s1, g1, Aft.from s1 h⟩
  | exc c S1 => exact h
  | bad => exact h
theorem Aft.bind0 {r : R α} {k : α → Store → R β} {P : β → Store → List Addr → Hp → Prop} (h : Aft K CA W σ L H (r.bind k) P) :
    Aft K CA W σ L H r fun a S1 L1 H1 => Aft K CA W σ L H (k a S1) P := by
  cases r with
  | ok a S1 => exact fun _ _ _ _ => h
  | exc c S1 => exact h
  | bad => exact h
theorem Aft.more {r : R α} {P : α → Store → List Addr → Hp → Prop} (h : Aft K CA W σ L H r P) : Aft K CA W σ L H r fun a S1 L1 H1 => Step L H L1 H1 ∧ Good K CA S1 L1 H1 ∧ P a S1 L1 H1 := by
  cases r with
  | ok a S1 => exact fun L1 H1 s1 g1 => ⟨s1, g1, h L1 H1 s1 g1⟩
  | exc c S1 => exact h
  | bad => exact h
theorem Aft.mono {r : R α} {P P' : α → Store → List Addr → Hp → Prop} (h : Aft K CA W σ L H r P) (m : ∀ a S1 L1 H1, P a S1 L1 H1 → P' a S1 L1 H1) : Aft K CA W σ L H r P' := by
  cases r with
  | ok a S1 => exact fun L1 H1 s1 g1 => m _ _ _ _ (h L1 H1 s1 g1)
  | exc c S1 => exact h
  | bad => exact h
/-- an expression's reading -/
def tE (K : PySem.W.Frag) (CA : Str → Addr) (G : Cxp) (W : WX) (x : Ex) : TE := fun σ H Q => ∃ S L e, Good K CA S L H ∧ EnvR K G.pin L H e σ ∧ Aft K CA W σ L H (ev G x e S) fun d _ L' H' => ∀ v, RelD K L' H' d v → Q v H'
def tEs (K : PySem.W.Frag) (CA : Str → Addr) (G : Cxp) (W : WX) (xs : List Ex) : TA := fun σ H Q => ∃ S L e, Good K CA S L H ∧ EnvR K G.pin L H e σ ∧ Aft K CA W σ L H (evs G xs e S) fun ds _ L' H' => ∀ vs, RelDs K L' H' ds vs → Q vs H'
def tT (K : PySem.W.Frag) (CA : Str → Addr) (G : Cxp) (W : WX) (x : Ex) : TT := fun σ H Q => ∃ S L e, Good K CA S L H ∧ EnvR K G.pin L H e σ ∧ Aft K CA W σ L H (ev G x e S) fun d _ _ H' => ∃ b, d = .bl b ∧ Q b H'
def AftS (K : PySem.W.Frag) (CA : Str → Addr) (pn : PinT) (W : WX) (L : List Addr) (H : Hp) (r : SR) (Z : Ends) : Prop := match r with
  | .nx e S' => ∀ σ' L' H', Step L H L' H' → Good K CA S' L' H' → EnvR K pn L' H' e σ' → Z.nx σ' H'
  | .ret d S' => ∀ v L' H', Step L H L' H' → Good K CA S' L' H' → RelD K L' H' d v → Z.rt v H'
  | .brk e S' => ∀ σ' L' H', Step L H L' H' → Good K CA S' L' H' → EnvR K pn L' H' e σ' → Z.bk σ' H'
  | .exc c e S' => ∀ σ' cls dd L' H', Step L H L' H' → Good K CA S' L' H' → EnvR K pn L' H' e σ' → ExR K CA L' H' c cls dd → W cls dd σ' H'
  | .bad => False
theorem AftS.from (st : Step L H L1 H1) {r : SR} {Z : Ends} (h : AftS K CA pn W L H r Z) : AftS K CA pn W L1 H1 r Z := by
  cases r with
  | nx e S' => exact fun σ' L' H' s' g x => h σ' L' H' (st.trans s') g x
  | ret d S' => exact fun σ' L' H' s' g x => h σ' L' H' (st.trans s') g x
  | brk e S' => exact fun σ' L' H' s' g x => h σ' L' H' (st.trans s') g x
  | exc c e S' => exact fun σ' cls dd L' H' s' g x y => h σ' cls dd L' H' (st.trans s') g x y
  | bad => exact h
theorem AftS.toS {e : Env} (er : EnvR K pn L H e σ) (g : Good K CA S L H) {r : R α} {k : α → Store → SR} {Z : Ends} (h : AftS K CA pn W L H (r.toS e k) Z) :
    Aft K CA W σ L H r fun a S1 L1 H1 => Step L H L1 H1 ∧ Good K CA S1 L1 H1 ∧ AftS K CA pn W L1 H1 (k a S1) Z := by
  cases r with
  | ok a S1 => exact fun L1 H1 s1 g1 => ⟨s1, g1, AftS.from s1 h⟩
  | exc c S1 => exact fun cls dd L' H' s' g' x => h σ cls dd L' H' s' g' (er.step g s') x
  | bad => exact h
def tS (K : PySem.W.Frag) (CA : Str → Addr) (G : Cxp) (W : WX) (x : St) : TS := fun Z σ H => ∃ S L e, Good K CA S L H ∧ EnvR K G.pin L H e σ ∧ AftS K CA G.pin W L H (exS G x e S) Z
def tB (K : PySem.W.Frag) (CA : Str → Addr) (G : Cxp) (W : WX) (xs : List St) : TS := fun Z σ H => ∃ S L e, Good K CA S L H ∧ EnvR K G.pin L H e σ ∧ AftS K CA G.pin W L H (exB G xs e S) Z
end
end Lt
namespace Lt
open PySem L2
structure MC where
  N : List Str
  sc : Scope
  top : Bool
  fs : Str → Nat → Bool
  xs : Str → Bool
  fl : Str → Str → Bool
  ms : Str → Str → Str → Nat → Bool
  mks : Str → Str → Nat → Bool
  xo : Str → Bool
  /-- the slot of the error that a suite holds -/
  hs : Option Nat
  /-- defs that look at a held error -/
  xq : Str → Bool
  /-- defs whose last parameter is written by its name -/
  fk : Str → Nat → Str → Bool
  /-- written dicts -/
  gd : Str → Bool
  /-- what is raised here has no context -/
  nar : Bool
  /-- defs that raise such alone -/
  nr : Str → Bool
  /-- not within a try's body -/
  pl : Bool
def MC.blk (C : MC) (sc : Scope) : MC := ⟨C.N, relS sc C.sc, false, C.fs, C.xs, C.fl, C.ms, C.mks, fun _ => false, C.hs, fun _ => false, C.fk, C.gd, C.nar, C.nr, false⟩
def MC.suite (C : MC) (i : Nat) : MC := ⟨C.N, C.sc, false, fun _ _ => false, fun _ => false, fun _ _ => false, fun _ _ _ _ => false, fun _ _ _ => false, fun _ => false, some i, C.xq, fun _ _ _ => false, C.gd, false, C.nr, false⟩
/-- within a try's body -/
def MC.tr (C : MC) : MC := { C with pl := false }
/-- within the body of a try whose suite raises -/
def MC.trn (C : MC) : MC := ⟨C.N, C.sc, C.top, C.fs, C.xs, C.fl, fun _ _ _ _ => false, fun _ _ _ => false, fun _ => false, C.hs, C.xq, fun _ _ _ => false, C.gd, true, C.nr, false⟩
def cold (C : MC) : Bool := C.hs.isNone
def hsIs (C : MC) (i : Nat) : Bool := match C.hs with
  | some j => decide (j = i)
  | none => false
def hsNe (C : MC) (i : Nat) : Bool := match C.hs with
  | some j => !decide (j = i)
  | none => true
def nmOk (x : Str) : Bool := !(x == ("__debug__" : Str)) && !(x == ("__classdict__" : Str))
def visB (sc : Scope) (x : Str) : Bool := match sc.names.lookup x with
  | some .local => true
  | some .cell => true
  | some .free => true
  | _ => false
def locB (sc : Scope) (x : Str) : Bool := match sc.names.lookup x with
  | some .local => true
  | _ => false
def celB (sc : Scope) (x : Str) : Bool := match sc.names.lookup x with
  | some .cell => true
  | _ => false
def gloB (sc : Scope) (x : Str) : Bool := match sc.names.lookup x with
  | some .globalImplicit => true
  | _ => false
def slotB (C : MC) (i : Nat) (x : Str) : Bool := match C.N[i]? with
  | some y => decide (y = x)
  | none => false
def opB : Op → Operator → Bool
  | .add, .Add => true
  | .sub, .Sub => true
  | .mul, .Mult => true
  | .fdiv, .FloorDiv => true
  | .mod, .Mod => true
  | .pow, .Pow => true
  | _, _ => false
def cmB : Cm → CmpOp → Bool
  | .lt, .Lt => true
  | .le, .LtE => true
  | .gt, .Gt => true
  | .ge, .GtE => true
  | .eq, .Eq => true
  | .ne, .NotEq => true
  | _, _ => false
def cmI : Cm → CmpOp → Bool
  | .isin, .In => true
  | .notin, .NotIn => true
  | a, b => cmB a b
def dinB : Bool → CmpOp → Bool
  | false, .In => true
  | true, .NotIn => true
  | _, _ => false
def biN : Bi → Str
  | .len => "len"
  | .abs => "abs"
  | .int => "int"
  | .str => "str"
  | .list => "list"
  | .tuple => "tuple"
  | .sorted => "sorted"
  | .max => "max"
  | .min => "min"
def biOk (C : MC) : Bi → Bool
  | .max => cold C
  | .sorted => cold C
  | .min => cold C
  | _ => true
def tyN : Ty → Str
  | .int => "int"
  | .bool => "bool"
  | .str => "str"
  | .tuple => "tuple"
  | .list => "list"
def notSl : Expr → Bool
  | .Slice _ _ _ _ => false
  | _ => true
def anyE : Expr → Bool
  | .ListComp _ _ _ _ => false
  | .SetComp _ _ _ _ => false
  | .DictComp _ _ _ _ _ => false
  | _ => true
def isTupE : Expr → Bool
  | .Tuple _ _ _ => true
  | _ => false
def itT : It → Bool
  | .enm _ => true
  | .zip _ _ => true
  | _ => false
/-- a test whose truth is its value's -/
def tOk : Ex → Bool
  | .ife _ _ _ => false
  | .any => false
  | .and a b => tOk a && tOk b
  | .or a b => tOk a && tOk b
  | .not a => tOk a
  | _ => true
def notSet : Expr → Bool
  | .Set _ _ _ => false
  | _ => true
def notSt : Expr → Bool
  | .Starred _ _ => false
  | _ => true
def notCall : Expr → Bool
  | .Call _ _ _ _ => false
  | _ => true
def ownL (C : MC) (own : List Nat) : List (Str × Nat) := own.map fun i => ((C.N[i]?).getD "", i)
def stB (C : MC) (x : Str) : Bool := locB C.sc x || (celB C.sc x && C.top)
def mTs (C : MC) : List Nat → List Expr → Bool
  | [], [] => true
  | i :: is, .Name x _ :: es => slotB C i x && stB C x && mTs C is es
  | _, _ => false
def mT (C : MC) : Tg → Expr → Bool
  | .name i, .Name x _ => hsNe C i && (slotB C i x && stB C x)
  | .tup is, .Tuple es _ _ => cold C && mTs C is es
  | _, _ => false
def mInt (i : Int) (e : Expr) : Bool := match e with
  | .Constant (.int j) k p => decide (j = i)
  | _ => false
theorem mInt_inv (i : Int) {e : Expr} (hh : mInt i e = true) : ∃ j k p, e = .Constant (.int j) k p ∧ (decide (j = i)) = true := by
  unfold mInt at hh
  split at hh
  · exact ⟨_, _, _, rfl, hh⟩
  · cases hh
def mStr (s : Str) (e : Expr) : Bool := match e with
  | .Constant (.str j) k p => decide (j = s)
  | _ => false
theorem mStr_inv (s : Str) {e : Expr} (hh : mStr s e = true) : ∃ j k p, e = .Constant (.str j) k p ∧ (decide (j = s)) = true := by
  unfold mStr at hh
  split at hh
  · exact ⟨_, _, _, rfl, hh⟩
  · cases hh
def mBl (b : Bool) (e : Expr) : Bool := match e with
  | .Constant (.bool j) k p => decide (j = b)
  | _ => false
theorem mBl_inv (b : Bool) {e : Expr} (hh : mBl b e = true) : ∃ j k p, e = .Constant (.bool j) k p ∧ (decide (j = b)) = true := by
  unfold mBl at hh
  split at hh
  · exact ⟨_, _, _, rfl, hh⟩
  · cases hh
def mNon  (e : Expr) : Bool := match e with
  | .Constant .none k p => true
  | _ => false
theorem mNon_inv  {e : Expr} (hh : mNon  e = true) : ∃ k p, e = .Constant .none k p ∧ (true) = true := by
  unfold mNon at hh
  split at hh
  · exact ⟨_, _, rfl, hh⟩
  · cases hh
def mVar (C : MC) (i : Nat) (e : Expr) : Bool := match e with
  | .Name x p => slotB C i x && visB C.sc x && nmOk x
  | _ => false
theorem mVar_inv (C : MC) (i : Nat) {e : Expr} (hh : mVar C i e = true) : ∃ x p, e = .Name x p ∧ (slotB C i x && visB C.sc x && nmOk x) = true := by
  unfold mVar at hh
  split at hh
  · exact ⟨_, _, rfl, hh⟩
  · cases hh
def mGlo (C : MC) (y : Str) (e : Expr) : Bool := match e with
  | .Name x p => decide (x = y) && gloB C.sc x && nmOk x
  | _ => false
theorem mGlo_inv (C : MC) (y : Str) {e : Expr} (hh : mGlo C y e = true) : ∃ x p, e = .Name x p ∧ (decide (x = y) && gloB C.sc x && nmOk x) = true := by
  unfold mGlo at hh
  split at hh
  · exact ⟨_, _, rfl, hh⟩
  · cases hh
def mBin (op : Op) (f g : Expr → Bool) (e : Expr) : Bool := match e with
  | .BinOp l o r p => opB op o && f l && g r
  | _ => false
theorem mBin_inv (op : Op) (f g : Expr → Bool) {e : Expr} (hh : mBin op f g e = true) : ∃ l o r p, e = .BinOp l o r p ∧ (opB op o && f l && g r) = true := by
  unfold mBin at hh
  split at hh
  · exact ⟨_, _, _, _, rfl, hh⟩
  · cases hh
def mNeg (f : Expr → Bool) (e : Expr) : Bool := match e with
  | .UnaryOp .USub l p => f l
  | _ => false
theorem mNeg_inv (f : Expr → Bool) {e : Expr} (hh : mNeg f e = true) : ∃ l p, e = .UnaryOp .USub l p ∧ (f l) = true := by
  unfold mNeg at hh
  split at hh
  · exact ⟨_, _, rfl, hh⟩
  · cases hh
def mNot (f : Expr → Bool) (e : Expr) : Bool := match e with
  | .UnaryOp .Not l p => f l
  | _ => false
theorem mNot_inv (f : Expr → Bool) {e : Expr} (hh : mNot f e = true) : ∃ l p, e = .UnaryOp .Not l p ∧ (f l) = true := by
  unfold mNot at hh
  split at hh
  · exact ⟨_, _, rfl, hh⟩
  · cases hh
def mCmp (op : Cm) (f g : Expr → Bool) (e : Expr) : Bool := match e with
  | .Compare l [o] [r] p => cmI op o && notSet r && f l && g r
  | _ => false
theorem mCmp_inv (op : Cm) (f g : Expr → Bool) {e : Expr} (hh : mCmp op f g e = true) : ∃ l o r p, e = .Compare l [o] [r] p ∧ (cmI op o && notSet r && f l && g r) = true := by
  unfold mCmp at hh
  split at hh
  · exact ⟨_, _, _, _, rfl, hh⟩
  · cases hh
def mChn5 (o1 o2 o3 o4 : Cm) (f g h i j : Expr → Bool) (e : Expr) : Bool := match e with
  | .Compare l [q1, q2, q3, q4] [r1, r2, r3, r4] p => cmB o1 q1 && cmB o2 q2 && cmB o3 q3 && cmB o4 q4 && f l && g r1 && h r2 && i r3 && j r4
  | _ => false
theorem mChn5_inv (o1 o2 o3 o4 : Cm) (f g h i j : Expr → Bool) {e : Expr} (hh : mChn5 o1 o2 o3 o4 f g h i j e = true) : ∃ l q1 q2 q3 q4 r1 r2 r3 r4 p, e = .Compare l [q1, q2, q3, q4] [r1, r2, r3, r4] p ∧ (cmB o1 q1 && cmB o2 q2 && cmB o3 q3 && cmB o4 q4 && f l && g r1 && h r2 && i r3 && j r4) = true := by
  unfold mChn5 at hh
  split at hh
  · exact ⟨_, _, _, _, _, _, _, _, _, _, rfl, hh⟩
  · cases hh
def mNtB (b : Bool) (f : Expr → Bool) (e : Expr) : Bool := match e with
  | .Compare l [.IsNot] [.Constant (.bool j) k p2] p => decide (j = b) && f l
  | _ => false
theorem mNtB_inv (b : Bool) (f : Expr → Bool) {e : Expr} (hh : mNtB b f e = true) : ∃ l j k p2 p, e = .Compare l [.IsNot] [.Constant (.bool j) k p2] p ∧ (decide (j = b) && f l) = true := by
  unfold mNtB at hh
  split at hh
  · exact ⟨_, _, _, _, _, rfl, hh⟩
  · cases hh
def mDic  (e : Expr) : Bool := match e with
  | .Dict [] [] p => true
  | _ => false
theorem mDic_inv  {e : Expr} (hh : mDic  e = true) : ∃ p, e = .Dict [] [] p ∧ (true) = true := by
  unfold mDic at hh
  split at hh
  · exact ⟨_, rfl, hh⟩
  · cases hh
def mDin (n : Bool) (f g : Expr → Bool) (e : Expr) : Bool := match e with
  | .Compare l [o] [r] p => dinB n o && notSet r && f l && g r
  | _ => false
theorem mDin_inv (n : Bool) (f g : Expr → Bool) {e : Expr} (hh : mDin n f g e = true) : ∃ l o r p, e = .Compare l [o] [r] p ∧ (dinB n o && notSet r && f l && g r) = true := by
  unfold mDin at hh
  split at hh
  · exact ⟨_, _, _, _, rfl, hh⟩
  · cases hh
def mMet2 (n : Str) (f g h : Expr → Bool) (e : Expr) : Bool := match e with
  | .Call (.Attribute l m ap) [r, t] [] cp => decide (m = n) && notCall l && (ap.endLine == cp.line) && notSt r && notSt t && f l && g r && h t
  | _ => false
theorem mMet2_inv (n : Str) (f g h : Expr → Bool) {e : Expr} (hh : mMet2 n f g h e = true) : ∃ l m ap r t cp, e = .Call (.Attribute l m ap) [r, t] [] cp ∧ (decide (m = n) && notCall l && (ap.endLine == cp.line) && notSt r && notSt t && f l && g r && h t) = true := by
  unfold mMet2 at hh
  split at hh
  · exact ⟨_, _, _, _, _, _, rfl, hh⟩
  · cases hh
def mChn4 (o1 o2 o3 : Cm) (f g h i : Expr → Bool) (e : Expr) : Bool := match e with
  | .Compare l [q1, q2, q3] [r1, r2, r3] p => cmB o1 q1 && cmB o2 q2 && cmB o3 q3 && f l && g r1 && h r2 && i r3
  | _ => false
theorem mChn4_inv (o1 o2 o3 : Cm) (f g h i : Expr → Bool) {e : Expr} (hh : mChn4 o1 o2 o3 f g h i e = true) : ∃ l q1 q2 q3 r1 r2 r3 p, e = .Compare l [q1, q2, q3] [r1, r2, r3] p ∧ (cmB o1 q1 && cmB o2 q2 && cmB o3 q3 && f l && g r1 && h r2 && i r3) = true := by
  unfold mChn4 at hh
  split at hh
  · exact ⟨_, _, _, _, _, _, _, _, rfl, hh⟩
  · cases hh
def mChn (o1 o2 : Cm) (f g h : Expr → Bool) (e : Expr) : Bool := match e with
  | .Compare l [q1, q2] [r1, r2] p => cmB o1 q1 && cmB o2 q2 && f l && g r1 && h r2
  | _ => false
theorem mChn_inv (o1 o2 : Cm) (f g h : Expr → Bool) {e : Expr} (hh : mChn o1 o2 f g h e = true) : ∃ l q1 q2 r1 r2 p, e = .Compare l [q1, q2] [r1, r2] p ∧ (cmB o1 q1 && cmB o2 q2 && f l && g r1 && h r2) = true := by
  unfold mChn at hh
  split at hh
  · exact ⟨_, _, _, _, _, _, rfl, hh⟩
  · cases hh
def mIsN (f : Expr → Bool) (e : Expr) : Bool := match e with
  | .Compare l [.Is] [.Constant .none k p2] p => f l
  | _ => false
theorem mIsN_inv (f : Expr → Bool) {e : Expr} (hh : mIsN f e = true) : ∃ l k p2 p, e = .Compare l [.Is] [.Constant .none k p2] p ∧ (f l) = true := by
  unfold mIsN at hh
  split at hh
  · exact ⟨_, _, _, _, rfl, hh⟩
  · cases hh
def mNtN (f : Expr → Bool) (e : Expr) : Bool := match e with
  | .Compare l [.IsNot] [.Constant .none k p2] p => f l
  | _ => false
theorem mNtN_inv (f : Expr → Bool) {e : Expr} (hh : mNtN f e = true) : ∃ l k p2 p, e = .Compare l [.IsNot] [.Constant .none k p2] p ∧ (f l) = true := by
  unfold mNtN at hh
  split at hh
  · exact ⟨_, _, _, _, rfl, hh⟩
  · cases hh
def mIfe (f g h : Expr → Bool) (e : Expr) : Bool := match e with
  | .IfExp t l r p => f t && g l && h r
  | _ => false
theorem mIfe_inv (f g h : Expr → Bool) {e : Expr} (hh : mIfe f g h e = true) : ∃ t l r p, e = .IfExp t l r p ∧ (f t && g l && h r) = true := by
  unfold mIfe at hh
  split at hh
  · exact ⟨_, _, _, _, rfl, hh⟩
  · cases hh
def mTup (f : List Expr → Bool) (e : Expr) : Bool := match e with
  | .Tuple es k p => f es
  | _ => false
theorem mTup_inv (f : List Expr → Bool) {e : Expr} (hh : mTup f e = true) : ∃ es k p, e = .Tuple es k p ∧ (f es) = true := by
  unfold mTup at hh
  split at hh
  · exact ⟨_, _, _, rfl, hh⟩
  · cases hh
def mLst (f : List Expr → Bool) (e : Expr) : Bool := match e with
  | .List es p => f es
  | _ => false
theorem mLst_inv (f : List Expr → Bool) {e : Expr} (hh : mLst f e = true) : ∃ es p, e = .List es p ∧ (f es) = true := by
  unfold mLst at hh
  split at hh
  · exact ⟨_, _, rfl, hh⟩
  · cases hh
def mIdx (f g : Expr → Bool) (e : Expr) : Bool := match e with
  | .Subscript l s p => notSl s && f l && g s
  | _ => false
theorem mIdx_inv (f g : Expr → Bool) {e : Expr} (hh : mIdx f g e = true) : ∃ l s p, e = .Subscript l s p ∧ (notSl s && f l && g s) = true := by
  unfold mIdx at hh
  split at hh
  · exact ⟨_, _, _, rfl, hh⟩
  · cases hh
def mSlT (f g : Expr → Bool) (e : Expr) : Bool := match e with
  | .Subscript l (.Slice none (some r) none p2) p => f l && g r
  | _ => false
theorem mSlT_inv (f g : Expr → Bool) {e : Expr} (hh : mSlT f g e = true) : ∃ l r p2 p, e = .Subscript l (.Slice none (some r) none p2) p ∧ (f l && g r) = true := by
  unfold mSlT at hh
  split at hh
  · exact ⟨_, _, _, _, rfl, hh⟩
  · cases hh
def mSlF (f g : Expr → Bool) (e : Expr) : Bool := match e with
  | .Subscript l (.Slice (some r) none none p2) p => f l && g r
  | _ => false
theorem mSlF_inv (f g : Expr → Bool) {e : Expr} (hh : mSlF f g e = true) : ∃ l r p2 p, e = .Subscript l (.Slice (some r) none none p2) p ∧ (f l && g r) = true := by
  unfold mSlF at hh
  split at hh
  · exact ⟨_, _, _, _, rfl, hh⟩
  · cases hh
def mSlB (f g h : Expr → Bool) (e : Expr) : Bool := match e with
  | .Subscript l (.Slice (some r) (some t) none p2) p => f l && g r && h t
  | _ => false
theorem mSlB_inv (f g h : Expr → Bool) {e : Expr} (hh : mSlB f g h e = true) : ∃ l r t p2 p, e = .Subscript l (.Slice (some r) (some t) none p2) p ∧ (f l && g r && h t) = true := by
  unfold mSlB at hh
  split at hh
  · exact ⟨_, _, _, _, _, rfl, hh⟩
  · cases hh
def mFs (s : Str) (f g : Expr → Bool) (e : Expr) : Bool := match e with
  | .JoinedStr [.FormattedValue l c1 none q1, .Constant (.str j) k q2, .FormattedValue r c2 none q3] p => decide (c1 = -1) && decide (c2 = -1) && decide (j = s) && f l && g r
  | _ => false
theorem mFs_inv (s : Str) (f g : Expr → Bool) {e : Expr} (hh : mFs s f g e = true) : ∃ l c1 q1 j k q2 r c2 q3 p, e = .JoinedStr [.FormattedValue l c1 none q1, .Constant (.str j) k q2, .FormattedValue r c2 none q3] p ∧ (decide (c1 = -1) && decide (c2 = -1) && decide (j = s) && f l && g r) = true := by
  unfold mFs at hh
  split at hh
  · exact ⟨_, _, _, _, _, _, _, _, _, _, rfl, hh⟩
  · cases hh
def mGg (C : MC) (y : Str) (g : Expr → Bool) (e : Expr) : Bool := match e with
  | .Call (.Attribute (.Name x q) m ap) [r] [] cp => decide (m = ("get" : Str)) && decide (x = y) && gloB C.sc x && nmOk x && C.gd y && (ap.endLine == cp.line) && notSt r && g r
  | _ => false
theorem mGg_inv (C : MC) (y : Str) (g : Expr → Bool) {e : Expr} (hh : mGg C y g e = true) : ∃ x q m ap r cp, e = .Call (.Attribute (.Name x q) m ap) [r] [] cp ∧ (decide (m = ("get" : Str)) && decide (x = y) && gloB C.sc x && nmOk x && C.gd y && (ap.endLine == cp.line) && notSt r && g r) = true := by
  unfold mGg at hh
  split at hh
  · exact ⟨_, _, _, _, _, _, rfl, hh⟩
  · cases hh
def mRev (f : Expr → Bool) (e : Expr) : Bool := match e with
  | .Subscript l (.Slice none none (some (.UnaryOp .USub (.Constant (.int 1) k p1) p2)) p3) p => f l
  | _ => false
theorem mRev_inv (f : Expr → Bool) {e : Expr} (hh : mRev f e = true) : ∃ l k p1 p2 p3 p, e = .Subscript l (.Slice none none (some (.UnaryOp .USub (.Constant (.int 1) k p1) p2)) p3) p ∧ (f l) = true := by
  unfold mRev at hh
  split at hh
  · exact ⟨_, _, _, _, _, _, rfl, hh⟩
  · cases hh
def mCall (C : MC) (y : Str) (n : Nat) (f : List Expr → Bool) (e : Expr) : Bool := match e with
  | .Call (.Name x q) es [] p => decide (x = y) && gloB C.sc x && nmOk x && C.fs x n && (!C.nar || C.nr x) && f es
  | _ => false
theorem mCall_inv (C : MC) (y : Str) (n : Nat) (f : List Expr → Bool) {e : Expr} (hh : mCall C y n f e = true) : ∃ x q es p, e = .Call (.Name x q) es [] p ∧ (decide (x = y) && gloB C.sc x && nmOk x && C.fs x n && (!C.nar || C.nr x) && f es) = true := by
  unfold mCall at hh
  split at hh
  · exact ⟨_, _, _, _, rfl, hh⟩
  · cases hh
def mCallK (C : MC) (y : Str) (n : Nat) (f : List Expr → Bool) (g : Expr → Bool) (e : Expr) : Bool := match e with
  | .Call (.Name x q) es [⟨some kn, v, kp⟩] p => decide (x = y) && gloB C.sc x && nmOk x && decide (1 ≤ n) && C.fk x n kn && !C.nar && f es && g v
  | _ => false
theorem mCallK_inv (C : MC) (y : Str) (n : Nat) (f : List Expr → Bool) (g : Expr → Bool) {e : Expr} (hh : mCallK C y n f g e = true) : ∃ x q es kn v kp p, e = .Call (.Name x q) es [⟨some kn, v, kp⟩] p ∧ (decide (x = y) && gloB C.sc x && nmOk x && decide (1 ≤ n) && C.fk x n kn && !C.nar && f es && g v) = true := by
  unfold mCallK at hh
  split at hh
  · exact ⟨_, _, _, _, _, _, _, rfl, hh⟩
  · cases hh
def mBi (C : MC) (y : Str) (f : List Expr → Bool) (e : Expr) : Bool := match e with
  | .Call (.Name x q) es [] p => decide (x = y) && gloB C.sc x && f es
  | _ => false
theorem mBi_inv (C : MC) (y : Str) (f : List Expr → Bool) {e : Expr} (hh : mBi C y f e = true) : ∃ x q es p, e = .Call (.Name x q) es [] p ∧ (decide (x = y) && gloB C.sc x && f es) = true := by
  unfold mBi at hh
  split at hh
  · exact ⟨_, _, _, _, rfl, hh⟩
  · cases hh
def mIsI (C : MC) (y : Str) (f : Expr → Bool) (e : Expr) : Bool := match e with
  | .Call (.Name x q) [l, .Name z q2] [] p => decide (x = ("isinstance" : Str)) && gloB C.sc x && decide (z = y) && gloB C.sc z && notSt l && f l
  | _ => false
theorem mIsI_inv (C : MC) (y : Str) (f : Expr → Bool) {e : Expr} (hh : mIsI C y f e = true) : ∃ x q l z q2 p, e = .Call (.Name x q) [l, .Name z q2] [] p ∧ (decide (x = ("isinstance" : Str)) && gloB C.sc x && decide (z = y) && gloB C.sc z && notSt l && f l) = true := by
  unfold mIsI at hh
  split at hh
  · exact ⟨_, _, _, _, _, _, rfl, hh⟩
  · cases hh
def mMet1 (n : Str) (f g : Expr → Bool) (e : Expr) : Bool := match e with
  | .Call (.Attribute l m ap) [r] [] cp => decide (m = n) && notCall l && (ap.endLine == cp.line) && notSt r && f l && g r
  | _ => false
theorem mMet1_inv (n : Str) (f g : Expr → Bool) {e : Expr} (hh : mMet1 n f g e = true) : ∃ l m ap r cp, e = .Call (.Attribute l m ap) [r] [] cp ∧ (decide (m = n) && notCall l && (ap.endLine == cp.line) && notSt r && f l && g r) = true := by
  unfold mMet1 at hh
  split at hh
  · exact ⟨_, _, _, _, _, rfl, hh⟩
  · cases hh
def mMet0 (n : Str) (f : Expr → Bool) (e : Expr) : Bool := match e with
  | .Call (.Attribute l m ap) [] [] cp => decide (m = n) && notCall l && (ap.endLine == cp.line) && f l
  | _ => false
theorem mMet0_inv (n : Str) (f : Expr → Bool) {e : Expr} (hh : mMet0 n f e = true) : ∃ l m ap cp, e = .Call (.Attribute l m ap) [] [] cp ∧ (decide (m = n) && notCall l && (ap.endLine == cp.line) && f l) = true := by
  unfold mMet0 at hh
  split at hh
  · exact ⟨_, _, _, _, rfl, hh⟩
  · cases hh
def mIsB (b : Bool) (f : Expr → Bool) (e : Expr) : Bool := match e with
  | .Compare l [.Is] [.Constant (.bool j) k p2] p => decide (j = b) && f l
  | _ => false
theorem mIsB_inv (b : Bool) (f : Expr → Bool) {e : Expr} (hh : mIsB b f e = true) : ∃ l j k p2 p, e = .Compare l [.Is] [.Constant (.bool j) k p2] p ∧ (decide (j = b) && f l) = true := by
  unfold mIsB at hh
  split at hh
  · exact ⟨_, _, _, _, _, rfl, hh⟩
  · cases hh
def mFld (C : MC) (y n : Str) (f : Expr → Bool) (e : Expr) : Bool := match e with
  | .Attribute l m p => decide (m = n) && C.fl y n && notCall l && f l
  | _ => false
theorem mFld_inv (C : MC) (y n : Str) (f : Expr → Bool) {e : Expr} (hh : mFld C y n f e = true) : ∃ l m p, e = .Attribute l m p ∧ (decide (m = n) && C.fl y n && notCall l && f l) = true := by
  unfold mFld at hh
  split at hh
  · exact ⟨_, _, _, rfl, hh⟩
  · cases hh
def mMth (C : MC) (y n key : Str) (c : Nat) (f : Expr → Bool) (g : List Expr → Bool) (e : Expr) : Bool := match e with
  | .Call (.Attribute (.Name x q) w ap) es [] cp => decide (w = n) && (ap.endLine == cp.line) && decide (es.length < 30) && C.ms y n key c && !C.nar && f (.Name x q) && g es
  | _ => false
theorem mMth_inv (C : MC) (y n key : Str) (c : Nat) (f : Expr → Bool) (g : List Expr → Bool) {e : Expr} (hh : mMth C y n key c f g e = true) : ∃ x q w ap es cp, e = .Call (.Attribute (.Name x q) w ap) es [] cp ∧ (decide (w = n) && (ap.endLine == cp.line) && decide (es.length < 30) && C.ms y n key c && !C.nar && f (.Name x q) && g es) = true := by
  unfold mMth at hh
  split at hh
  · exact ⟨_, _, _, _, _, _, rfl, hh⟩
  · cases hh
def mMk (C : MC) (y key : Str) (c : Nat) (g : List Expr → Bool) (e : Expr) : Bool := match e with
  | .Call (.Name x q) es [] p => decide (x = y) && gloB C.sc x && nmOk x && C.mks y key c && !C.nar && g es
  | _ => false
theorem mMk_inv (C : MC) (y key : Str) (c : Nat) (g : List Expr → Bool) {e : Expr} (hh : mMk C y key c g e = true) : ∃ x q es p, e = .Call (.Name x q) es [] p ∧ (decide (x = y) && gloB C.sc x && nmOk x && C.mks y key c && !C.nar && g es) = true := by
  unfold mMk at hh
  split at hh
  · exact ⟨_, _, _, _, rfl, hh⟩
  · cases hh
def mLc (C : MC) (own ts : List Nat) (nd : Bool) (it : Expr → Bool) (t el : MC → Expr → Bool) (e : Expr) : Bool := match e with
  | .ListComp x [⟨tg, i, [], 0⟩] sc p => cold C && notSet i && ts.all (fun i => own.contains i) && (!nd || isTupE tg) && blkC C.N C.sc sc (ownL C own) && it i && t (C.blk sc) tg && el (C.blk sc) x
  | _ => false
theorem mLc_inv (C : MC) (own ts : List Nat) (nd : Bool) (it : Expr → Bool) (t el : MC → Expr → Bool) {e : Expr} (hh : mLc C own ts nd it t el e = true) : ∃ x tg i sc p, e = .ListComp x [⟨tg, i, [], 0⟩] sc p ∧ (cold C && notSet i && ts.all (fun i => own.contains i) && (!nd || isTupE tg) && blkC C.N C.sc sc (ownL C own) && it i && t (C.blk sc) tg && el (C.blk sc) x) = true := by
  unfold mLc at hh
  split at hh
  · exact ⟨_, _, _, _, _, rfl, hh⟩
  · cases hh
def mLcI (C : MC) (own ts : List Nat) (nd : Bool) (it : Expr → Bool) (t c el : MC → Expr → Bool) (e : Expr) : Bool := match e with
  | .ListComp x [⟨tg, i, [f], 0⟩] sc p => cold C && notSet i && ts.all (fun i => own.contains i) && (!nd || isTupE tg) && blkC C.N C.sc sc (ownL C own) && it i && t (C.blk sc) tg && c (C.blk sc) f && el (C.blk sc) x
  | _ => false
theorem mLcI_inv (C : MC) (own ts : List Nat) (nd : Bool) (it : Expr → Bool) (t c el : MC → Expr → Bool) {e : Expr} (hh : mLcI C own ts nd it t c el e = true) : ∃ x tg i f sc p, e = .ListComp x [⟨tg, i, [f], 0⟩] sc p ∧ (cold C && notSet i && ts.all (fun i => own.contains i) && (!nd || isTupE tg) && blkC C.N C.sc sc (ownL C own) && it i && t (C.blk sc) tg && c (C.blk sc) f && el (C.blk sc) x) = true := by
  unfold mLcI at hh
  split at hh
  · exact ⟨_, _, _, _, _, _, rfl, hh⟩
  · cases hh
def mLrg (C : MC) (f : Expr → Bool) (e : Expr) : Bool := match e with
  | .Call (.Name x q) [.Call (.Name y q2) [l] [] p2] [] p => decide (x = ("list" : Str)) && gloB C.sc x && decide (y = ("range" : Str)) && gloB C.sc y && cold C && notSt l && f l
  | _ => false
theorem mLrg_inv (C : MC) (f : Expr → Bool) {e : Expr} (hh : mLrg C f e = true) : ∃ x q y q2 l p2 p, e = .Call (.Name x q) [.Call (.Name y q2) [l] [] p2] [] p ∧ (decide (x = ("list" : Str)) && gloB C.sc x && decide (y = ("range" : Str)) && gloB C.sc y && cold C && notSt l && f l) = true := by
  unfold mLrg at hh
  split at hh
  · exact ⟨_, _, _, _, _, _, _, rfl, hh⟩
  · cases hh
def mCl1 (C : MC) (y : Str) (f : Expr → Bool) (e : Expr) : Bool := match e with
  | .Call (.Name x q) [l] [] p => decide (x = y) && gloB C.sc x && notSt l && f l
  | _ => false
theorem mCl1_inv (C : MC) (y : Str) (f : Expr → Bool) {e : Expr} (hh : mCl1 C y f e = true) : ∃ x q l p, e = .Call (.Name x q) [l] [] p ∧ (decide (x = y) && gloB C.sc x && notSt l && f l) = true := by
  unfold mCl1 at hh
  split at hh
  · exact ⟨_, _, _, _, rfl, hh⟩
  · cases hh
def mXis (C : MC) (i : Nat) (y : Str) (e : Expr) : Bool := match e with
  | .Call (.Name x q) [.Name n q1, .Name z q2] [] p => decide (x = ("isinstance" : Str)) && gloB C.sc x && decide (z = y) && gloB C.sc z && nmOk z && hsIs C i && slotB C i n && visB C.sc n && nmOk n
  | _ => false
theorem mXis_inv (C : MC) (i : Nat) (y : Str) {e : Expr} (hh : mXis C i y e = true) : ∃ x q n q1 z q2 p, e = .Call (.Name x q) [.Name n q1, .Name z q2] [] p ∧ (decide (x = ("isinstance" : Str)) && gloB C.sc x && decide (z = y) && gloB C.sc z && nmOk z && hsIs C i && slotB C i n && visB C.sc n && nmOk n) = true := by
  unfold mXis at hh
  split at hh
  · exact ⟨_, _, _, _, _, _, _, rfl, hh⟩
  · cases hh
def mXcl (C : MC) (i : Nat) (y : Str) (e : Expr) : Bool := match e with
  | .Call (.Name x q) [.Name n q1] [] p => decide (x = y) && gloB C.sc x && nmOk x && C.xq y && hsIs C i && slotB C i n && visB C.sc n && nmOk n
  | _ => false
theorem mXcl_inv (C : MC) (i : Nat) (y : Str) {e : Expr} (hh : mXcl C i y e = true) : ∃ x q n q1 p, e = .Call (.Name x q) [.Name n q1] [] p ∧ (decide (x = y) && gloB C.sc x && nmOk x && C.xq y && hsIs C i && slotB C i n && visB C.sc n && nmOk n) = true := by
  unfold mXcl at hh
  split at hh
  · exact ⟨_, _, _, _, _, rfl, hh⟩
  · cases hh
def mXat (C : MC) (i : Nat) (e : Expr) : Bool := match e with
  | .Attribute (.Name n q) m p => decide (m = ("at" : Str)) && hsIs C i && slotB C i n && visB C.sc n && nmOk n
  | _ => false
theorem mXat_inv (C : MC) (i : Nat) {e : Expr} (hh : mXat C i e = true) : ∃ n q m p, e = .Attribute (.Name n q) m p ∧ (decide (m = ("at" : Str)) && hsIs C i && slotB C i n && visB C.sc n && nmOk n) = true := by
  unfold mXat at hh
  split at hh
  · exact ⟨_, _, _, _, rfl, hh⟩
  · cases hh
def mCl2 (C : MC) (y : Str) (f g : Expr → Bool) (e : Expr) : Bool := match e with
  | .Call (.Name x q) [l, r] [] p => decide (x = y) && gloB C.sc x && notSt l && notSt r && f l && g r
  | _ => false
theorem mCl2_inv (C : MC) (y : Str) (f g : Expr → Bool) {e : Expr} (hh : mCl2 C y f g e = true) : ∃ x q l r p, e = .Call (.Name x q) [l, r] [] p ∧ (decide (x = y) && gloB C.sc x && notSt l && notSt r && f l && g r) = true := by
  unfold mCl2 at hh
  split at hh
  · exact ⟨_, _, _, _, _, rfl, hh⟩
  · cases hh
def mBool (op : BoolOp) (f g : Expr → Bool) (e : Expr) : Bool := match e with
  | .BoolOp o (l :: r :: rest) p => decide (o = op) && f l && (match rest with
    | [] => g r
    | _ :: _ => g (.BoolOp op (r :: rest) p))
  | _ => false
theorem mBool_inv (op : BoolOp) (f g : Expr → Bool) {e : Expr} (h : mBool op f g e = true) : ∃ l r rest p, e = .BoolOp op (l :: r :: rest) p ∧ f l = true ∧ ((rest = [] ∧ g r = true) ∨ (rest ≠ [] ∧ g (.BoolOp op (r :: rest) p) = true)) := by
  unfold mBool at h
  split at h
  · rename_i o l r rest p
    rw [Bool.and_eq_true, Bool.and_eq_true] at h
    obtain ⟨⟨h0, h1⟩, h2⟩ := h
    have h0 := of_decide_eq_true h0
    subst h0
    refine ⟨l, r, rest, p, rfl, h1, ?_⟩
    split at h2
    · exact .inl ⟨rfl, h2⟩
    · exact .inr ⟨by simp, h2⟩
  · cases h
def flatE : List (Option Expr) → List Expr → Option (List Expr)
  | [], [] => some []
  | some k :: ks, v :: vs => (flatE ks vs).map fun r => k :: v :: r
  | _, _ => none
def mDsp (f : List Expr → Bool) (e : Expr) : Bool := match e with
  | .Dict ks vs _ => match flatE ks vs with
    | some xs => decide (ks.length ≤ 15) && f xs
    | none => false
  | _ => false
theorem mDsp_inv (f : List Expr → Bool) {e : Expr} (hh : mDsp f e = true) : ∃ ks vs p xs, e = .Dict ks vs p ∧ flatE ks vs = some xs ∧ ks.length ≤ 15 ∧ f xs = true := by
  unfold mDsp at hh
  split at hh
  · split at hh
    · rename_i h
      exact ⟨_, _, _, _, rfl, h, of_decide_eq_true (Bool.and_eq_true_iff.mp hh).1, (Bool.and_eq_true_iff.mp hh).2⟩
    · cases hh
  · cases hh
def mX2 (k : X2) (f g : Expr → Bool) : Expr → Bool := match k with
  | .spl => mMet1 "split" f g
  | .prt => mMet1 "partition" f g
  | .joi => mMet1 "join" f g
  | .cnt => mMet1 "count" f g
  | .rmv => mMet1 "remove" f g
  | .fs s => mFs s f g
mutual
def mE : Ex → MC → Expr → Bool
  | .int i, _ => mInt i
  | .str s, _ => mStr s
  | .bl b, _ => mBl b
  | .non, _ => mNon
  | .var i, C => mVar C i
  | .glo x, C => mGlo C x
  | .bin op a b, C => mBin op (mE a C) (mE b C)
  | .neg a, C => mNeg (mE a C)
  | .not a, C => mNot (mE a C)
  | .and a b, C => mBool .And (mE a C) (mE b C)
  | .or a b, C => mBool .Or (mE a C) (mE b C)
  | .cmp op a b, C => mCmp op (mE a C) (mE b C)
  | .chn o1 o2 a b c, C => mChn o1 o2 (mE a C) (mE b C) (mE c C)
  | .isN a, C => mIsN (mE a C)
  | .ntN a, C => mNtN (mE a C)
  | .ife c a b, C => mIfe (fun t => tOk c && mE c C t) (mE a C) (mE b C)
  | .tup es, C => mTup fun xs => decide (es.length ≤ lim) && mEs es C xs
  | .lst es, C => mLst fun xs => decide (es.length ≤ lim) && mEs es C xs
  | .idx a i, C => mIdx (mE a C) (mE i C)
  | .slT a b, C => mSlT (mE a C) (mE b C)
  | .slF a b, C => mSlF (mE a C) (mE b C)
  | .slB a b c, C => mSlB (mE a C) (mE b C) (mE c C)
  | .rev a, C => mRev (mE a C)
  | .lrg a, C => mLrg C (mE a C)
  | .callK f es a, C => mCallK C f es.length (mEs es C) (mE a C)
  | .call f es, C => mCall C f es.length (mEs es C)
  | .bi b es, C => mBi C (biN b) fun xs => biOk C b && (decide (es.length ≠ 0) && mEs es C xs)
  | .xis i y, C => mXis C i y
  | .xat i, C => mXat C i
  | .xcl i f, C => mXcl C i f
  | .dsp es, C => mDsp fun xs => decide (es.length ≠ 0) && mEs es C xs
  | .isI a t, C => mIsI C (tyN t) (mE a C)
  | .app o a, C => mMet1 "append" (mE o C) (mE a C)
  | .ext o a, C => mMet1 "extend" (mE o C) (mE a C)
  | .clr o, C => mMet0 "clear" (mE o C)
  | .isB a b, C => mIsB b (mE a C)
  | .chn4 o1 o2 o3 a b c d, C => mChn4 o1 o2 o3 (mE a C) (mE b C) (mE c C) (mE d C)
  | .fld a y f, C => mFld C y f (mE a C)
  | .any, _ => anyE
  | .chn5 o1 o2 o3 o4 a b c d f, C => mChn5 o1 o2 o3 o4 (mE a C) (mE b C) (mE c C) (mE d C) (mE f C)
  | .ntB a b, C => mNtB b (mE a C)
  | .dic _, _ => mDic
  | .dcb, _ => mDic
  | .dgt o k, C => mIdx (mE o C) (mE k C)
  | .din n k o, C => mDin n (mE k C) (mE o C)
  | .get1 o k, C => mMet1 "get" (mE o C) (mE k C)
  | .get2 o k d, C => mMet2 "get" (mE o C) (mE k C) (mE d C)
  | .dpop o k, C => mMet1 "pop" (mE o C) (mE k C)
  | .ixo o a, C => mMet1 "index" (mE o C) (mE a C)
  | .ins o i a, C => mMet2 "insert" (mE o C) (mE i C) (mE a C)
  | .pop0 o, C => mMet0 "pop" (mE o C)
  | .pop1 o i, C => mMet1 "pop" (mE o C) (mE i C)
  | .mth o y f key es, C => mMth C y f key es.length (mE o C) (mEs es C)
  | .mk y key es, C => mMk C y key es.length (mEs es C)
  | .op2 k o a, C => mX2 k (mE o C) (mE a C)
  | .idS a i, C => mIdx (mE a C) (mE i C)
  | .lsd o, C => fun e => cold C && mCl1 C "list" (mE o C) e
  | .upp o, C => mMet0 "upper" (mE o C)
  | .gget x k, C => mGg C x (mE k C)
  | .lc own t it el, C => mLc C own (tsl t) (itT it) (mI it C) (fun C => mT C t) (mE el)
  | .lcI own t it c el, C => mLcI C own (tsl t) (itT it) (mI it C) (fun C => mT C t) (fun C f => tOk c && mE c C f) (mE el)
def mEs : List Ex → MC → List Expr → Bool
  | [], _, es => es.isEmpty
  | x :: xs, C, es => match es with
    | e :: r => notSt e && mE x C e && mEs xs C r
    | [] => false
def mI : It → MC → Expr → Bool
  | .seq a, C => mE a C
  | .rng a, C => mCl1 C "range" (mE a C)
  | .rng2 a b, C => mCl2 C "range" (mE a C) (mE b C)
  | .enm a, C => mCl1 C "enumerate" (mE a C)
  | .zip a b, C => mCl2 C "zip" (mE a C) (mE b C)
  | .rvd a, C => mCl1 C "reversed" (mE a C)
end
def notLc : Expr → Bool
  | .ListComp _ _ _ _ => false
  | _ => true
/-- the stores of a written tuple are not exchanged -/
def noSwap (ts vs : List Expr) : Bool := vs.all (foldedForSure 8) && ts.all fun
  | .Name _ _ => true
  | _ => false
def noSwapE (C : MC) (v tg : Expr) : Bool := match v, tg with
  | .Tuple vs _ _, .Tuple ts _ _ => noSwap ts vs || ts.any fun
    | .Name x _ => celB C.sc x
    | _ => false
  | _, _ => true
def swapOk (C : MC) (x y : Str) (px py : Pos) (a b : Expr) : Bool := locB C.sc x && locB C.sc y && (py.line == px.line) && !(x == y) && !([a, b].all (foldedForSure 8)) && !([a, b].all (constantsAlone 8))
def swapOk3 (C : MC) (x y z : Str) (px py pz : Pos) (a b c : Expr) : Bool := locB C.sc x && locB C.sc y && locB C.sc z && (py.line == px.line) && (pz.line == px.line) && !(x == y) && !(x == z) && !(y == z) && !([a, b, c].all (foldedForSure 8)) && !([a, b, c].all (constantsAlone 8))
def qAsg (C : MC) (t : Tg) (f : Expr → Bool) (e : Stmt) : Bool := match e with
  | .Assign [tg] v p => mT C t tg && f v && noSwapE C v tg
  | _ => false
theorem qAsg_inv (C : MC) (t : Tg) (f : Expr → Bool) {e : Stmt} (hh : qAsg C t f e = true) : ∃ tg v p, e = .Assign [tg] v p ∧ (mT C t tg && f v && noSwapE C v tg) = true := by
  unfold qAsg at hh
  split at hh
  · exact ⟨_, _, _, rfl, hh⟩
  · cases hh
def qPar (C : MC) (i j : Nat) (f g : Expr → Bool) (e : Stmt) : Bool := match e with
  | .Assign [.Tuple [.Name x px, .Name y py] kt pt] (.Tuple [l, r] k2 pt2) p => cold C && slotB C i x && slotB C j y && decide (i ≠ j) && swapOk C x y px py l r && notSt l && notSt r && f l && g r
  | _ => false
theorem qPar_inv (C : MC) (i j : Nat) (f g : Expr → Bool) {e : Stmt} (hh : qPar C i j f g e = true) : ∃ x px y py kt pt l r k2 pt2 p, e = .Assign [.Tuple [.Name x px, .Name y py] kt pt] (.Tuple [l, r] k2 pt2) p ∧ (cold C && slotB C i x && slotB C j y && decide (i ≠ j) && swapOk C x y px py l r && notSt l && notSt r && f l && g r) = true := by
  unfold qPar at hh
  split at hh
  · exact ⟨_, _, _, _, _, _, _, _, _, _, _, rfl, hh⟩
  · cases hh
def qPa3 (C : MC) (i j k : Nat) (f g h : Expr → Bool) (e : Stmt) : Bool := match e with
  | .Assign [.Tuple [.Name x px, .Name y py, .Name z pz] kt pt] (.Tuple [l, r, m] k2 pt2) p => cold C && slotB C i x && slotB C j y && slotB C k z && decide (i ≠ j) && decide (i ≠ k) && decide (j ≠ k) && swapOk3 C x y z px py pz l r m && notSt l && notSt r && notSt m && f l && g r && h m
  | _ => false
theorem qPa3_inv (C : MC) (i j k : Nat) (f g h : Expr → Bool) {e : Stmt} (hh : qPa3 C i j k f g h e = true) : ∃ x px y py z pz kt pt l r m k2 pt2 p, e = .Assign [.Tuple [.Name x px, .Name y py, .Name z pz] kt pt] (.Tuple [l, r, m] k2 pt2) p ∧ (cold C && slotB C i x && slotB C j y && slotB C k z && decide (i ≠ j) && decide (i ≠ k) && decide (j ≠ k) && swapOk3 C x y z px py pz l r m && notSt l && notSt r && notSt m && f l && g r && h m) = true := by
  unfold qPa3 at hh
  split at hh
  · exact ⟨_, _, _, _, _, _, _, _, _, _, _, _, _, _, rfl, hh⟩
  · cases hh
def qSub (f g h : Expr → Bool) (e : Stmt) : Bool := match e with
  | .Assign [.Subscript l k p2] v p => notSl k && f l && g k && h v
  | _ => false
theorem qSub_inv (f g h : Expr → Bool) {e : Stmt} (hh : qSub f g h e = true) : ∃ l k p2 v p, e = .Assign [.Subscript l k p2] v p ∧ (notSl k && f l && g k && h v) = true := by
  unfold qSub at hh
  split at hh
  · exact ⟨_, _, _, _, _, rfl, hh⟩
  · cases hh
def qExp (f : Expr → Bool) (e : Stmt) : Bool := match e with
  | .Expr v p => notLc v && f v
  | _ => false
theorem qExp_inv (f : Expr → Bool) {e : Stmt} (hh : qExp f e = true) : ∃ v p, e = .Expr v p ∧ (notLc v && f v) = true := by
  unfold qExp at hh
  split at hh
  · exact ⟨_, _, rfl, hh⟩
  · cases hh
def qIte (f : Expr → Bool) (g h : List Stmt → Bool) (e : Stmt) : Bool := match e with
  | .If t l r p => f t && g l && h r
  | _ => false
theorem qIte_inv (f : Expr → Bool) (g h : List Stmt → Bool) {e : Stmt} (hh : qIte f g h e = true) : ∃ t l r p, e = .If t l r p ∧ (f t && g l && h r) = true := by
  unfold qIte at hh
  split at hh
  · exact ⟨_, _, _, _, rfl, hh⟩
  · cases hh
def qFor (C : MC) (t : Tg) (nd : Bool) (f : Expr → Bool) (g : List Stmt → Bool) (e : Stmt) : Bool := match e with
  | .For tg i l [] p => cold C && notSet i && (!nd || isTupE tg) && mT C t tg && f i && g l
  | _ => false
theorem qFor_inv (C : MC) (t : Tg) (nd : Bool) (f : Expr → Bool) (g : List Stmt → Bool) {e : Stmt} (hh : qFor C t nd f g e = true) : ∃ tg i l p, e = .For tg i l [] p ∧ (cold C && notSet i && (!nd || isTupE tg) && mT C t tg && f i && g l) = true := by
  unfold qFor at hh
  split at hh
  · exact ⟨_, _, _, _, rfl, hh⟩
  · cases hh
def qWhl (C : MC) (f : Expr → Bool) (g : List Stmt → Bool) (e : Stmt) : Bool := match e with
  | .While t l [] p => cold C && f t && g l
  | _ => false
theorem qWhl_inv (C : MC) (f : Expr → Bool) (g : List Stmt → Bool) {e : Stmt} (hh : qWhl C f g e = true) : ∃ t l p, e = .While t l [] p ∧ (cold C && f t && g l) = true := by
  unfold qWhl at hh
  split at hh
  · exact ⟨_, _, _, rfl, hh⟩
  · cases hh
def qRet (f : Expr → Bool) (e : Stmt) : Bool := match e with
  | .Return (some v) p => f v
  | _ => false
theorem qRet_inv (f : Expr → Bool) {e : Stmt} (hh : qRet f e = true) : ∃ v p, e = .Return (some v) p ∧ (f v) = true := by
  unfold qRet at hh
  split at hh
  · exact ⟨_, _, rfl, hh⟩
  · cases hh
def qRetN  (e : Stmt) : Bool := match e with
  | .Return none p => true
  | _ => false
theorem qRetN_inv  {e : Stmt} (hh : qRetN  e = true) : ∃ p, e = .Return none p ∧ (true) = true := by
  unfold qRetN at hh
  split at hh
  · exact ⟨_, rfl, hh⟩
  · cases hh
def qBrk  (e : Stmt) : Bool := match e with
  | .Break p => true
  | _ => false
theorem qBrk_inv  {e : Stmt} (hh : qBrk  e = true) : ∃ p, e = .Break p ∧ (true) = true := by
  unfold qBrk at hh
  split at hh
  · exact ⟨_, rfl, hh⟩
  · cases hh
def qPass  (e : Stmt) : Bool := match e with
  | .Pass p => true
  | _ => false
theorem qPass_inv  {e : Stmt} (hh : qPass  e = true) : ∃ p, e = .Pass p ∧ (true) = true := by
  unfold qPass at hh
  split at hh
  · exact ⟨_, rfl, hh⟩
  · cases hh
def qStf (C : MC) (y n : Str) (f g : Expr → Bool) (e : Stmt) : Bool := match e with
  | .Assign [.Attribute l m p2] v p => decide (m = n) && C.fl y n && f l && g v
  | _ => false
theorem qStf_inv (C : MC) (y n : Str) (f g : Expr → Bool) {e : Stmt} (hh : qStf C y n f g e = true) : ∃ l m p2 v p, e = .Assign [.Attribute l m p2] v p ∧ (decide (m = n) && C.fl y n && f l && g v) = true := by
  unfold qStf at hh
  split at hh
  · exact ⟨_, _, _, _, _, rfl, hh⟩
  · cases hh
def qRai (C : MC) (y : Str) (e : Stmt) : Bool := match e with
  | .Raise (some (.Call (.Name x q) [.Constant (.str m) j p2] [] p3)) none p => decide (x = y) && gloB C.sc x && nmOk x && C.xs x
  | _ => false
theorem qRai_inv (C : MC) (y : Str) {e : Stmt} (hh : qRai C y e = true) : ∃ x q m j p2 p3 p, e = .Raise (some (.Call (.Name x q) [.Constant (.str m) j p2] [] p3)) none p ∧ (decide (x = y) && gloB C.sc x && nmOk x && C.xs x) = true := by
  unfold qRai at hh
  split at hh
  · exact ⟨_, _, _, _, _, _, _, rfl, hh⟩
  · cases hh
def qRaA (C : MC) (y : Str) (f : Expr → Bool) (e : Stmt) : Bool := match e with
  | .Raise (some (.Call (.Name x q) [a] [] p3)) none p => decide (x = y) && gloB C.sc x && nmOk x && C.xo x && !C.nar && notSt a && f a
  | _ => false
theorem qRaA_inv (C : MC) (y : Str) (f : Expr → Bool) {e : Stmt} (hh : qRaA C y f e = true) : ∃ x q a p3 p, e = .Raise (some (.Call (.Name x q) [a] [] p3)) none p ∧ (decide (x = y) && gloB C.sc x && nmOk x && C.xo x && !C.nar && notSt a && f a) = true := by
  unfold qRaA at hh
  split at hh
  · exact ⟨_, _, _, _, _, rfl, hh⟩
  · cases hh
def qTrA (C : MC) (y : Str) (i : Nat) (g h : List Stmt → Bool) (e : Stmt) : Bool := match e with
  | .Try b [.ExceptHandler (some (.Name x np)) (some n) (b0 :: su) p2] [] [] p => C.top && !C.nar && decide (x = y) && gloB C.sc x && nmOk x && (C.xs x || C.xo x) && slotB C i n && locB C.sc n && g b && h (b0 :: su)
  | _ => false
theorem qTrA_inv (C : MC) (y : Str) (i : Nat) (g h : List Stmt → Bool) {e : Stmt} (hh : qTrA C y i g h e = true) : ∃ b x np n b0 su p2 p, e = .Try b [.ExceptHandler (some (.Name x np)) (some n) (b0 :: su) p2] [] [] p ∧ (C.top && !C.nar && decide (x = y) && gloB C.sc x && nmOk x && (C.xs x || C.xo x) && slotB C i n && locB C.sc n && g b && h (b0 :: su)) = true := by
  unfold qTrA at hh
  split at hh
  · exact ⟨_, _, _, _, _, _, _, _, rfl, hh⟩
  · cases hh
def qTr2 (C : MC) (y : Str) (i : Nat) (y2 : Str) (i2 : Nat) (g h h2 : List Stmt → Bool) (e : Stmt) : Bool := match e with
  | .Try b [.ExceptHandler (some (.Name x np)) (some n) (b0 :: su) p2, .ExceptHandler (some (.Name x2 np2)) (some n2) (b02 :: su2) p3] [] [] p => C.top && !C.nar && decide (x = y) && gloB C.sc x && nmOk x && (C.xs x || C.xo x) && slotB C i n && locB C.sc n && decide (x2 = y2) && gloB C.sc x2 && nmOk x2 && (C.xs x2 || C.xo x2) && slotB C i2 n2 && locB C.sc n2 && g b && h (b0 :: su) && h2 (b02 :: su2)
  | _ => false
theorem qTr2_inv (C : MC) (y : Str) (i : Nat) (y2 : Str) (i2 : Nat) (g h h2 : List Stmt → Bool) {e : Stmt} (hh : qTr2 C y i y2 i2 g h h2 e = true) : ∃ b x np n b0 su p2 x2 np2 n2 b02 su2 p3 p, e = .Try b [.ExceptHandler (some (.Name x np)) (some n) (b0 :: su) p2, .ExceptHandler (some (.Name x2 np2)) (some n2) (b02 :: su2) p3] [] [] p ∧ (C.top && !C.nar && decide (x = y) && gloB C.sc x && nmOk x && (C.xs x || C.xo x) && slotB C i n && locB C.sc n && decide (x2 = y2) && gloB C.sc x2 && nmOk x2 && (C.xs x2 || C.xo x2) && slotB C i2 n2 && locB C.sc n2 && g b && h (b0 :: su) && h2 (b02 :: su2)) = true := by
  unfold qTr2 at hh
  split at hh
  · exact ⟨_, _, _, _, _, _, _, _, _, _, _, _, _, _, rfl, hh⟩
  · cases hh
def qTrN (C : MC) (g : List Stmt → Bool) (e : Stmt) : Bool := match e with
  | .Try b [.ExceptHandler (some (.Name x np)) none (b0 :: su) p2] [] [] p => C.top && !C.nar && gloB C.sc x && nmOk x && C.xs x && g b
  | _ => false
theorem qTrN_inv (C : MC) (g : List Stmt → Bool) {e : Stmt} (hh : qTrN C g e = true) : ∃ b x np b0 su p2 p, e = .Try b [.ExceptHandler (some (.Name x np)) none (b0 :: su) p2] [] [] p ∧ (C.top && !C.nar && gloB C.sc x && nmOk x && C.xs x && g b) = true := by
  unfold qTrN at hh
  split at hh
  · exact ⟨_, _, _, _, _, _, _, rfl, hh⟩
  · cases hh
def qTCC (C : MC) (y y2 : Str) (g : List Stmt → Bool) (f f2 : Expr → Bool) (e : Stmt) : Bool := match e with
  | .Try b [.ExceptHandler (some (.Name x np)) none [.Return (some v) rp] p2, .ExceptHandler (some (.Name x2 np2)) none [.Return (some v2) rp2] p3] [] [] p => C.top && !C.nar && decide (x = y) && gloB C.sc x && nmOk x && (C.xs x || C.xo x) && decide (x2 = y2) && gloB C.sc x2 && nmOk x2 && (C.xs x2 || C.xo x2) && g b && f v && f2 v2
  | _ => false
theorem qTCC_inv (C : MC) (y y2 : Str) (g : List Stmt → Bool) (f f2 : Expr → Bool) {e : Stmt} (hh : qTCC C y y2 g f f2 e = true) : ∃ b x np v rp p2 x2 np2 v2 rp2 p3 p, e = .Try b [.ExceptHandler (some (.Name x np)) none [.Return (some v) rp] p2, .ExceptHandler (some (.Name x2 np2)) none [.Return (some v2) rp2] p3] [] [] p ∧ (C.top && !C.nar && decide (x = y) && gloB C.sc x && nmOk x && (C.xs x || C.xo x) && decide (x2 = y2) && gloB C.sc x2 && nmOk x2 && (C.xs x2 || C.xo x2) && g b && f v && f2 v2) = true := by
  unfold qTCC at hh
  split at hh
  · exact ⟨_, _, _, _, _, _, _, _, _, _, _, _, rfl, hh⟩
  · cases hh
def qTAC (C : MC) (y : Str) (i : Nat) (y2 : Str) (g h : List Stmt → Bool) (f2 : Expr → Bool) (e : Stmt) : Bool := match e with
  | .Try b [.ExceptHandler (some (.Name x np)) (some n) (b0 :: su) p2, .ExceptHandler (some (.Name x2 np2)) none [.Return (some v2) rp2] p3] [] [] p => C.top && !C.nar && decide (x = y) && gloB C.sc x && nmOk x && (C.xs x || C.xo x) && slotB C i n && locB C.sc n && decide (x2 = y2) && gloB C.sc x2 && nmOk x2 && (C.xs x2 || C.xo x2) && g b && h (b0 :: su) && f2 v2
  | _ => false
theorem qTAC_inv (C : MC) (y : Str) (i : Nat) (y2 : Str) (g h : List Stmt → Bool) (f2 : Expr → Bool) {e : Stmt} (hh : qTAC C y i y2 g h f2 e = true) : ∃ b x np n b0 su p2 x2 np2 v2 rp2 p3 p, e = .Try b [.ExceptHandler (some (.Name x np)) (some n) (b0 :: su) p2, .ExceptHandler (some (.Name x2 np2)) none [.Return (some v2) rp2] p3] [] [] p ∧ (C.top && !C.nar && decide (x = y) && gloB C.sc x && nmOk x && (C.xs x || C.xo x) && slotB C i n && locB C.sc n && decide (x2 = y2) && gloB C.sc x2 && nmOk x2 && (C.xs x2 || C.xo x2) && g b && h (b0 :: su) && f2 v2) = true := by
  unfold qTAC at hh
  split at hh
  · exact ⟨_, _, _, _, _, _, _, _, _, _, _, _, _, rfl, hh⟩
  · cases hh
def qTrR (C : MC) (y y2 : Str) (i : Nat) (g : List Stmt → Bool) (e : Stmt) : Bool := match e with
  | .Try b [.ExceptHandler (some (.Name x np)) none [.Raise (some (.Call (.Name x2 q2) [.Name n q3] [] p4)) (some (.Constant .none j cp)) p3] p2] [] [] p => C.top && C.pl && !C.nar && decide (x = y) && gloB C.sc x && nmOk x && C.xs x && decide (x2 = y2) && gloB C.sc x2 && nmOk x2 && C.xo x2 && slotB C i n && visB C.sc n && nmOk n && g b
  | _ => false
theorem qTrR_inv (C : MC) (y y2 : Str) (i : Nat) (g : List Stmt → Bool) {e : Stmt} (hh : qTrR C y y2 i g e = true) : ∃ b x np x2 q2 n q3 p4 j cp p3 p2 p, e = .Try b [.ExceptHandler (some (.Name x np)) none [.Raise (some (.Call (.Name x2 q2) [.Name n q3] [] p4)) (some (.Constant .none j cp)) p3] p2] [] [] p ∧ (C.top && C.pl && !C.nar && decide (x = y) && gloB C.sc x && nmOk x && C.xs x && decide (x2 = y2) && gloB C.sc x2 && nmOk x2 && C.xo x2 && slotB C i n && visB C.sc n && nmOk n && g b) = true := by
  unfold qTrR at hh
  split at hh
  · exact ⟨_, _, _, _, _, _, _, _, _, _, _, _, _, rfl, hh⟩
  · cases hh
def qTry (C : MC) (y : Str) (g : List Stmt → Bool) (f : Expr → Bool) (e : Stmt) : Bool := match e with
  | .Try b [.ExceptHandler (some (.Name x np)) none [.Return (some v) rp] p2] [] [] p => C.top && !C.nar && decide (x = y) && gloB C.sc x && nmOk x && C.xs x && g b && f v
  | _ => false
theorem qTry_inv (C : MC) (y : Str) (g : List Stmt → Bool) (f : Expr → Bool) {e : Stmt} (hh : qTry C y g f e = true) : ∃ b x np v rp p2 p, e = .Try b [.ExceptHandler (some (.Name x np)) none [.Return (some v) rp] p2] [] [] p ∧ (C.top && !C.nar && decide (x = y) && gloB C.sc x && nmOk x && C.xs x && g b && f v) = true := by
  unfold qTry at hh
  split at hh
  · exact ⟨_, _, _, _, _, _, _, rfl, hh⟩
  · cases hh
mutual
/-- a constant, or a display of such -/
def kE : Ex → Expr → Bool
  | .int i => mInt i
  | .str s => mStr s
  | .bl b => mBl b
  | .non => mNon
  | .tup es => mTup fun xs => decide (es.length ≤ lim) && kEs es xs
  | .lst es => mLst fun xs => decide (es.length ≤ lim) && kEs es xs
  | _ => fun _ => false
def kEs : List Ex → List Expr → Bool
  | [], es => es.isEmpty
  | x :: xs, es => match es with
    | e :: r => notSt e && kE x e && kEs xs r
    | [] => false
end
mutual
def mS : St → MC → Stmt → Bool
  | .asg t x, C => qAsg C t (mE x C)
  | .par i j a b, C => qPar C i j (mE a C) (mE b C)
  | .sub o i x, C => qSub (mE o C) (mE i C) (mE x C)
  | .exp x, C => qExp (mE x C)
  | .ite c a b, C => qIte (fun t => tOk c && mE c C t) (mB a C) (mB b C)
  | .forS t it b, C => qFor C t (itT it) (mI it C) (mB b C)
  | .whl c b, C => qWhl C (fun t => tOk c && mE c C t) (mB b C)
  | .ret x, C => qRet (mE x C)
  | .retN, _ => qRetN
  | .brk, _ => qBrk
  | .pass, _ => qPass
  | .stf o y f x, C => qStf C y f (mE o C) (mE x C)
  | .any, _ => fun _ => true
  | .dst o k x, C => qSub (mE o C) (mE k C) (mE x C)
  | .rai y, C => qRai C y
  | .tryC b y a, C => qTry C y (mB b C.tr) (kE a)
  | .tryN b, C => qTrN C (mB b C.tr)
  | .tryCC b y a y2 a2, C => qTCC C y y2 (mB b C.tr) (kE a) (kE a2)
  | .tryAC b y i su y2 a2, C => qTAC C y i y2 (mB b C.tr) (mB su (C.suite i)) (kE a2)
  | .tryR b y y2 i, C => qTrR C y y2 i (mB b C.trn)
  | .raiA y a, C => qRaA C y (mE a C)
  | .tryA b y i su, C => qTrA C y i (mB b C.tr) (mB su (C.suite i))
  | .par3 i j l a b c, C => qPa3 C i j l (mE a C) (mE b C) (mE c C)
  | .try2 b y i su y2 i2 su2, C => qTr2 C y i y2 i2 (mB b C.tr) (mB su (C.suite i)) (mB su2 (C.suite i2))
def mB : List St → MC → List Stmt → Bool
  | [], _, ss => ss.isEmpty
  | x :: xs, C, ss => match ss with
    | s :: r => mS x C s && mB xs C r
    | [] => false
end
end Lt
set_option maxRecDepth 100000
set_option maxHeartbeats 2000000
namespace Lt
open PySem PySem.Spec PyProof.Rows L2 L2H
structure FnE (P : Program) (w : World) (K : PySem.W.Frag) (mg : Str → Option Value) (base : Heap) (CX : CXT) (k : Nat) (f : Addr) (fd : FuncData) (ps : List Str) (sp : Addr × Obj → Sp) : Prop where
  len : ∀ p vs H Q E, sp p vs H Q E → vs.length = ps.length
  run : ∀ (A : Around) (outer : List PySem.Env) (s : Shared) (H : Hp) (args : Args) (us : List Value) (vs : List V) (Q : VK) (E : XK) (p : Addr × Obj), RoomH k A → A.handled = some (.ref p.1) → (∃ vs, p.2.data = .fields vs) → PinOk outer H s p → Env0 P w K mg base A outer s H → BindsTo s fd args (ps.zip us) → Vals vs us → sp p vs H Q E →
    codeAny (model P w) A (.call (.ref f) args) (CR CX outer P w H s Q E) s
theorem inv_hot {X : Cx} {pins : List (Addr × Obj)} {σ : L2.St} {H : Hp} {s : Shared} (I : Inv X pins σ H s) (a : Addr) : Inv (X.suite a X.pn) pins σ H s := ⟨I.ok.suite _ _, I.os, I.bare, I.base, I.loc, I.cell, I.free, I.freeC, I.pin, I.hok, I.len⟩
theorem mark_same {A : Around} {a : Addr} (h : A.handled = some (.ref a)) : A.mark (some (.ref a)) = A := by
  cases A
  simp only [Around.mark, Option.some_or] at *
  rw [h]
theorem fn_ofE {CX : CXT} {P : Program} {w : World} {K : PySem.W.Frag} {mg : Str → Option Value} {base : Heap} {k : Nat} {f : Addr} {name qual : Str} {params : Arguments} {body : List Stmt} {scope : Scope} {dV kV doc pm cdv ct oc : Value} {an od : Option Addr}
    {osl : Array (Option Value)} {N ps : List Str} {sp : Addr × Obj → Sp} (lk : K.lookup f = some ⟨oc, od, .func (PySem.W.fnOf name qual params body scope dV kV doc pm an cdv ct), osl⟩) (hcd : PySem.W.codeIn K cdv qual = true) (S : FnScope N ps scope)
    (len : ∀ p vs H Q E, sp p vs H Q E → vs.length = ps.length)
    (hbody : ∀ (A : Around) (outer : List PySem.Env) (s : Shared) (H : Hp) (vs : List V) (Q : VK) (E : XK) (p : Addr × Obj), (∃ vs, p.2.data = .fields vs) → RoomH k (A.deeper (envOfC qual scope s.heap.objs.size f cdv)) → sp p vs H Q E →
      ∃ t, PSs ((cxOf CX P w K mg base N qual scope f cdv A outer s H E).suite p.1 [p]) body t ∧ t { nx := fun _ H' => Q .non H', rt := Q } (L2.start N vs) H) :
    FnE P w K mg base CX (k + 1) f (PySem.W.fnOf name qual params body scope dV kV doc pm an cdv ct) ps sp := by
  refine ⟨len, fun A outer s H args us vs Q E p hr hot hf hpin e0 hb r hsp => ?_⟩
  have hl := len _ _ _ _ _ hsp
  have KX : K.In s.heap := e0.mod.kin.keeps fun b o e => (e0.bs b o e).1
  have lim : s.heap.NoLimit := e0.mod.nolimit.keeps fun b o e => (e0.bs b o e).1
  have hkind : ∀ y ∈ ps.zip us, scope.names.lookup y.1 = some .local ∨ (scope.names.lookup y.1 = some .cell ∧ ((cellsFrom (s.heap.objs.size + 1) scope.names []).lookup y.1).isSome = true) := fun ⟨n, v⟩ hy => by
    rcases S.par n (List.of_mem_zip hy).1 with q | q
    · exact .inl q
    · exact .inr ⟨q, PySem.W.cellsFrom_some _ _ _ (.inl q)⟩
  refine codeAny_call_function hr.depth (KX _ _ lk) rfl S.co S.gen rfl (PySem.W.codeRec_of KX hcd) (hb _ _ _ _ ?_)
  refine wpAny_newFunctionEnv_cells S.kind hkind fun env he s1 x => ?_
  subst he
  refine ⟨lim.keeps x.toInCall.keep, codeAny_func ?_⟩
  obtain ⟨t, ht, hq⟩ := hbody A outer s H vs Q E p hf (hr.deeper _) hsp
  have I0 : Inv (cxH CX P w K mg base N qual scope f cdv A outer s H E p) [] (L2.start N vs) H s1 := inv_startH S hpin e0 hl r x
  have I : Inv ((cxOf CX P w K mg base N qual scope f cdv A outer s H E).suite p.1 [p]) [] (L2.start N vs) H s1 := inv_hot I0 p.1
  have eA : (A.deeper (envOfC qual scope s.heap.objs.size f cdv)).mark (some (.ref p.1)) = A.deeper (envOfC qual scope s.heap.objs.size f cdv) := mark_same hot
  have run := ht.run [] s1 (L2.start N vs) H _ I hq
  dsimp only [Cx.suite] at run
  have eA2 : (cxOf CX P w K mg base N qual scope f cdv A outer s H E).A.mark (some (.ref p.1)) = A.deeper (envOfC qual scope s.heap.objs.size f cdv) := eA
  rw [eA2] at run
  refine wpAny_mono run (fun fl s' hs => ?_) fun e s' hs => hs.elim
  cases fl with
  | ret u =>
    obtain ⟨v, σ', H', J, rv, q⟩ := hs
    exact ⟨v, H', J.os, J.bare, J.base, J.hok, rv, q⟩
  | next =>
    obtain ⟨σ', H', J, q⟩ := hs
    exact ⟨V.non, H', J.os, J.bare, J.base, J.hok, rfl, q⟩
  | brk =>
    obtain ⟨_, _, _, q⟩ := hs
    exact False.elim q
  | cont =>
    obtain ⟨_, _, _, q⟩ := hs
    exact False.elim q
section
variable {X : Cx} {CX : CXT} {k : Nat} {f : Addr} {fd : FuncData} {ps : List Str} {sp : Addr × Obj → Sp} {E : L2.St → XK} {x : Str} {q pos : Pos} {e : Expr} {es : List Expr} {t : TA} {p : Addr × Obj}
theorem run_fnE {pins : List (Addr × Obj)} {σ : L2.St} {H : Hp} {s : Shared} {Q : VK} {us : List Value} {vs : List V} (F : FnE X.prog X.w X.K X.mg X.base CX k f fd ps sp) (hr : RoomH k X.A) (hh : X.A.handled = some (.ref p.1)) (hf : ∃ vs, p.2.data = .fields vs) (hp : p ∈ X.pn) (hb : Binds X.K fd ps []) (hx : PassesAt CX X σ (E σ))
    (I : Inv X pins σ H s) (r : Vals vs us) (h : sp p vs H Q (E σ)) : wpAny (model X.prog X.w) X.A (call (.ref f) us) (EP X pins σ Q) X.xe s := by
  have hl : us.length = ps.length := by rw [← r.length]; exact F.len _ _ _ _ _ h
  have b := hb s us I.kIn (by rw [List.append_nil]; exact hl)
  rw [List.append_nil] at b
  have P1 := I.pin p (List.mem_append_left _ hp)
  have hpin : PinOk X.stack H s p := ⟨P1.1, P1.2.1, fun hm => (List.mem_cons.mp (I.stkSub p.1 hm)).elim P1.2.2.1 P1.2.2.2.1, P1.2.2.2.2⟩
  refine wpAny_call (codeAny_mono (F.run X.A X.stack s H ⟨us, []⟩ us vs Q (E σ) p hr hh hf hpin I.env0 b r h) fun r s' hq => ?_)
  cases r with
  | error e => exact hx pins H s e s' I hq
  | ok fl =>
    cases fl with
    | ret u => exact I.after hq
    | next => exact False.elim hq
    | brk => exact False.elim hq
    | cont => exact False.elim hq
theorem pe_callE (F : FnE X.prog X.w X.K X.mg X.base CX k f fd ps sp) (hr : RoomH k X.A) (hh : X.A.handled = some (.ref p.1)) (hf : ∃ vs, p.2.data = .fields vs) (hp : p ∈ X.pn) (hg : Gl X x) (hm : X.mg x = some (.ref f)) (hk : PySem.W.keepIn X.K (.ref f) = true) (hb : Binds X.K fd ps []) (hx : ∀ σ, PassesAt CX X σ (E σ))
    (ha : PA X (e :: es) t) (hdb : (x == ("__debug__" : Str)) = false := by decide) (he : starEach (e :: es) X.env = (false, eval e X.env) :: starEach es X.env := by rfl) (hpl : (backTo pos (starEach es X.env)).any (·.1) = false := by rfl) :
    PE X (.Call (.Name x q) (e :: es) [] pos) (tCallS (sp p) E t) := by
  refine ⟨fun pins s σ H Q I h => ?_⟩
  refine wpAny_Call_Name_kw (ld_glob I hg hm ?_ hdb)
  refine PySem.W.callWith_K (h₀ := X.base) I.ok.mod.kin hk (thn (ha.run pos pins s σ H _ I h) fun us s1 ⟨vs, H1, I1, r, q⟩ => ⟨I1.kIn, ?_⟩) he hpl
  exact run_fnE F hr hh hf hp hb (hx σ) I1 r q
end
end Lt
set_option maxHeartbeats 1000000
namespace Lt
open PySem PySem.Spec PyProof.Rows L2
def bltN : List Str := ["abs", "len", "isinstance", "range", "int", "bool", "str", "tuple", "list", "sorted", "max", "min", "enumerate", "zip", "reversed"]
def CXm (n : Bool) (P : Program) (w : World) : CXT := if n = true then L2N.CX P w else L2.CX P w
def TakesM (n : Bool) (X : Cx) (W : WX) : Prop := if n = true then L2N.Takes X W else L2.Takes X W
theorem sky_imp {B h : Heap} {l : List PySem.Env} {a L : Addr} {Z Z' : Obj → Prop} (z : ∀ o, Z o → Z' o) (x : Sky B l a Z L h) : Sky B l a Z' L h := by
  rcases x with ⟨a1, a2, a3, oe, vs, e1, e2, e3⟩ | x | ⟨a1, a2, a3, x⟩
  · exact .inl ⟨a1, a2, a3, oe, vs, e1, z _ e2, e3⟩
  · exact .inr (.inl (L2H.flyingZ_imp z x))
  · exact .inr (.inr ⟨a1, a2, a3, L2H.tracedZ_imp z x⟩)
theorem takes_n {X : Cx} {W : WX} (h : L2.Takes X W) : L2N.Takes X W := fun u s' ⟨a, B, sI, pins, σ, H, cls, d, e, I, nb, up, sky, na, os, ag, w⟩ =>
  h u s' ⟨a, B, sI, pins, σ, H, cls, d, e, I, nb, up, sky_imp (fun _ z => z.zc) sky, na, os, ag, w⟩
theorem TakesM.n {X : Cx} {W : WX} {n : Bool} (h : TakesM n X W) : L2N.Takes X W := by
  unfold TakesM at h
  split at h
  · exact h
  · exact takes_n h
theorem TakesM.w {X : Cx} {W : WX} (h : TakesM false X W) : L2.Takes X W := h
theorem takesM0 {X : Cx} {n : Bool} : TakesM n X (fun _ _ _ _ => False) := by
  unfold TakesM
  split
  · exact takes_n takes0
  · exact takes0
theorem passM {X : Cx} {W : WX} {n m : Bool} (h : TakesM n X W) (hm : (!n || m) = true) (σ : L2.St) : PassesAt (CXm m X.prog X.w) X σ (WE W σ) := by
  cases m with
  | true => exact L2N.passAt h.n σ
  | false =>
    cases n with
    | true => cases hm
    | false => exact passAt h.w σ
/-- a def that may be called with n written arguments -/
def CallOk (nr : Bool) (X : Cx) (CA : Str → Addr) (G : Cxt) (f : Str) (n : Nat) : Prop := ∃ (a : Addr) (fd : FuncData) (ps : List Str) (ds : List Value) (dvs : List V) (k : Nat) (sp : Sp),
  FnOk X.prog X.w X.K X.mg X.base (CXm nr X.prog X.w) k a fd ps sp ∧ Room k X.A ∧ X.mg f = some (.ref a) ∧ PySem.W.keepIn X.K (.ref a) = true ∧ Binds X.K fd ps ds ∧ Vals dvs ds ∧
  ∀ (vs : List V) (xs : List D) (S : Store) (L : List Addr) (H : Hp) (σ : Sl) (Q : VK) (E : XK), Good X.K CA S L H → RelDs X.K L H xs vs → xs.length = n →
    Aft X.K CA (fun c d _ H' => E c d H') σ L H (G.cl f xs S) (fun d _ L' H' => ∀ v, RelD X.K L' H' d v → Q v H') → sp (vs ++ dvs) H Q E
/-- a def whose last parameter is written by its name y, behind n others -/
def CallKOk (X : Cx) (CA : Str → Addr) (G : Cxt) (f : Str) (n : Nat) (y : Str) : Prop := ∃ (a : Addr) (fd : FuncData) (ps : List Str) (k : Nat) (sp : Sp),
  FnOk X.prog X.w X.K X.mg X.base (L2.CX X.prog X.w) k a fd ps sp ∧ Room k X.A ∧ X.mg f = some (.ref a) ∧ PySem.W.keepIn X.K (.ref a) = true ∧ KBn X.K fd ps n [y] (fun us ws => us ++ ws) (fun vs zs => vs ++ zs) ∧
  ∀ (vs : List V) (xs : List D) (S : Store) (L : List Addr) (H : Hp) (σ : Sl) (Q : VK) (E : XK), Good X.K CA S L H → RelDs X.K L H xs vs → xs.length = n + 1 →
    Aft X.K CA (fun c d _ H' => E c d H') σ L H (G.cl f xs S) (fun d _ L' H' => ∀ v, RelD X.K L' H' d v → Q v H') → sp vs H Q E
/-- a method that may be called with n written arguments -/
def MthOk (X : Cx) (CA : Str → Addr) (G : Cxt) (C m key : Str) (n : Nat) : Prop := ∃ (a : Addr) (fd : FuncData) (ps : List Str) (ds : List Value) (dvs : List V) (k : Nat) (sp : Sp),
  Cls X.K (CA C) ∧ Meth X.K (CA C) m a ∧ FnOk X.prog X.w X.K X.mg X.base (L2.CX X.prog X.w) k a fd ps sp ∧ Room k X.A ∧ Binds X.K fd ps ds ∧ Vals dvs ds ∧
  ∀ (vs : List V) (xs : List D) (S : Store) (L : List Addr) (H : Hp) (σ : Sl) (Q : VK) (E : XK), Good X.K CA S L H → RelDs X.K L H xs vs → xs.length = n + 1 →
    Aft X.K CA (fun c d _ H' => E c d H') σ L H (G.cl key xs S) (fun d _ L' H' => ∀ v, RelD X.K L' H' d v → Q v H') → sp (vs ++ dvs) H Q E
def MakOk (X : Cx) (CA : Str → Addr) (G : Cxt) (C key : Str) (n : Nat) : Prop := ∃ (a : Addr) (fd : FuncData) (ps : List Str) (k : Nat) (sp : Sp),
  Mk X.K (CA C) a ∧ X.mg C = some (.ref (CA C)) ∧ FnOk X.prog X.w X.K X.mg X.base (L2.CX X.prog X.w) k a fd ps sp ∧ Room (k + 1) X.A ∧ Binds X.K fd ps [] ∧
  ∀ (vs : List V) (xs : List D) (S : Store) (L : List Addr) (H : Hp) (σ : Sl) (Q : VK) (E : XK), Good X.K CA S L H → RelDs X.K L H xs vs → xs.length = n + 1 →
    Aft X.K CA (fun c d _ H' => E c d H') σ L H (G.cl key xs S) (fun d _ L' H' => ∀ v, RelD X.K L' H' d v → Q v H') → sp vs H Q E
/-- what raises an error with a field: an own __init__ that is walked -/
def XoOk (X : Cx) (CA : Str → Addr) (x : Str) : Prop := ∃ (fI : Addr) (k : Nat) (fd : FuncData) (ps : List Str) (sp : Sp),
  OexC X.K (CA x) ∧ PySem.W.findIn X.K (.ref (CA x)) "__init__" = some (some (.ref fI)) ∧ PySem.W.typeIn X.K (.ref fI) = some (.type "function") ∧
  FnOk X.prog X.w X.K X.mg X.base (L2.CX X.prog X.w) k fI fd ps sp ∧ Room (k + 1) X.A ∧ Binds X.K fd ps [] ∧ X.mg x = some (.ref (CA x)) ∧
  ∀ (a : Addr) (v : V) (H : Hp) (Q : VK) (E : XK), H a = some (exo a (CA x) none) → (∀ dx H', H dx = none → dx ≠ a → H' = upd (upd H dx (exd dx [("at", v)])) a (exo a (CA x) (some dx)) → Q .non H') → sp [.ref a, v] H Q E
/-- the same where an error is held -/
def XoHot (X : Cx) (CA : Str → Addr) (x : Str) : Prop := ∃ (fI : Addr) (k : Nat) (fd : FuncData) (ps : List Str) (sp : Sp),
  OexC X.K (CA x) ∧ PySem.W.findIn X.K (.ref (CA x)) "__init__" = some (some (.ref fI)) ∧ PySem.W.typeIn X.K (.ref fI) = some (.type "function") ∧
  L2H.FnH X.prog X.w X.K X.mg X.base (L2.CX X.prog X.w) k fI fd ps sp ∧ L2H.RoomH (k + 1) X.A ∧ Binds X.K fd ps [] ∧ X.mg x = some (.ref (CA x)) ∧
  ∀ (a : Addr) (v : V) (H : Hp) (Q : VK) (E : XK), H a = some (exo a (CA x) none) → (∀ dx H', H dx = none → dx ≠ a → H' = upd (upd H dx (exd dx [("at", v)])) a (exo a (CA x) (some dx)) → Q .non H') → sp [.ref a, v] H Q E
/-- a written dict of texts -/
def FrdOk (X : Cx) (x : Str) (l : List (Str × D)) : Prop := ∃ (a : Addr) (es : Array DictEntry) (n : Nat), X.mg x = some (.ref a) ∧ X.K.lookup a = some ⟨.type "dict", none, .dict es n, #[]⟩ ∧ PySem.W.KeysLit X.w.params es.toList ∧ (a == sysModules) = false ∧
  ∀ z : Str, (l.lookup z = none → PySem.W.nsIn X.K a z = some none) ∧ ∀ d, l.lookup z = some d → ∃ u v, PySem.W.nsIn X.K a z = some (some u) ∧ RelV v u ∧ ∀ L H, RelD X.K L H d v
/-- the class that isinstance asks for -/
def ClsV (X : Cx) (CA : Str → Addr) (y : Str) (cv : Value) : Prop := (X.mg y = some (.ref (CA y)) ∧ cv = .ref (CA y)) ∨ (X.mg y = none ∧ y = ("ValueError" : Str) ∧ cv = .type "ValueError")
/-- a def that looks at a held error -/
def XclOk (X : Cx) (CA : Str → Addr) (G : Cxt) (f : Str) : Prop := ∃ (af : Addr) (fd : FuncData) (ps : List Str) (k : Nat) (sp : Addr × Obj → Sp),
  FnE X.prog X.w X.K X.mg X.base (L2.CX X.prog X.w) k af fd ps sp ∧ L2H.RoomH k X.A ∧ X.mg f = some (.ref af) ∧ PySem.W.keepIn X.K (.ref af) = true ∧ Binds X.K fd ps [] ∧
  ∀ (a : Addr) (oe : Obj) (c : Exc) (o : Option (Addr × D)) (S : Store) (L : List Addr) (H : Hp) (Q : VK) (E : XK) (σ : Sl) (W : WX), Zc (.ref (CA c.cls)) (o.map (·.1)) oe → c.at_ = o.map (·.2) → Good X.K CA S L H → (∀ x d, o = some (x, d) → ∃ v, H x = some (.xd [("at", v)]) ∧ RelD X.K L H d v) →
    Aft X.K CA W σ L H (G.clx f c S) (fun d _ L' H' => ∀ v, RelD X.K L' H' d v → Q v H') → sp (a, oe) [.ref a] H Q E
structure Ok (X : Cx) (CA : Str → Addr) (G : Cxp) (W : WX) (C : MC) : Prop where
  cal : C.hs = none → X.calm = true
  nm : X.N = C.N
  nd : C.N.Nodup
  sc : X.env.scope = C.sc
  kind : C.sc.kind = .function
  tk : TakesM C.nar X W
  un : X.A.units + 100 < cLine
  pas : C.hs = none → PassesOwn (model X.prog X.w) X.A X.env X.xe
  free : ∀ x ∈ bltN, X.mg x = none
  fn : C.top = true → ∀ x, X.fn x = true
  glo : ∀ x d, G.glo x = some d → ∃ v u, X.mg x = some u ∧ RelV v u ∧ ∀ L H, RelD X.K L H d v
  call : ∀ f n, C.fs f n = true → CallOk (C.nr f) X CA G f n
  callK : ∀ f n y, C.fk f n y = true → CallKOk X CA G f n y
  fl : ∀ y f, C.fl y f = true → Cls X.K (CA y) ∧ NoAttr X.K (CA y) f
  ms : ∀ y m key n, C.ms y m key n = true → MthOk X CA G y m key n
  mks : ∀ y key n, C.mks y key n = true → MakOk X CA G y key n
  xc : ∀ x, C.xs x = true → X.mg x = some (.ref (CA x)) ∧ PySem.W.excIn X.K (CA x) He.veBase "ValueError.__new__" = true ∧ PySem.W.keepIn X.K (.ref (CA x)) = true ∧ Raises X (.ref (CA x))
  sb : ∀ x y b, G.sub x y = some b → PySem.W.exmOne X.K (.ref (CA x)) (.ref (CA y)) = some b
  fr : C.top = true → X.env.frame = some X.env.locals
  stk : C.top = true → X.stack = X.env :: X.outer
  xo : ∀ x, C.xo x = true → XoOk X CA x
  xoh : ∀ x, C.xo x = true → XoHot X CA x
  xi : ∀ x y b, G.isc x y = some b → ExcC X.K (CA x) ∧ ∃ cv, ClsV X CA y cv ∧ PySem.W.kitOne X.K (.ref (CA x)) cv = some b
  xf : ∀ x y b, G.isc x y = some b → XfC X.K (CA x) ∧ PySem.W.findIn X.K (.ref (CA x)) "at" = some none
  tc : C.top = true → C.hs = none
  xsc : ∀ x, C.xs x = true → C.hs = none
  xoc : ∀ x, C.xo x = true → C.hs = none
  hot : C.hs = G.pin.map (·.1)
  xcq : ∀ f, C.xq f = true → XclOk X CA G f
  gdo : ∀ x, C.gd x = true → ∃ l, G.frd x = some l ∧ FrdOk X x l
  pah : C.pl = true → ∀ hd : Option Value, PassesOwnAt (model X.prog X.w) (X.A.mark hd) X.A X.env X.xe
  hotx : ∀ i a o, G.pin = some (i, a, o) → ∃ (X0 : Cx) (oe : Obj) (pn : List (Addr × Obj)) (c : Exc), X = X0.suite a ((a, oe) :: pn) ∧ Zc (.ref (CA c.cls)) (o.map (·.1)) oe ∧ (∃ vs, oe.data = .fields vs) ∧ G.exc = some c ∧ c.at_ = o.map (·.2)
theorem Ok.tkw {X : Cx} {CA : Str → Addr} {G : Cxp} {W : WX} {C : MC} (ok : Ok X CA G W C) (h : (!C.nar) = true) : L2.Takes X W := by
  have := ok.tk
  rw [show C.nar = false by simpa using h] at this
  exact this
theorem Ok.calm {X : Cx} {CA : Str → Addr} {G : Cxp} {W : WX} {C : MC} (ok : Ok X CA G W C) (h : cold C = true) : X.calm = true := ok.cal (by unfold cold at h; exact Option.isNone_iff_eq_none.mp h)
theorem Ok.pass {X : Cx} {CA : Str → Addr} {G : Cxp} {W : WX} {C : MC} (ok : Ok X CA G W C) (h : cold C = true) : PassesOwn (model X.prog X.w) X.A X.env X.xe := ok.pas (by unfold cold at h; exact Option.isNone_iff_eq_none.mp h)
theorem Ok.nopin {X : Cx} {CA : Str → Addr} {G : Cxp} {W : WX} {C : MC} (ok : Ok X CA G W C) (h : cold C = true) : G.pin = none := by
  have := ok.hot
  unfold cold at h
  rw [Option.isNone_iff_eq_none.mp h] at this
  exact Option.map_eq_none_iff.mp this.symm
theorem Ok.hsne {X : Cx} {CA : Str → Addr} {G : Cxp} {W : WX} {C : MC} (ok : Ok X CA G W C) {i : Nat} (h : hsNe C i = true) : ∀ j a o, G.pin = some (j, a, o) → j ≠ i := by
  intro j a o e
  have := ok.hot
  rw [e] at this
  simp only [Option.map_some] at this
  unfold hsNe at h
  rw [this] at h
  simpa using h
theorem Ok.cold_ne {X : Cx} {CA : Str → Addr} {G : Cxp} {W : WX} {C : MC} (ok : Ok X CA G W C) (h : cold C = true) (i : Nat) : ∀ j a o, G.pin = some (j, a, o) → j ≠ i := by
  intro j a o e
  rw [ok.nopin h] at e; cases e
section
variable {X : Cx} {CA : Str → Addr} {G : Cxp} {W : WX} {C : MC} {S S' : Store} {L L1 M2 L' : List Addr} {H H1 H2 H' : Hp} {σ : Sl} {e : Expr}
theorem PE.by_ {t t0 : TE} (h : PE X e t0) (m : ∀ σ H Q, t σ H Q → t0 σ H Q) : PE X e t := ⟨fun pins s σ H Q I q => h.run pins s σ H Q I (m σ H Q q)⟩
theorem PT.by_ {t t0 : TT} (h : PT X e t0) (m : ∀ σ H Q, t σ H Q → t0 σ H Q) : PT X e t := ⟨fun pins s σ H Q I q => h.run pins s σ H Q I (m σ H Q q)⟩
theorem PA.by_ {es : List Expr} {t t0 : TA} (h : PA X es t0) (m : ∀ σ H Q, t σ H Q → t0 σ H Q) : PA X es t := ⟨fun pos pins s σ H Q I q => h.run pos pins s σ H Q I (m σ H Q q)⟩
theorem PI.by_ {tg : Expr} {t t0 : TI} (h : PI X tg e t0) (m : ∀ σ H Q, t σ H Q → t0 σ H Q) : PI X tg e t := ⟨fun pins s σ H Q I q => h.run pins s σ H Q I (m σ H Q q)⟩
theorem PG.by_ {t t0 : TG} (h : PG X e t0) (m : ∀ v σ H Q, t v σ H Q → t0 v σ H Q) : PG X e t := ⟨fun pins s σ H v u Q I r q => h.run pins s σ H v u Q I r (m v σ H Q q)⟩
theorem PS.by_ {st : Stmt} {t t0 : TS} (h : PS X st t0) (m : ∀ Z σ H, t Z σ H → t0 Z σ H) : PS X st t := ⟨fun pins s σ H D I q => h.run pins s σ H D I (m D σ H q)⟩
theorem PSs.by_ {st : List Stmt} {t t0 : TS} (h : PSs X st t0) (m : ∀ Z σ H, t Z σ H → t0 Z σ H) : PSs X st t := ⟨fun pins s σ H D I q => h.run pins s σ H D I (m D σ H q)⟩
theorem ba {a b : Bool} (h : (a && b) = true) : a = true ∧ b = true := Bool.and_eq_true_iff.mp h
/-- one expression, then what its value brings -/
theorem tE.seq {a : Ex} {env : Env} (g : Good X.K CA S L H) (er : EnvR X.K G.pin L H env σ) {β : Type} {k : D → Store → R β} {P : β → Store → List Addr → Hp → Prop} {Q : VK}
    (h : Aft X.K CA W σ L H ((ev G a env S).bind k) P)
    (m : ∀ d S1 L1 H1 v, Step L H L1 H1 → Good X.K CA S1 L1 H1 → EnvR X.K G.pin L1 H1 env σ → RelD X.K L1 H1 d v → Aft X.K CA W σ L1 H1 (k d S1) P → Q v H1) : tE X.K CA G W a σ H Q :=
  ⟨S, L, env, g, er, h.bind.mono fun d S1 L1 H1 ⟨st, g1, h1⟩ v r => m d S1 L1 H1 v st g1 (er.step g st) r h1⟩
theorem tEs.seq {a : List Ex} {env : Env} (g : Good X.K CA S L H) (er : EnvR X.K G.pin L H env σ) {β : Type} {k : List D → Store → R β} {P : β → Store → List Addr → Hp → Prop} {Q : List V → Hp → Prop}
    (h : Aft X.K CA W σ L H ((evs G a env S).bind k) P)
    (m : ∀ d S1 L1 H1 v, Step L H L1 H1 → Good X.K CA S1 L1 H1 → EnvR X.K G.pin L1 H1 env σ → RelDs X.K L1 H1 d v → Aft X.K CA W σ L1 H1 (k d S1) P → Q v H1) : tEs X.K CA G W a σ H Q :=
  ⟨S, L, env, g, er, h.bind.mono fun d S1 L1 H1 ⟨st, g1, h1⟩ v r => m d S1 L1 H1 v st g1 (er.step g st) r h1⟩
theorem Aft.now (g : Good X.K CA S L H) {d : D} {Q : VK} (h : Aft X.K CA W σ L H (.ok d S) fun d _ L' H' => ∀ v, RelD X.K L' H' d v → Q v H') {v : V} (r : RelD X.K L H d v) : Q v H := h L H Step.refl g v r
/-- a new list -/
theorem Aft.laid (g : Good X.K CA S L H) {c : Cell} {o : HO} {Q : VK} (h : Aft X.K CA W σ L H (alloc c S) fun d _ L' H' => ∀ v, RelD X.K L' H' d v → Q v H') {p : Addr} (hp : H p = none)
    (hc : CellR X.K CA (L ++ [p]) (upd H p o) c p) : Q (.ref p) (upd H p o) := by
  obtain ⟨st, g1⟩ := g.alloc hp hc
  refine h _ _ st g1 (.ref p) ?_
  simp only [RelD]
  exact ⟨p, by rw [← g.len, List.getElem?_append_right (Nat.le_refl _)]; simp, rfl⟩
theorem Aft.lst (g : Good X.K CA S L H) {xs : List D} {vs : List V} {Q : VK} (h : Aft X.K CA W σ L H (alloc (.lst xs) S) fun d _ L' H' => ∀ v, RelD X.K L' H' d v → Q v H') (r : RelDs X.K L H xs vs) {p : Addr} (hp : H p = none) :
    Q (.ref p) (upd H p (.lst vs)) := by
  refine Aft.laid g h hp ⟨vs, upd_same, RelDs.mon ⟨fun n a e => ?_, fun a o e _ => ?_⟩ _ _ r⟩
  · rw [List.getElem?_append_left (List.getElem?_eq_some_iff.mp e).1]; exact e
  · rw [upd_ne (ne_of_none e hp)]; exact e
theorem Aft.set (g : Good X.K CA S L H) {n : Nat} {ys : List D} {vs ws : List V} {a : Addr} {d : D} {Q : VK} (h : Aft X.K CA W σ L H (.ok d (S.set n (.lst ys))) fun d _ L' H' => ∀ v, RelD X.K L' H' d v → Q v H')
    (hn : L[n]? = some a) (e : H a = some (.lst vs)) (r : RelDs X.K L H ys ws) {v : V} (rd : ∀ H', RelD X.K L H' d v) : Q v (upd H a (.lst ws)) := by
  have m : Mon L H L (upd H a (.lst ws)) := ⟨fun _ _ h => h, fun b o eb pb => by
    rw [upd_ne (by intro z; subst z; rw [e] at eb; cases eb; exact pb)]; exact eb⟩
  obtain ⟨st, g1⟩ := g.write (c := .lst ys) (o := .lst ws) hn ⟨ws, upd_same, RelDs.mon m _ _ r⟩
  exact h _ _ st g1 v (rd _)
theorem getL_rel (g : Good X.K CA S L H) {n : Nat} {xs : List D} (h : getL S n = some xs) {a : Addr} (hn : L[n]? = some a) : ∃ vs, H a = some (.lst vs) ∧ RelDs X.K L H xs vs := by
  unfold getL at h
  split at h
  · rename_i ys e
    cases h
    exact g.cell n _ a e hn
  · cases h
theorem lstOf_rel (g : Good X.K CA S L H) {d : D} {xs : List D} (h : lstOf S d = some xs) {v : V} (r : RelD X.K L H d v) : ∃ a vs, v = .ref a ∧ SqL X.K H a vs ∧ RelDs X.K L H xs vs := by
  unfold lstOf at h
  split at h
  · simp only [RelD] at r
    obtain ⟨a, hn, rfl⟩ := r
    obtain ⟨vs, e, q⟩ := getL_rel g h hn
    exact ⟨a, vs, rfl, SqL.of e, q⟩
  · cases h
    simp only [RelD] at r
    obtain ⟨a, vs, rfl, e, q⟩ := r
    exact ⟨a, vs, rfl, e.sq, q⟩
  · cases h
theorem seqOf_rel (g : Good X.K CA S L H) {d : D} {xs : List D} (h : seqOf S d = some xs) {v : V} (r : RelD X.K L H d v) : ∃ a vs, v = .ref a ∧ (SqL X.K H a vs ∨ SqT X.K H a vs) ∧ RelDs X.K L H xs vs := by
  unfold seqOf at h
  split at h
  · cases h
    simp only [RelD] at r
    obtain ⟨a, vs, rfl, e, q⟩ := r
    exact ⟨a, vs, rfl, .inr (SqT.of e), q⟩
  · cases h
    simp only [RelD] at r
    obtain ⟨a, vs, rfl, e, q⟩ := r
    exact ⟨a, vs, rfl, .inl e.sq, q⟩
  · cases h
    simp only [RelD] at r
    obtain ⟨a, vs, rfl, e, q⟩ := r
    exact ⟨a, vs, rfl, .inr e.sq, q⟩
  · simp only [RelD] at r
    obtain ⟨a, hn, rfl⟩ := r
    obtain ⟨vs, e, q⟩ := getL_rel g h hn
    exact ⟨a, vs, rfl, .inl (SqL.of e), q⟩
  · cases h
theorem small {n : Nat} (h : n ≤ lim) : n < sizeLine := Nat.lt_of_le_of_lt h (by rw [sizeLine_eq]; decide)
theorem op_fdivA : OpR X (binaryOp .FloorDiv) (rI (fun _ j => j ≠ 0 ∧ j.natAbs.log2 < 9000) fun i j => .int (i.fdiv j)) := opI fun _ _ _ _ _ _ _ hc q => floordiv_int hc.1 q (.inl (PyProof.noPylong_of_log2 hc.2))
theorem mul_ok {i j : Int} (h : Sm i j) : CMulW i j := h
/-- the reading of a two-place operation by the evaluator's -/
def rBin (K : PySem.W.Frag) (CA : Str → Addr) (W : WX) (σ : Sl) (f : D → D → Store → R D) : R2 := fun vx vy H Q => ∃ S L x y, Good K CA S L H ∧ RelD K L H x vx ∧ RelD K L H y vy ∧ Aft K CA W σ L H (f x y S) fun d _ L' H' => ∀ v, RelD K L' H' d v → Q v H'
theorem OpR.by_ {f : Value → Value → Sem Value} {r r0 : R2} (h : OpR X f r0) (m : ∀ x y H Q, r x y H Q → r0 x y H Q) : OpR X f r := fun pins s σ H x y v u Q I rx ry q => h pins s σ H x y v u Q I rx ry (m _ _ _ _ q)
theorem bin_ok {op : Op} {o : Operator} (h : opB op o = true) (σ : Sl) : OpR X (binaryOp o) (rBin X.K CA W σ (binop op)) := by
  cases op <;> cases o <;> try (exact absurd h Bool.false_ne_true)
  · -- add
    refine OpR.by_ (OpR.or op_add (OpR.or op_add_str (OpR.or op_cat op_catA))) ?_
    rintro vx vy H Q ⟨S, L, x, y, g, rx, ry, q⟩
    unfold binop at q
    split at q <;> try (first | exact q.elim | contradiction)
    · simp only [RelD] at rx ry; subst rx ry
      exact .inl ⟨_, _, rfl, rfl, Aft.now g q (by simp [RelD])⟩
    · simp only [RelD] at rx ry; subst rx ry
      split at q
      · rename_i hz
        exact .inr (.inl ⟨_, _, rfl, rfl, Nat.le_of_lt (small hz), Aft.now g q (by simp [RelD])⟩)
      · exact q.elim
    · simp only [RelD] at rx ry
      obtain ⟨a, ha, rfl⟩ := rx
      obtain ⟨b, hb, rfl⟩ := ry
      split at q
      · rename_i xs ys hx hy
        split at q
        · rename_i hz
          obtain ⟨vs, e1, r1⟩ := getL_rel g hx ha
          obtain ⟨ws, e2, r2⟩ := getL_rel g hy hb
          refine .inr (.inr (.inl ⟨a, b, vs, ws, rfl, rfl, e1, e2, ?_, fun p hp => Aft.lst g q (r1.append r2) hp⟩))
          rw [r1.length, r2.length]; exact Nat.le_of_lt (small hz)
        · exact q.elim
      · exact q.elim
    · rename_i xs ys _
      simp only [RelD] at rx ry
      obtain ⟨a, vs, rfl, ha, r1⟩ := rx
      obtain ⟨b, ws, rfl, hb, r2⟩ := ry
      split at q
      · rename_i hz
        refine .inr (.inr (.inr ⟨a, b, vs, ws, rfl, rfl, SqT.of ha, SqT.of hb, ?_, fun z => ?_, fun _ z => ?_, fun _ _ p hp => ?_⟩))
        · rw [r1.length, r2.length]; exact Nat.le_of_lt (small hz)
        · subst z
          refine Aft.now g q ?_
          have e : xs = [] := by have := r1.length; cases xs with | nil => rfl | cons _ _ => simp at this
          subst e
          simp only [RelD, List.nil_append]
          exact ⟨b, ws, rfl, hb, r2⟩
        · subst z
          refine Aft.now g q ?_
          have e : ys = [] := by have := r2.length; cases ys with | nil => rfl | cons _ _ => simp at this
          subst e
          simp only [RelD, List.append_nil]
          exact ⟨a, vs, rfl, ha, r1⟩
        · obtain ⟨st2, g2⟩ := g.side (o := .tup (vs ++ ws)) hp
          refine q _ _ st2 g2 (.ref p) ?_
          simp only [RelD]
          exact ⟨p, _, rfl, upd_same, (r1.append r2).step g st2⟩
      · exact q.elim
  · -- sub
    refine OpR.by_ op_sub ?_
    rintro vx vy H Q ⟨S, L, x, y, g, rx, ry, q⟩
    unfold binop at q
    split at q <;> try (first | exact q.elim | contradiction)
    simp only [RelD] at rx ry; subst rx ry
    exact ⟨_, _, rfl, rfl, Aft.now g q (by simp [RelD])⟩
  · -- mul
    refine OpR.by_ (OpR.or op_mulW op_rep) ?_
    rintro vx vy H Q ⟨S, L, x, y, g, rx, ry, q⟩
    unfold binop at q
    split at q <;> try (first | exact q.elim | contradiction)
    · simp only [RelD] at rx ry; subst rx ry
      split at q
      · rename_i hz
        exact .inl ⟨_, _, rfl, rfl, mul_ok hz, Aft.now g q (by simp [RelD])⟩
      · exact q.elim
    · simp only [RelD] at rx ry
      obtain ⟨a, ha, rfl⟩ := rx
      subst ry
      split at q
      · rename_i xs hx
        split at q
        · rename_i hz
          obtain ⟨vs, e1, r1⟩ := getL_rel g hx ha
          refine .inr ⟨a, _, vs, rfl, rfl, e1, by omega, by omega, ?_, fun p hp => Aft.lst g q (r1.rep _) hp⟩
          rw [r1.length]; exact Nat.le_of_lt (small hz.2.2)
        · exact q.elim
      · exact q.elim
  · -- fdiv
    refine OpR.by_ op_fdivA ?_
    rintro vx vy H Q ⟨S, L, x, y, g, rx, ry, q⟩
    unfold binop at q
    split at q <;> try (first | exact q.elim | contradiction)
    simp only [RelD] at rx ry; subst rx ry
    split at q
    · rename_i hz
      exact ⟨_, _, rfl, rfl, hz, Aft.now g q (by simp [RelD])⟩
    · exact q.elim
  · -- mod
    refine OpR.by_ op_modN ?_
    rintro vx vy H Q ⟨S, L, x, y, g, rx, ry, q⟩
    unfold binop at q
    split at q <;> try (first | exact q.elim | contradiction)
    simp only [RelD] at rx ry; subst rx ry
    split at q
    · rename_i hz
      exact ⟨_, _, rfl, rfl, hz, Aft.now g q (by simp [RelD])⟩
    · exact q.elim
  · -- pow
    refine OpR.by_ op_pow ?_
    rintro vx vy H Q ⟨S, L, x, y, g, rx, ry, q⟩
    unfold binop at q
    split at q <;> try (first | exact q.elim | contradiction)
    simp only [RelD] at rx ry; subst rx ry
    split at q
    · rename_i hz
      exact ⟨_, _, rfl, rfl, hz, Aft.now g q (by simp [RelD])⟩
    · exact q.elim
end
end Lt
set_option maxHeartbeats 1000000
namespace Lt
open PySem PySem.Spec PyProof.Rows L2
section
variable {X : Cx} {CA : Str → Addr} {G : Cxp} {W : WX} {C : MC} {S S' : Store} {L L1 M2 L' : List Addr} {H H1 H2 H' : Hp} {σ : Sl} {e : Expr}
mutual
theorem toP_rel (g : Good X.K CA S L H) : ∀ (n : Nat) (d : D) (p : PyData) (v : V), toP S n d = some p → RelD X.K L H d v → Dp X.K H v p ∧ p.canLay0 = true ∧ p.depth ≤ n
  | 0, d, p, v, h, r => by simp [toP] at h
  | n + 1, .non, p, v, h, r => by
    simp only [toP, Option.some.injEq] at h; subst h
    simp only [RelD] at r; subst r
    exact ⟨.non, rfl, by simp [PyData.depth]⟩
  | n + 1, .bl b, p, v, h, r => by
    simp only [toP, Option.some.injEq] at h; subst h
    simp only [RelD] at r; subst r
    exact ⟨.bl b, rfl, by simp [PyData.depth]⟩
  | n + 1, .int b, p, v, h, r => by
    simp only [toP, Option.some.injEq] at h; subst h
    simp only [RelD] at r; subst r
    exact ⟨.int b, rfl, by simp [PyData.depth]⟩
  | n + 1, .str b, p, v, h, r => by
    simp only [toP] at h
    split at h
    · rename_i hc
      cases h
      simp only [RelD] at r; subst r
      exact ⟨.str b, hc, by simp [PyData.depth]⟩
    · cases h
  | n + 1, .tup xs, p, v, h, r => by
    simp only [toP, Option.map_eq_some_iff] at h
    obtain ⟨ps, h1, rfl⟩ := h
    simp only [RelD] at r
    obtain ⟨a, vs, rfl, q, r⟩ := r
    obtain ⟨x, y, z⟩ := toPs_rel g n xs ps vs h1 r
    exact ⟨.tup (SqT.of q) x, by simpa [PyData.canLay0] using y, by simpa [PyData.depth] using z⟩
  | n + 1, .frl xs, p, v, h, r => by
    simp only [toP, Option.map_eq_some_iff] at h
    obtain ⟨ps, h1, rfl⟩ := h
    simp only [RelD] at r
    obtain ⟨a, vs, rfl, q, r⟩ := r
    obtain ⟨x, y, z⟩ := toPs_rel g n xs ps vs h1 r
    exact ⟨.lst q.sq x, by simpa [PyData.canLay0] using y, by simpa [PyData.depth] using z⟩
  | n + 1, .frt xs, p, v, h, r => by
    simp only [toP, Option.map_eq_some_iff] at h
    obtain ⟨ps, h1, rfl⟩ := h
    simp only [RelD] at r
    obtain ⟨a, vs, rfl, q, r⟩ := r
    obtain ⟨x, y, z⟩ := toPs_rel g n xs ps vs h1 r
    exact ⟨.tup q.sq x, by simpa [PyData.canLay0] using y, by simpa [PyData.depth] using z⟩
  | n + 1, .ref k, p, v, h, r => by
    simp only [toP] at h
    cases e : getL S k with
    | none => rw [e] at h; cases h
    | some xs =>
      rw [e] at h
      simp only [Option.map_eq_some_iff] at h
      obtain ⟨ps, h1, rfl⟩ := h
      simp only [RelD] at r
      obtain ⟨a, hk, rfl⟩ := r
      obtain ⟨vs, q, r⟩ := getL_rel g e hk
      obtain ⟨x, y, z⟩ := toPs_rel g n xs ps vs h1 r
      exact ⟨.lst (SqL.of q) x, by simpa [PyData.canLay0] using y, by simpa [PyData.depth] using z⟩
theorem toPs_rel (g : Good X.K CA S L H) : ∀ (n : Nat) (ds : List D) (ps : List PyData) (vs : List V), mapO (toP S n) ds = some ps → RelDs X.K L H ds vs → DpAll X.K H vs ps ∧ PyData.canLayAll0 ps = true ∧ PyData.depthAll ps ≤ n
  | n, [], ps, vs, h, r => by
    simp only [mapO, Option.some.injEq] at h; subst h
    simp only [RelDs] at r; subst r
    exact ⟨.nil, by simp [PyData.canLayAll0], by simp [PyData.depthAll]⟩
  | n, d :: ds, ps, vs, h, r => by
    simp only [mapO] at h
    split at h
    · rename_i p ps' h1 h2
      cases h
      simp only [RelDs] at r
      obtain ⟨v, vr, rfl, r1, r2⟩ := r
      obtain ⟨a1, a2, a3⟩ := toP_rel g n d p v h1 r1
      obtain ⟨b1, b2, b3⟩ := toPs_rel g n ds ps' vr h2 r2
      refine ⟨.cons a1 b1, by simp [PyData.canLayAll0, a2, b2], ?_⟩
      simp only [PyData.depthAll]
      omega
    · cases h
end
theorem toP_shaped (g : Good X.K CA S L H) {d : D} {p : PyData} {v : V} (h : toP S 12 d = some p) (r : RelD X.K L H d v) : Dp X.K H v p ∧ SeqAt.shaped p = true := by
  obtain ⟨a, b, c⟩ := toP_rel g 12 d p v h r
  refine ⟨a, ?_⟩
  unfold SeqAt.shaped
  rw [b, decide_eq_true (by omega)]; rfl
theorem Aft.bl (g : Good X.K CA S L H) {b : Bool} {Q : VK} (h : Aft X.K CA W σ L H (.ok (.bl b) S) fun d _ L' H' => ∀ v, RelD X.K L' H' d v → Q v H') : Q (.bl b) H := Aft.now g h (by simp [RelD])
theorem Aft.int (g : Good X.K CA S L H) {b : Int} {Q : VK} (h : Aft X.K CA W σ L H (.ok (.int b) S) fun d _ L' H' => ∀ v, RelD X.K L' H' d v → Q v H') : Q (.int b) H := Aft.now g h (by simp [RelD])
theorem flat_rel {d : D} {v : V} (r : RelD X.K L H d v) : flatV v = flatD d := by
  cases d with
  | non => simp only [RelD] at r; subst r; rfl
  | tup xs => simp only [RelD] at r; obtain ⟨p, vs, rfl, _⟩ := r; rfl
  | frl xs => simp only [RelD] at r; obtain ⟨p, vs, rfl, _⟩ := r; rfl
  | frt xs => simp only [RelD] at r; obtain ⟨p, vs, rfl, _⟩ := r; rfl
  | ref n => simp only [RelD] at r; obtain ⟨p, _, rfl⟩ := r; rfl
  | bl b => simp only [RelD] at r; subst r; rfl
  | int b => simp only [RelD] at r; subst r; rfl
  | str b => simp only [RelD] at r; subst r; rfl
theorem eqF_rel {d e : D} {v w : V} (r : RelD X.K L H d v) (r' : RelD X.K L H e w) (h : flatD d = true) (h' : flatD e = true) : eqV v w = eqF d e := by
  cases d <;> (try cases h) <;> cases e <;> (try cases h') <;> simp only [RelD] at r r' <;> subst r r' <;> rfl
theorem flats_rel : ∀ {ds : List D} {vs : List V}, RelDs X.K L H ds vs → vs.all flatV = ds.all flatD
  | [], vs, r => by simp only [RelDs] at r; subst r; rfl
  | d :: ds, vs, r => by
    simp only [RelDs] at r
    obtain ⟨v, vr, rfl, r1, r2⟩ := r
    simp only [List.all_cons, flat_rel r1, flats_rel r2]
theorem inF_rel {x : D} {v : V} (rx : RelD X.K L H x v) (hx : flatD x = true) : ∀ {ds : List D} {vs : List V}, RelDs X.K L H ds vs → ds.all flatD = true → inV v vs = ds.any fun z => eqF z x
  | [], vs, r, _ => by simp only [RelDs] at r; subst r; rfl
  | d :: ds, vs, r, h => by
    simp only [RelDs] at r
    obtain ⟨w, vr, rfl, r1, r2⟩ := r
    simp only [List.all_cons, Bool.and_eq_true] at h
    have ih := inF_rel rx hx r2 h.2
    unfold inV at ih ⊢
    simp only [List.any_cons, eqF_rel r1 rx h.1 hx, ih]
theorem inO_rel (g : Good X.K CA S L H) {x y : D} {vx vy : V} (rx : RelD X.K L H x vx) (ry : RelD X.K L H y vy) {b : Bool} (h : inO S x y = some b) :
    (∃ p xs, vy = .ref p ∧ (SqL X.K H p xs ∨ SqT X.K H p xs) ∧ flatV vx = true ∧ xs.all flatV = true ∧ inV vx xs = b) ∨
    ((∃ d ds, Dp X.K H vx d ∧ Dp X.K H vy (.list ds) ∧ SeqAt.shaped d = true ∧ SeqAt.shaped (.list ds) = true ∧ (ds.any fun z => PyData.eqv z d) = b) ∨
    (∃ i j, vx = .str i ∧ vy = .str j ∧ (!(Builtin.Str.occurrences j i 0 j.length 1).isEmpty) = b)) := by
  unfold inO at h
  split at h
  · simp only [RelD] at ry
    obtain ⟨p, vs, rfl, e, rs⟩ := ry
    split at h
    · rename_i hf
      cases h
      exact .inl ⟨p, vs, rfl, .inr (SqT.of e), by rw [flat_rel rx]; exact hf.1, by rw [flats_rel rs]; exact hf.2, inF_rel rx hf.1 rs hf.2⟩
    · cases h
  · simp only [RelD] at ry
    obtain ⟨p, vs, rfl, e, rs⟩ := ry
    split at h
    · rename_i hf
      cases h
      exact .inl ⟨p, vs, rfl, .inr e.sq, by rw [flat_rel rx]; exact hf.1, by rw [flats_rel rs]; exact hf.2, inF_rel rx hf.1 rs hf.2⟩
    · cases h
  · split at h
    · rename_i a bs h1 h2
      cases h
      obtain ⟨a1, a2⟩ := toP_shaped g h1 rx
      obtain ⟨b1, b2⟩ := toP_shaped g h2 ry
      exact .inr (.inl ⟨a, bs, a1, b1, a2, b2, rfl⟩)
    · cases h
  · split at h
    · cases h
      simp only [RelD] at rx ry
      exact .inr (.inr ⟨_, _, rx, ry, rfl⟩)
    · cases h
  · cases h
theorem cmp_ok (ok : Ok X CA G W C) {op : Cm} {o : CmpOp} (h : cmI op o = true) (σ : Sl) : OpR X (compareOp o) (rBin X.K CA W σ (cmpop op)) := by
  have hu : X.A.units + 64 < cLine := by have := ok.un; omega
  have hu2 : X.A.units + 65 < cLine := by have := ok.un; omega
  cases op <;> cases o <;> try (exact absurd h Bool.false_ne_true)
  · refine OpR.by_ op_lt ?_
    rintro vx vy H Q ⟨S, L, x, y, g, rx, ry, q⟩
    simp only [cmpop] at q
    split at q <;> try (first | exact q.elim | contradiction)
    simp only [RelD] at rx ry; subst rx ry
    exact ⟨_, _, rfl, rfl, Aft.bl g q⟩
  · refine OpR.by_ op_le ?_
    rintro vx vy H Q ⟨S, L, x, y, g, rx, ry, q⟩
    simp only [cmpop] at q
    split at q <;> try (first | exact q.elim | contradiction)
    simp only [RelD] at rx ry; subst rx ry
    exact ⟨_, _, rfl, rfl, Aft.bl g q⟩
  · refine OpR.by_ op_gt ?_
    rintro vx vy H Q ⟨S, L, x, y, g, rx, ry, q⟩
    simp only [cmpop] at q
    split at q <;> try (first | exact q.elim | contradiction)
    simp only [RelD] at rx ry; subst rx ry
    exact ⟨_, _, rfl, rfl, Aft.bl g q⟩
  · refine OpR.by_ op_ge ?_
    rintro vx vy H Q ⟨S, L, x, y, g, rx, ry, q⟩
    simp only [cmpop] at q
    split at q <;> try (first | exact q.elim | contradiction)
    simp only [RelD] at rx ry; subst rx ry
    exact ⟨_, _, rfl, rfl, Aft.bl g q⟩
  · refine OpR.by_ (op_eqD hu) ?_
    rintro vx vy H Q ⟨S, L, x, y, g, rx, ry, q⟩
    simp only [cmpop, eqD] at q
    cases e1 : toP S 12 x with
    | none => simp only [e1] at q; exact q.elim
    | some p1 =>
      cases e2 : toP S 12 y with
      | none => simp only [e1, e2] at q; exact q.elim
      | some p2 =>
        simp only [e1, e2] at q
        obtain ⟨a1, a2⟩ := toP_shaped g e1 rx
        obtain ⟨b1, b2⟩ := toP_shaped g e2 ry
        exact ⟨_, _, a1, b1, a2, b2, Aft.bl g q⟩
  · refine OpR.by_ (op_neD hu) ?_
    rintro vx vy H Q ⟨S, L, x, y, g, rx, ry, q⟩
    simp only [cmpop, eqD] at q
    cases e1 : toP S 12 x with
    | none => simp only [e1] at q; exact q.elim
    | some p1 =>
      cases e2 : toP S 12 y with
      | none => simp only [e1, e2] at q; exact q.elim
      | some p2 =>
        simp only [e1, e2] at q
        obtain ⟨a1, a2⟩ := toP_shaped g e1 rx
        obtain ⟨b1, b2⟩ := toP_shaped g e2 ry
        exact ⟨_, _, a1, b1, a2, b2, Aft.bl g q⟩
  · refine OpR.by_ (OpR.or op_in_seq (OpR.or (op_inD hu2) op_in_str)) ?_
    rintro vx vy H Q ⟨S, L, x, y, g, rx, ry, q⟩
    simp only [cmpop] at q
    split at q
    · rename_i b hb
      rcases inO_rel g rx ry hb with ⟨p, xs, e1, e2, e3, e4, e5⟩ | ⟨d, ds, e1, e2, e3, e4, e5⟩ | ⟨i, j, e1, e2, e3⟩
      · refine .inl ⟨p, xs, e1, e2, e3, e4, ?_⟩
        simp only [Bool.false_eq_true, if_false, e5]
        exact Aft.bl g q
      · refine .inr (.inl ⟨d, ds, e1, e2, e3, e4, ?_⟩)
        rw [e5]
        exact Aft.bl g q
      · refine .inr (.inr ⟨i, j, e1, e2, ?_⟩)
        rw [e3]
        exact Aft.bl g q
    · exact q.elim
  · refine OpR.by_ (OpR.or op_notIn_seq (OpR.or (op_notInD hu2) op_notIn_str)) ?_
    rintro vx vy H Q ⟨S, L, x, y, g, rx, ry, q⟩
    simp only [cmpop] at q
    split at q
    · rename_i b hb
      rcases inO_rel g rx ry hb with ⟨p, xs, e1, e2, e3, e4, e5⟩ | ⟨d, ds, e1, e2, e3, e4, e5⟩ | ⟨i, j, e1, e2, e3⟩
      · refine .inl ⟨p, xs, e1, e2, e3, e4, ?_⟩
        simp only [if_true, e5]
        exact Aft.bl g q
      · refine .inr (.inl ⟨d, ds, e1, e2, e3, e4, ?_⟩)
        rw [e5]
        exact Aft.bl g q
      · refine .inr (.inr ⟨i, j, e1, e2, ?_⟩)
        rw [e3]
        exact Aft.bl g q
    · exact q.elim
theorem RelDs.atI {ds : List D} {vs : List V} {i : Int} {d : D} (r : RelDs X.K L H ds vs) (h : L2.atI ds i = some d) : ∃ v, L2.atI vs i = some v ∧ RelD X.K L H d v := by
  unfold L2.atI at h ⊢
  rw [r.length]
  cases e : ixN ds.length i with
  | none => rw [e] at h; cases h
  | some j =>
    rw [e] at h
    exact r.get h
theorem ix_ok (σ : Sl) : IxR X (rBin X.K CA W σ item) := by
  have base : IxR X (fun x y H Q => rIxL X.K x y H Q ∨ rIxT X.K x y H Q) := ix_list.or ix_tup
  intro value slice pins s σ' H x y v u Q I rx ry h hs
  refine base value slice pins s σ' H x y v u Q I rx ry ?_ hs
  obtain ⟨S, L, dx, dy, g, r1, r2, q⟩ := h
  unfold item at q
  split at q
  · simp only [RelD] at r2; subst r2
    split at q
    · rename_i xs hx
      split at q
      · rename_i d hd
        obtain ⟨a, vs, rfl, sq, r⟩ := seqOf_rel g hx r1
        obtain ⟨w, hw, rw⟩ := r.atI hd
        rcases sq with sq | sq
        · exact .inl ⟨a, vs, _, w, rfl, rfl, sq, hw, Aft.now g q rw⟩
        · exact .inr ⟨a, vs, _, w, rfl, rfl, sq, hw, Aft.now g q rw⟩
      · exact q.elim
    · exact q.elim
  · exact q.elim
theorem ixS_ok (σ : Sl) : IxR X (rBin X.K CA W σ idSR) := by
  intro value slice pins s σ' H x y v u Q I rx ry h hs
  refine ix_str value slice pins s σ' H x y v u Q I rx ry ?_ hs
  obtain ⟨S, L, dx, dy, g, r1, r2, q⟩ := h
  unfold idSR at q
  split at q
  · rename_i z k
    simp only [RelD] at r1 r2; subst r1 r2
    unfold itemS at q
    split at q
    · rename_i hz
      split at q
      · rename_i c hc
        exact ⟨z, _, c, rfl, rfl, Nat.le_of_lt (small hz), hc, Aft.now g q (by simp [sign, RelD])⟩
      · exact q.elim
    · exact q.elim
  · exact q.elim
theorem cutD_rel {ds : List D} {vs : List V} (r : RelDs X.K L H ds vs) (lo hi : Option Int) : RelDs X.K L H (cutD ds lo hi) (cutV vs lo hi) := by
  unfold cutD cutV
  rw [r.length]
  exact (r.drop _).take _
theorem cutD_full {ds : List D} {lo hi : Option Int} (h1 : HT.sIx ds.length 0 lo = 0) (h2 : HT.sIx ds.length ds.length hi = ds.length) : cutD ds lo hi = ds := by
  unfold cutD
  rw [h1, h2]; simp
theorem sl_ok {lo hi : Option D} (σ : Sl) : SlR X (fun vx l h H Q => ∃ S L x, Good X.K CA S L H ∧ RelD X.K L H x vx ∧ intO lo = some l ∧ intO hi = some h ∧ Aft X.K CA W σ L H (slice x lo hi S) fun d _ L' H' => ∀ v, RelD X.K L' H' d v → Q v H') := by
  intro pins s σ' H x v vl vu l h sl Q I rx hs pl pu q
  refine ((sl_list.or sl_tupA).or C8.sl_txt) pins s σ' H x v vl vu l h sl Q I rx hs pl pu ?_
  obtain ⟨S, L, dx, g, r, e1, e2, q⟩ := q
  unfold slice at q
  split at q
  · rename_i xs
    rw [e1, e2] at q
    simp only at q
    simp only [RelD] at r
    obtain ⟨p, vs, rfl, e, r⟩ := r
    refine .inl (.inr ⟨p, vs, rfl, SqT.of e, fun ⟨z1, z2⟩ => ?_, fun _ p' hp => ?_⟩)
    · rw [r.length] at z1 z2
      rw [cutD_full z1 z2] at q
      refine q _ _ Step.refl g (.ref p) ?_
      simp only [RelD]
      exact ⟨p, vs, rfl, e, r⟩
    · obtain ⟨st2, g2⟩ := g.side (o := .tup (cutV vs l h)) hp
      refine q _ _ st2 g2 (.ref p') ?_
      simp only [RelD]
      exact ⟨p', _, rfl, upd_same, (cutD_rel r l h).step g st2⟩
  · rename_i z
    rw [e1, e2] at q
    simp only at q
    simp only [RelD] at r
    subst r
    split at q
    · rename_i hz
      exact .inr ⟨z, rfl, Nat.le_trans hz (by rw [sizeLine_eq]; decide), q _ _ Step.refl g _ (by simp [RelD])⟩
    · exact q.elim
  · rw [e1, e2] at q
    split at q
    · rename_i xs l' h' hx e1' e2'
      cases e1'; cases e2'
      obtain ⟨a, vs, rfl, sq, r⟩ := lstOf_rel g hx r
      exact .inl (.inl ⟨a, vs, rfl, sq, fun p hp => Aft.lst g q (cutD_rel r l h) hp⟩)
    · exact q.elim
def rBi (K : PySem.W.Frag) (CA : Str → Addr) (W : WX) (σ : Sl) (b : Bi) : List V → Hp → VK → Prop := fun vs H Q => ∃ S L xs, Good K CA S L H ∧ RelDs K L H xs vs ∧ Aft K CA W σ L H (biop b xs S) fun d _ L' H' => ∀ v, RelD K L' H' d v → Q v H'
theorem CallR.by_ {f : Value} {r r0 : List V → Hp → VK → Prop} (h : CallR X f r0) (m : ∀ x H Q, r x H Q → r0 x H Q) : CallR X f r := fun pins s σ H x u Q I rx q => h pins s σ H x u Q I rx (m _ _ _ q)
theorem one_rel {d : D} {vs : List V} (r : RelDs X.K L H [d] vs) : ∃ v, vs = [v] ∧ RelD X.K L H d v := by
  simp only [RelDs] at r
  obtain ⟨v, _, rfl, h, rfl⟩ := r
  exact ⟨v, rfl, h⟩
theorem two_rel {d d' : D} {vs : List V} (r : RelDs X.K L H [d, d'] vs) : ∃ v v', vs = [v, v'] ∧ RelD X.K L H d v ∧ RelD X.K L H d' v' := by
  simp only [RelDs] at r
  obtain ⟨v, _, rfl, h, v', _, rfl, h', rfl⟩ := r
  exact ⟨v, v', rfl, h, h'⟩
theorem intsOf_rel : ∀ {xs : List D} {is : List Int} {vs : List V}, intsOf xs = some is → RelDs X.K L H xs vs → vs = is.map V.int
  | [], is, vs, h, r => by
    simp only [intsOf, Option.some.injEq] at h; subst h
    simp only [RelDs] at r; subst r; rfl
  | x :: xs, is, vs, h, r => by
    cases x <;> simp only [intsOf] at h <;> try (cases h; done)
    split at h
    · rename_i is' h'
      cases h
      simp only [RelDs, RelD] at r
      obtain ⟨v, vr, rfl, rfl, r⟩ := r
      rw [intsOf_rel h' r]; rfl
    · cases h
def biV : Bi → Value
  | .len => .builtin "len"
  | .abs => .builtin "abs"
  | .int => .type "int"
  | .str => .type "str"
  | .list => .type "list"
  | .tuple => .type "tuple"
  | .sorted => .builtin "sorted"
  | .max => .builtin "max"
  | .min => .builtin "min"
theorem lenO_rel (g : Good X.K CA S L H) {d : D} {v : V} {n : Nat} (h : lenO S d = some n) (r : RelD X.K L H d v) : (∃ ys, seqOf S d = some ys ∧ ys.length = n) ∨ ∃ a kvs, v = .ref a ∧ H a = some (.dK kvs) ∧ kvs.length = n := by
  unfold lenO at h
  split at h
  · rename_i k
    split at h
    · rename_i kvs e
      cases h
      simp only [RelD] at r
      obtain ⟨a, hn, rfl⟩ := r
      obtain ⟨vs, e1, e2, e3⟩ := g.cell k _ a e hn
      exact .inr ⟨a, vs, rfl, e1, by simpa using congrArg List.length e2⟩
    · rename_i xs e
      cases h
      exact .inl ⟨xs, by simp [seqOf, getL, e], rfl⟩
    · cases h
  · simp only [Option.map_eq_some_iff] at h
    exact .inl h
theorem minL_ok : ∀ (l : List Int) (a m : Int), m ∈ a :: l → (∀ y ∈ a :: l, m ≤ y) → minL a l = m
  | [], a, m, h, _ => by simp at h; rw [h]; rfl
  | b :: r, a, m, h, hm => by
    unfold minL
    apply minL_ok r
    · simp only [List.mem_cons] at h ⊢
      have h1 := hm a (by simp)
      have h2 := hm b (by simp)
      rcases h with h | h | h
      · left; split <;> omega
      · left; split <;> omega
      · exact .inr h
    · intro y hy
      rcases List.mem_cons.mp hy with e | e
      · subst e
        have h1 := hm a (by simp)
        have h2 := hm b (by simp)
        split <;> assumption
      · exact hm y (by simp [e])
theorem maxL_ok : ∀ (l : List Int) (a m : Int), m ∈ a :: l → (∀ y ∈ a :: l, y ≤ m) → maxL a l = m
  | [], a, m, h, _ => by simp at h; rw [h]; rfl
  | b :: r, a, m, h, hm => by
    unfold maxL
    apply maxL_ok r
    · simp only [List.mem_cons] at h ⊢
      have h1 := hm a (by simp)
      have h2 := hm b (by simp)
      rcases h with h | h | h
      · left; split <;> omega
      · left; split <;> omega
      · exact .inr h
    · intro y hy
      rcases List.mem_cons.mp hy with e | e
      · subst e
        have h1 := hm a (by simp)
        have h2 := hm b (by simp)
        split <;> assumption
      · exact hm y (by simp [e])
theorem srt_uniq {is ns' : List Int} (hp : ns'.Perm is) (hs : ns'.Pairwise (· ≤ ·)) : ns' = is.mergeSort (fun a b => decide (a ≤ b)) := by
  refine List.Perm.eq_of_pairwise (le := fun a b : Int => a ≤ b) (fun a b _ _ h1 h2 => Int.le_antisymm h1 h2) hs ?_ (hp.trans (List.mergeSort_perm is _).symm)
  have := List.pairwise_mergeSort (le := fun a b : Int => decide (a ≤ b)) (fun a b c h1 h2 => by simp at h1 h2 ⊢; omega) (fun a b => by simp; omega) is
  exact this.imp fun h => by simpa using h
theorem intsK_keys : ∀ {kvs : List (Key × D)} {is : List Int}, intsK kvs = some is → kvs.map (·.1) = is.map Sum.inl
  | [], is, h => by simp only [intsK, Option.some.injEq] at h; subst h; rfl
  | (.inl i, d) :: r, is, h => by
    simp only [intsK, Option.map_eq_some_iff] at h
    obtain ⟨js, h, rfl⟩ := h
    simp [intsK_keys h]
  | (.inr s, d) :: r, is, h => by cases h
theorem ltCps_anti : ∀ a b : List Nat, PySem.Spec.ltCps a b = false → PySem.Spec.ltCps b a = false → a = b
  | [], [], _, _ => rfl
  | [], b :: bs, h, _ => by simp [PySem.Spec.ltCps] at h
  | a :: as, [], _, h => by simp [PySem.Spec.ltCps] at h
  | a :: as, b :: bs, h1, h2 => by
    simp [PySem.Spec.ltCps] at h1 h2
    have e : a = b := by omega
    subst e
    rw [ltCps_anti as bs (h1.2 rfl) (h2.2 rfl)]
theorem sort2_uniq {a b : Str} {ys : List Str} (hp : ys.Perm [a, b]) (hs : PyProof.Rows.sortedS ys = true) : sort2 a b = ys.map .str := by
  have hc : ys = [a, b] ∨ ys = [b, a] := ksk_perm2 hp
  have key : ∀ x y : Str, PyProof.Rows.sortedS [x, y] = true → PySem.Spec.ltCps y.cps.toList x.cps.toList = false := fun x y h => by
    have : (!(PySem.Spec.ltCps y.cps.toList x.cps.toList) && true) = true := h
    simpa using this
  unfold sort2
  rcases hc with rfl | rfl
  · have := key _ _ hs
    rw [this]; rfl
  · have h2 := key _ _ hs
    cases h1 : PySem.Spec.ltCps b.cps.toList a.cps.toList with
    | true => rfl
    | false =>
      have e := ltCps_anti _ _ h1 h2
      have : a = b := by
        cases a; cases b
        congr
        exact Array.toList_inj.mp e.symm
      subst this
      rfl
theorem RelDs.strs : ∀ {ss : List Str}, RelDs X.K L H (ss.map .str) (ss.map V.str)
  | [] => RelDs.nil
  | s :: ss => by
    rw [List.map_cons, List.map_cons]
    exact RelDs.cons (by simp [RelD]) RelDs.strs
theorem srt_ok (g : Good X.K CA S L H) {x : D} {v : V} {Q : VK} (r1 : RelD X.K L H x v) (q : Aft X.K CA W σ L H (srtR x S) fun d _ L' H' => ∀ v, RelD X.K L' H' d v → Q v H') : rSortedS X.K [v] H Q ∨ (∃ (a : Addr) (kvs : List (Key × V)) (ks : List Int), [v] = [.ref a] ∧ Rd H a (.dK kvs) ∧ kvs.map (·.1) = ks.map Sum.inl ∧ ks.length < 64 ∧ ∀ (ys : List Int) (p : Addr), ys.Perm ks → ys.Pairwise (· ≤ ·) → H p = none → Q (.ref p) (upd H p (.lst (ys.map V.int)))) := by
  unfold srtR at q
  split at q
  · rename_i n
    simp only [RelD] at r1
    obtain ⟨a, hn, rfl⟩ := r1
    split at q
    · rename_i kvs e
      split at q
      · rename_i is hi
        split at q
        · rename_i h64
          obtain ⟨vs, e1, e2, e3⟩ := g.cell n _ a e hn
          refine .inr ⟨a, vs, is, rfl, .inl e1, by rw [e2]; exact intsK_keys hi, h64, fun ys p hp hs hn => ?_⟩
          rw [srt_uniq hp hs]
          exact Aft.lst g q RelDs.ints hn
        · exact q.elim
      · exact q.elim
    · rename_i s1 s2 e
      have hg : getL S n = some ([s1, s2].map .str) := by unfold getL; rw [e]; rfl
      obtain ⟨vs, e1, rs⟩ := getL_rel g hg hn
      have ev : vs = [s1, s2].map V.str := by
        simp only [List.map_cons, List.map_nil, RelDs, RelD] at rs
        obtain ⟨v1, _, rfl, rfl, v2, _, rfl, rfl, rfl⟩ := rs
        rfl
      subst ev
      refine .inl ⟨a, [s1, s2], rfl, SqL.of e1, by simp, fun ys p hp hs hn => ?_⟩
      rw [sort2_uniq hp hs] at q
      exact Aft.lst g q RelDs.strs hn
    · exact q.elim
  · exact q.elim
theorem min3_int (i j l : Int) : nuMin3 (.int i) (.int j) (.int l) = some (.int (if l < (if j < i then j else i) then l else (if j < i then j else i))) := by
  have h2 : ∀ a b : Int, nuMin2 (.int a) (.int b) = some (.int (if b < a then b else a)) := fun a b => by
    show (some (decide (b < a))).map (fun c => if c = true then V.int b else V.int a) = _
    rw [Option.map_some]
    by_cases h : b < a
    · rw [if_pos h, decide_eq_true h, if_pos rfl]
    · rw [if_neg h, decide_eq_false h, if_neg Bool.false_ne_true]
  unfold nuMin3
  rw [h2, Option.bind_some, h2]
theorem kysO_rel (g : Good X.K CA S L H) {d : D} {v : V} {ks : List Key} (h : keysO S d = some ks) (r : RelD X.K L H d v) : ∃ a kvs, v = .ref a ∧ H a = some (.dK kvs) ∧ ks = kvs.map (·.1) := by
  unfold keysO at h
  split at h
  · rename_i n
    split at h
    · rename_i kvs e
      cases h
      simp only [RelD] at r
      obtain ⟨a, hn, rfl⟩ := r
      obtain ⟨vs, e1, e2, e3⟩ := g.cell n _ a e hn
      exact ⟨a, vs, rfl, e1, e2.symm⟩
    · cases h
  · cases h
theorem RelDs.keys : ∀ (ks : List Key), RelDs X.K L H (ks.map dKey) (ks.map kV)
  | [] => RelDs.nil
  | .inl i :: r => by
    rw [List.map_cons, List.map_cons]
    exact RelDs.cons (by simp [RelD, dKey, kV]) (RelDs.keys r)
  | .inr s :: r => by
    rw [List.map_cons, List.map_cons]
    exact RelDs.cons (by simp [RelD, dKey, kV]) (RelDs.keys r)
theorem three_rel {d d' d2 : D} {vs : List V} (r : RelDs X.K L H [d, d', d2] vs) : ∃ v v' v2, vs = [v, v', v2] ∧ RelD X.K L H d v ∧ RelD X.K L H d' v' ∧ RelD X.K L H d2 v2 := by
  simp only [RelDs] at r
  obtain ⟨v, _, rfl, h, v', _, rfl, h', v2, _, rfl, h2, rfl⟩ := r
  exact ⟨v, v', v2, rfl, h, h', h2⟩
theorem bi_ok (ok : Ok X CA G W C) (b : Bi) (hc : biOk C b = true) (σ : Sl) : CallR X (biV b) (rBi X.K CA W σ b) := by
  cases b
  · -- len
    refine CallR.by_ (CallR.or call_len call_lenD) ?_
    rintro vs H Q ⟨S, L, xs, g, r, q⟩
    unfold biop at q
    split at q <;> rename_i hb <;> try (first | exact q.elim | (cases hb; done))
    · obtain ⟨v, rfl, r1⟩ := one_rel r
      split at q
      · split at q
        · rename_i hz
          simp only [RelD] at r1; subst r1
          exact .inl ⟨_, _, rfl, ⟨Nat.le_of_lt (small hz), rfl⟩, Aft.int g q⟩
        · exact q.elim
      · split at q
        · rename_i hl
          rcases lenO_rel g hl r1 with ⟨ys, hy, e⟩ | ⟨a, kvs, e1, e2, e3⟩
          · obtain ⟨a, ws, rfl, sq, r⟩ := seqOf_rel g hy r1
            refine .inl ⟨_, ys.length, rfl, ?_, by rw [e]; exact Aft.int g q⟩
            rcases sq with sq | sq
            · exact .inl ⟨ws, sq, r.length.symm⟩
            · exact .inr ⟨ws, sq, r.length.symm⟩
          · subst e1
            refine .inr ⟨a, kvs, rfl, e2, ?_⟩
            rw [e3]
            exact Aft.int g q
        · exact q.elim
  · -- abs
    refine CallR.by_ call_abs ?_
    rintro vs H Q ⟨S, L, xs, g, r, q⟩
    unfold biop at q
    split at q <;> rename_i hb <;> try (first | exact q.elim | (cases hb; done))
    obtain ⟨v, rfl, r1⟩ := one_rel r
    simp only [RelD] at r1; subst r1
    exact ⟨_, rfl, Aft.int g q⟩
  · -- int
    refine CallR.by_ (CallR.or call_int1 call_int_str) ?_
    rintro vs H Q ⟨S, L, xs, g, r, q⟩
    unfold biop at q
    split at q <;> rename_i hb <;> try (first | exact q.elim | (cases hb; done))
    · obtain ⟨v, rfl, r1⟩ := one_rel r
      simp only [RelD] at r1; subst r1
      exact .inl (.inl ⟨_, rfl, Aft.int g q⟩)
    · obtain ⟨v, rfl, r1⟩ := one_rel r
      simp only [RelD] at r1; subst r1
      split at q
      · rename_i hz
        split at q
        · rename_i n hn
          exact .inr ⟨_, n, rfl, hn, hz, Aft.int g q⟩
        · exact q.elim
      · exact q.elim
    · obtain ⟨v, rfl, r1⟩ := one_rel r
      simp only [RelD] at r1; subst r1
      exact .inl (.inr ⟨_, rfl, Aft.int g q⟩)
  · -- str
    refine CallR.by_ call_str_int ?_
    rintro vs H Q ⟨S, L, xs, g, r, q⟩
    unfold biop at q
    split at q <;> rename_i hb <;> try (first | exact q.elim | (cases hb; done))
    obtain ⟨v, rfl, r1⟩ := one_rel r
    simp only [RelD] at r1; subst r1
    split at q
    · rename_i hz
      exact ⟨_, rfl, hz, Aft.now g q (by simp [RelD])⟩
    · exact q.elim
  · -- list
    refine CallR.by_ call_list_of ?_
    rintro vs H Q ⟨S, L, xs, g, r, q⟩
    unfold biop at q
    split at q <;> rename_i hb <;> try (first | exact q.elim | (cases hb; done))
    obtain ⟨v, rfl, r1⟩ := one_rel r
    split at q
    · rename_i ys hy
      obtain ⟨a, ws, rfl, sq, r⟩ := seqOf_rel g hy r1
      exact ⟨a, ws, rfl, sq, fun p hp => Aft.lst g q r hp⟩
    · exact q.elim
  · -- tuple
    refine CallR.by_ call_tuple_of ?_
    rintro vs H Q ⟨S, L, xs, g, r, q⟩
    unfold biop at q
    split at q <;> rename_i hb <;> try (first | exact q.elim | (cases hb; done))
    obtain ⟨v, rfl, r1⟩ := one_rel r
    split at q
    · simp only [RelD] at r1
      obtain ⟨a, ws, rfl, sq, r⟩ := r1
      refine ⟨a, ws, rfl, .inr ⟨SqT.of sq, Aft.now g q ?_⟩⟩
      simp only [RelD]
      exact ⟨a, ws, rfl, sq, r⟩
    · split at q
      · rename_i ys hy
        obtain ⟨a, ws, rfl, sq, r⟩ := lstOf_rel g hy r1
        refine ⟨a, ws, rfl, .inl ⟨sq, fun p hp => ?_⟩⟩
        obtain ⟨st, g1⟩ := g.side (o := .tup ws) hp
        refine q _ _ st g1 (.ref p) ?_
        simp only [RelD]
        exact ⟨p, ws, rfl, upd_same, RelDs.step g st r⟩
      · exact q.elim
  · -- sorted
    refine CallR.by_ (CallR.or cr_sorted (CallR.or cr_sortedS (call_sortedDI (ok.calm hc)))) ?_
    rintro vs H Q ⟨S, L, xs, g, r, q⟩
    unfold biop at q
    split at q <;> rename_i hb <;> try (first | exact q.elim | (cases hb; done))
    obtain ⟨v, rfl, r1⟩ := one_rel r
    split at q
    · rename_i ys hy
      split at q
      · rename_i is hi
        split at q
        · rename_i h64
          obtain ⟨a, ws, rfl, sq, r⟩ := lstOf_rel g hy r1
          have ew := intsOf_rel hi r
          subst ew
          refine .inl ⟨a, is, rfl, sq, h64, fun ns' p hp hs hn => ?_⟩
          rw [srt_uniq hp hs]
          exact Aft.lst g q RelDs.ints hn
        · exact q.elim
      · exact .inr (srt_ok g r1 q)
    · exact .inr (srt_ok g r1 q)
  · -- max
    refine CallR.by_ (CallR.or (call_max2 (ok.calm hc)) (cr_max (ok.calm hc))) ?_
    rintro vs H Q ⟨S, L, xs, g, r, q⟩
    unfold biop at q
    split at q <;> rename_i hb <;> try (first | exact q.elim | (cases hb; done))
    · obtain ⟨v, v', rfl, r1, r2⟩ := two_rel r
      simp only [RelD] at r1 r2; subst r1 r2
      exact .inl ⟨_, _, rfl, Aft.int g q⟩
    · obtain ⟨v, rfl, r1⟩ := one_rel r
      split at q
      · rename_i ys hy
        split at q
        · rename_i a is hi
          obtain ⟨b, ws, rfl, sq, r⟩ := lstOf_rel g hy r1
          have ew := intsOf_rel hi r
          subst ew
          refine .inr ⟨b, a :: is, rfl, sq, by simp, fun m hm hmin => ?_⟩
          rw [← maxL_ok is a m hm hmin]
          exact Aft.int g q
        · exact q.elim
      · exact q.elim
  · -- min
    refine CallR.by_ (CallR.or (call_min2 (ok.calm hc)) (CallR.or (cr_min (ok.calm hc)) (call_min3Nu (ok.calm hc)))) ?_
    rintro vs H Q ⟨S, L, xs, g, r, q⟩
    unfold biop at q
    split at q <;> rename_i hb <;> try (first | exact q.elim | (cases hb; done))
    · obtain ⟨v, v', rfl, r1, r2⟩ := two_rel r
      simp only [RelD] at r1 r2; subst r1 r2
      exact .inl ⟨_, _, rfl, Aft.int g q⟩
    · obtain ⟨v, v', v2, rfl, r1, r2, r3⟩ := three_rel r
      simp only [RelD] at r1 r2 r3; subst r1 r2 r3
      refine .inr (.inr ⟨_, _, _, _, rfl, ?_, Aft.int g q⟩)
      exact min3_int _ _ _
    · obtain ⟨v, rfl, r1⟩ := one_rel r
      split at q
      · rename_i ys hy
        split at q
        · rename_i a is hi
          obtain ⟨b, ws, rfl, sq, r⟩ := lstOf_rel g hy r1
          have ew := intsOf_rel hi r
          subst ew
          refine .inr (.inl ⟨b, a :: is, rfl, sq, by simp, fun m hm hmin => ?_⟩)
          rw [← minL_ok is a m hm hmin]
          exact Aft.int g q
        · exact q.elim
      · exact q.elim
end
end Lt
set_option maxHeartbeats 1000000
namespace Lt
open PySem PySem.Spec PyProof.Rows L2
section
variable {X : Cx} {CA : Str → Addr} {G : Cxp} {W : WX} {C : MC} {S S' : Store} {L L1 M2 L' : List Addr} {H H1 H2 H' : Hp} {σ : Sl} {e : Expr}
theorem vis_of {sc : Scope} {x : Str} (h : visB sc x = true) : Vis sc x := by
  unfold visB at h
  split at h
  · exact .inl (by assumption)
  · exact .inr (.inl (by assumption))
  · exact .inr (.inr (by assumption))
  · cases h
theorem loc_of {sc : Scope} {x : Str} (h : locB sc x = true) : sc.names.lookup x = some .local := by
  unfold locB at h
  split at h
  · assumption
  · cases h
theorem cel_of {sc : Scope} {x : Str} (h : celB sc x = true) : sc.names.lookup x = some .cell := by
  unfold celB at h
  split at h
  · assumption
  · cases h
theorem gl_of (ok : Ok X CA G W C) {x : Str} (h : gloB C.sc x = true) : Gl X x := by
  unfold gloB at h
  show X.env.scope.names.lookup x = _
  rw [ok.sc]
  split at h
  · assumption
  · cases h
theorem slot_of {i : Nat} {x : Str} (h : slotB C i x = true) : C.N[i]? = some x := by
  unfold slotB at h
  split at h
  · rename_i y e
    rw [e, of_decide_eq_true h]
  · cases h
theorem nm_of {x : Str} (h : nmOk x = true) : (x == ("__debug__" : Str)) = false ∧ (x == ("__classdict__" : Str)) = false := by
  unfold nmOk at h
  obtain ⟨a, b⟩ := ba h
  simpa using And.intro a b
theorem star_of (h : notSt e = true) (es : List Expr) (env : PySem.Env) : starEach (e :: es) env = (false, eval e env) :: starEach es env := by
  cases e <;> first | rfl | (exact absurd h Bool.false_ne_true)
theorem mEs_cons {x : Ex} {xs : List Ex} {es : List Expr} (h : mEs (x :: xs) C es = true) : ∃ e r, es = e :: r ∧ notSt e = true ∧ mE x C e = true ∧ mEs xs C r = true := by
  cases es with
  | nil => simp only [mEs] at h; cases h
  | cons e r =>
    simp only [mEs, Bool.and_eq_true] at h
    exact ⟨e, r, rfl, h.1.1, h.1.2, h.2⟩
theorem mEs_nil {es : List Expr} (h : mEs [] C es = true) : es = [] := by
  cases es with
  | nil => rfl
  | cons e r => simp only [mEs] at h; cases h
theorem stars_ok : ∀ {xs : List Ex} {es : List Expr}, mEs xs C es = true → ∀ (pos : Pos) (env : PySem.Env), (backTo pos (starEach es env)).any (·.1) = false
  | [], es, h, _, _ => by rw [mEs_nil h]; rfl
  | x :: xs, es, h, pos, env => by
    obtain ⟨e, r, rfl, h1, _, h2⟩ := mEs_cons h
    rw [star_of h1]
    have ih := stars_ok h2 pos env
    simpa [backTo] using ih
theorem s_var (ok : Ok X CA G W C) {i : Nat} {x : Str} {p : Pos} (h1 : slotB C i x = true) (h2 : visB C.sc x = true) (h3 : nmOk x = true) : PE X (.Name x p) (tE X.K CA G W (.var i)) := by
  obtain ⟨d1, d2⟩ := nm_of h3
  refine PE.by_ (pe_var (i := i) (by rw [ok.nm]; exact slot_of h1) (by rw [ok.sc]; exact vis_of h2) d1 d2) ?_
  rintro σ H Q ⟨S, L, env, g, er, q⟩
  simp only [ev] at q
  split at q
  · rename_i d hd
    obtain ⟨v, e1, r⟩ := er.has i d hd
    exact ⟨v, e1, Aft.now g q r⟩
  · exact q.elim
theorem s_glo (ok : Ok X CA G W C) {x : Str} {p : Pos} (h1 : gloB C.sc x = true) (h3 : nmOk x = true) : PE X (.Name x p) (tE X.K CA G W (.glo x)) := by
  obtain ⟨d1, d2⟩ := nm_of h3
  cases e : G.glo x with
  | none =>
    refine ⟨fun pins s σ H Q I q => ?_⟩
    obtain ⟨S, L, env, g, er, q⟩ := q
    simp only [ev, e] at q
    exact q.elim
  | some d =>
    obtain ⟨v, u, hm, rv, r⟩ := ok.glo x d e
    refine PE.by_ (pe_glob (gl_of ok h1) hm rv d1) ?_
    rintro σ H Q ⟨S, L, env, g, er, q⟩
    simp only [ev, e] at q
    exact Aft.now g q (r L H)
theorem s_bin {op : Op} {o : Operator} {a b : Ex} {l r : Expr} {p : Pos} (h : opB op o = true) (ha : PE X l (tE X.K CA G W a)) (hb : PE X r (tE X.K CA G W b)) : PE X (.BinOp l o r p) (tE X.K CA G W (.bin op a b)) := by
  refine ⟨fun pins s σ H Q I q => (pe_op (bin_ok (CA := CA) (W := W) h σ) ha hb).run pins s σ H Q I ?_⟩
  obtain ⟨S, L, env, g, er, q⟩ := q
  simp only [ev] at q
  exact tE.seq g er q fun d1 S1 L1 H1 v1 st1 g1 er1 r1 q1 => tE.seq g1 er1 q1 fun d2 S2 L2 H2 v2 st2 g2 er2 r2 q2 => ⟨S2, L2, d1, d2, g2, r1.step g1 st2, r2, q2⟩
theorem cmI_of {op : Cm} {o : CmpOp} (h : cmB op o = true) : cmI op o = true := by
  cases op <;> cases o <;> first | rfl | (cases h; done)
theorem nomark2 {op : CmpOp} (b : Expr) (h : notSet b = true) : behindInMarks op b = false := by
  cases b <;> first | rfl | (cases h; done)
theorem s_cmp (ok : Ok X CA G W C) {op : Cm} {o : CmpOp} {a b : Ex} {l r : Expr} {p : Pos} (h : cmI op o = true) (hs : notSet r = true) (ha : PE X l (tE X.K CA G W a)) (hb : PE X r (tE X.K CA G W b)) :
    PE X (.Compare l [o] [r] p) (tE X.K CA G W (.cmp op a b)) ∧ PT X (.Compare l [o] [r] p) (tT X.K CA G W (.cmp op a b)) := by
  have hm : behindInMarks o r = false := nomark2 r hs
  refine ⟨⟨fun pins s σ H Q I q => (pe_cmpR (cmp_ok (W := W) ok h σ) ha hb hm).run pins s σ H Q I ?_⟩, ⟨fun pins s σ H Q I q => (pt_cmpR (cmp_ok (W := W) ok h σ) ha hb hm).run pins s σ H Q I ?_⟩⟩
  · obtain ⟨S, L, env, g, er, q⟩ := q
    simp only [ev] at q
    exact tE.seq g er q fun d1 S1 L1 H1 v1 st1 g1 er1 r1 q1 => tE.seq g1 er1 q1 fun d2 S2 L2 H2 v2 st2 g2 er2 r2 q2 => ⟨S2, L2, d1, d2, g2, r1.step g1 st2, r2, q2⟩
  · obtain ⟨S, L, env, g, er, q⟩ := q
    simp only [ev] at q
    refine tE.seq g er q fun d1 S1 L1 H1 v1 st1 g1 er1 r1 q1 => tE.seq g1 er1 q1 fun d2 S2 L2 H2 v2 st2 g2 er2 r2 q2 => ⟨S2, L2, d1, d2, g2, r1.step g1 st2, r2, q2.mono fun d S3 L3 H3 z v r => ?_⟩
    obtain ⟨b, rfl, z⟩ := z
    simp only [RelD] at r
    exact ⟨b, r, z⟩
/-- an expression whose value is a bool, as a test -/
theorem s_val {x : Ex} (h : PE X e (tE X.K CA G W x)) (he : ∀ whole, isTrue e X.env whole = (do let v ← whole; standAt e.pos; PySem.holding [v] (truthy v))) : PT X e (tT X.K CA G W x) := by
  refine PT.by_ (pt_val h he) ?_
  rintro σ H Q ⟨S, L, env, g, er, q⟩
  refine ⟨S, L, env, g, er, q.mono fun d S3 L3 H3 z v r => ?_⟩
  obtain ⟨b, rfl, z⟩ := z
  simp only [RelD] at r
  exact ⟨b, r, z⟩
theorem s_neg {a : Ex} {l : Expr} {p : Pos} (ha : PE X l (tE X.K CA G W a)) : PE X (.UnaryOp .USub l p) (tE X.K CA G W (.neg a)) := by
  refine PE.by_ (pe_un un_neg ha) ?_
  rintro σ H Q ⟨S, L, env, g, er, q⟩
  simp only [ev] at q
  refine tE.seq g er q fun d S1 L1 H1 v st g1 er1 r q1 => ?_
  split at q1
  · simp only [RelD] at r; subst r
    exact ⟨_, rfl, Aft.int g1 q1⟩
  · exact q1.elim
theorem s_not {a : Ex} {l : Expr} {p : Pos} (ha : PE X l (tE X.K CA G W a)) : PE X (.UnaryOp .Not l p) (tE X.K CA G W (.not a)) := by
  refine PE.by_ (pe_not ha) ?_
  rintro σ H Q ⟨S, L, env, g, er, q⟩
  simp only [ev] at q
  refine tE.seq g er q fun d S1 L1 H1 v st g1 er1 r q1 => ?_
  split at q1
  · simp only [RelD] at r; subst r
    exact ⟨_, rfl, Aft.bl g1 q1⟩
  · exact q1.elim
theorem t_not {a : Ex} {l : Expr} {p : Pos} (ha : PT X l (tT X.K CA G W a)) : PT X (.UnaryOp .Not l p) (tT X.K CA G W (.not a)) := by
  refine PT.by_ (pt_not ha) ?_
  rintro σ H Q ⟨S, L, env, g, er, q⟩
  simp only [ev] at q
  refine ⟨S, L, env, g, er, q.bind.mono fun d S1 L1 H1 ⟨st, g1, q1⟩ => ?_⟩
  split at q1
  · obtain ⟨b, e, z⟩ := q1 L1 H1 Step.refl g1
    cases e
    exact ⟨_, rfl, z⟩
  · exact q1.elim
theorem s_and {a b : Ex} {l r : Expr} {rest : List Expr} {p : Pos} (ha : PE X l (tE X.K CA G W a)) (hb : PE X (.BoolOp .And (r :: rest) p) (tE X.K CA G W b)) : PE X (.BoolOp .And (l :: r :: rest) p) (tE X.K CA G W (.and a b)) := by
  refine PE.by_ (pe_and ha hb) ?_
  rintro σ H Q ⟨S, L, env, g, er, q⟩
  simp only [ev] at q
  refine tE.seq g er q fun d S1 L1 H1 v st g1 er1 r q1 => ?_
  split at q1
  · simp only [RelD] at r; subst r
    exact ⟨true, rfl, iteT (⟨S1, L1, env, g1, er1, q1⟩)⟩
  · simp only [RelD] at r; subst r
    exact ⟨false, rfl, iteF (Aft.bl g1 q1)⟩
  · exact q1.elim
theorem s_or {a b : Ex} {l r : Expr} {rest : List Expr} {p : Pos} (ha : PE X l (tE X.K CA G W a)) (hb : PE X (.BoolOp .Or (r :: rest) p) (tE X.K CA G W b)) : PE X (.BoolOp .Or (l :: r :: rest) p) (tE X.K CA G W (.or a b)) := by
  refine PE.by_ (pe_or ha hb) ?_
  rintro σ H Q ⟨S, L, env, g, er, q⟩
  simp only [ev] at q
  refine tE.seq g er q fun d S1 L1 H1 v st g1 er1 r q1 => ?_
  split at q1
  · simp only [RelD] at r; subst r
    exact ⟨true, rfl, iteT (Aft.bl g1 q1)⟩
  · simp only [RelD] at r; subst r
    exact ⟨false, rfl, iteF (⟨S1, L1, env, g1, er1, q1⟩)⟩
  · exact q1.elim
theorem t_and {a b : Ex} {l r : Expr} {rest : List Expr} {p : Pos} (ha : PT X l (tT X.K CA G W a)) (hb : PW X (.BoolOp .And (r :: rest) p) (tT X.K CA G W b)) : PW X (.BoolOp .And (l :: r :: rest) p) (tT X.K CA G W (.and a b)) := by
  refine ⟨fun wh pins s σ H Q I q => (pw_and ha hb).run wh pins s σ H Q I ?_⟩
  obtain ⟨S, L, env, g, er, q⟩ := q
  simp only [ev] at q
  refine ⟨S, L, env, g, er, q.bind.mono fun d S1 L1 H1 ⟨st, g1, q1⟩ => ?_⟩
  split at q1
  · exact ⟨true, rfl, iteT (⟨S1, L1, env, g1, er.step g st, q1⟩)⟩
  · obtain ⟨b, e, z⟩ := q1 L1 H1 Step.refl g1
    cases e
    exact ⟨false, rfl, iteF (z)⟩
  · exact q1.elim
theorem t_or {a b : Ex} {l r : Expr} {rest : List Expr} {p : Pos} (ha : PT X l (tT X.K CA G W a)) (hb : PW X (.BoolOp .Or (r :: rest) p) (tT X.K CA G W b)) : PW X (.BoolOp .Or (l :: r :: rest) p) (tT X.K CA G W (.or a b)) := by
  refine ⟨fun wh pins s σ H Q I q => (pw_or ha hb).run wh pins s σ H Q I ?_⟩
  obtain ⟨S, L, env, g, er, q⟩ := q
  simp only [ev] at q
  refine ⟨S, L, env, g, er, q.bind.mono fun d S1 L1 H1 ⟨st, g1, q1⟩ => ?_⟩
  split at q1
  · obtain ⟨b, e, z⟩ := q1 L1 H1 Step.refl g1
    cases e
    exact ⟨true, rfl, iteT (z)⟩
  · exact ⟨false, rfl, iteF (⟨S1, L1, env, g1, er.step g st, q1⟩)⟩
  · exact q1.elim
theorem isN_rel {d : D} {v : V} (r : RelD X.K L H d v) : decide (v = V.non) = isN d := by
  cases d with
  | non => simp only [RelD] at r; subst r; rfl
  | tup xs => simp only [RelD] at r; obtain ⟨p, vs, rfl, _⟩ := r; rfl
  | frl xs => simp only [RelD] at r; obtain ⟨p, vs, rfl, _⟩ := r; rfl
  | frt xs => simp only [RelD] at r; obtain ⟨p, vs, rfl, _⟩ := r; rfl
  | ref n => simp only [RelD] at r; obtain ⟨p, _, rfl⟩ := r; rfl
  | bl b => simp only [RelD] at r; subst r; rfl
  | int b => simp only [RelD] at r; subst r; rfl
  | str b => simp only [RelD] at r; subst r; rfl
theorem s_isN {a : Ex} {l : Expr} {k : Nat} {p p2 : Pos} (ha : PE X l (tE X.K CA G W a)) :
    PE X (.Compare l [.Is] [.Constant .none k p2] p) (tE X.K CA G W (.isN a)) ∧ PT X (.Compare l [.Is] [.Constant .none k p2] p) (tT X.K CA G W (.isN a)) := by
  refine ⟨PE.by_ (pe_cmpR op_isN ha pe_non rfl) ?_, PT.by_ (pt_cmpR op_isN ha pe_non rfl) ?_⟩
  · rintro σ H Q ⟨S, L, env, g, er, q⟩
    simp only [ev] at q
    refine tE.seq g er q fun d S1 L1 H1 v st g1 er1 r q1 => ⟨rfl, ?_⟩
    rw [isN_rel r]; exact Aft.bl g1 q1
  · rintro σ H Q ⟨S, L, env, g, er, q⟩
    simp only [ev] at q
    refine tE.seq g er q fun d S1 L1 H1 v st g1 er1 r q1 => ⟨rfl, ?_⟩
    rw [isN_rel r]
    obtain ⟨b, e, z⟩ := q1 L1 H1 Step.refl g1
    cases e
    exact ⟨_, rfl, z⟩
theorem s_ntN {a : Ex} {l : Expr} {k : Nat} {p p2 : Pos} (ha : PE X l (tE X.K CA G W a)) :
    PE X (.Compare l [.IsNot] [.Constant .none k p2] p) (tE X.K CA G W (.ntN a)) ∧ PT X (.Compare l [.IsNot] [.Constant .none k p2] p) (tT X.K CA G W (.ntN a)) := by
  refine ⟨PE.by_ (pe_cmpR op_notN ha pe_non rfl) ?_, PT.by_ (pt_cmpR op_notN ha pe_non rfl) ?_⟩
  · rintro σ H Q ⟨S, L, env, g, er, q⟩
    simp only [ev] at q
    refine tE.seq g er q fun d S1 L1 H1 v st g1 er1 r q1 => ⟨rfl, ?_⟩
    rw [isN_rel r]; exact Aft.bl g1 q1
  · rintro σ H Q ⟨S, L, env, g, er, q⟩
    simp only [ev] at q
    refine tE.seq g er q fun d S1 L1 H1 v st g1 er1 r q1 => ⟨rfl, ?_⟩
    rw [isN_rel r]
    obtain ⟨b, e, z⟩ := q1 L1 H1 Step.refl g1
    cases e
    exact ⟨_, rfl, z⟩
theorem s_ife {c a b : Ex} {t l r : Expr} {p : Pos} (hc : PT X t (tT X.K CA G W c)) (ha : PE X l (tE X.K CA G W a)) (hb : PE X r (tE X.K CA G W b)) : PE X (.IfExp t l r p) (tE X.K CA G W (.ife c a b)) := by
  refine PE.by_ (pe_ifExp hc ha hb) ?_
  rintro σ H Q ⟨S, L, env, g, er, q⟩
  simp only [ev] at q
  refine ⟨S, L, env, g, er, q.bind.mono fun d S1 L1 H1 ⟨st, g1, q1⟩ => ?_⟩
  split at q1
  · exact ⟨true, rfl, iteT (⟨S1, L1, env, g1, er.step g st, q1⟩)⟩
  · exact ⟨false, rfl, iteF (⟨S1, L1, env, g1, er.step g st, q1⟩)⟩
  · exact q1.elim
theorem s_chn (ok : Ok X CA G W C) {o1 o2 : Cm} {p1 p2 : CmpOp} {a b c : Ex} {l m r : Expr} {p : Pos} (h1 : cmB o1 p1 = true) (h2 : cmB o2 p2 = true) (ha : PE X l (tE X.K CA G W a)) (hb : PE X m (tE X.K CA G W b)) (hc : PE X r (tE X.K CA G W c)) :
    PE X (.Compare l [p1, p2] [m, r] p) (tE X.K CA G W (.chn o1 o2 a b c)) ∧ PT X (.Compare l [p1, p2] [m, r] p) (tT X.K CA G W (.chn o1 o2 a b c)) := by
  have hm : lastMarks [p1, p2] [m, r] = false := nomark r (by intro z; subst z; cases o2 <;> cases h2) (by intro z; subst z; cases o2 <;> cases h2)
  have core : ∀ (σ : Sl) (H : Hp) (P : D → Store → List Addr → Hp → Prop) (Q : VK), (∃ S L env, Good X.K CA S L H ∧ EnvR X.K G.pin L H env σ ∧ Aft X.K CA W σ L H (ev G (.chn o1 o2 a b c) env S) P) → (∀ d S' L' H' v, P d S' L' H' → RelD X.K L' H' d v → Q v H') →
      tChain (rBin X.K CA W σ (cmpop o1)) (rBin X.K CA W σ (cmpop o2)) (tE X.K CA G W a) (tE X.K CA G W b) (tE X.K CA G W c) σ H Q := by
    rintro σ H P Q ⟨S, L, env, g, er, q⟩ hP
    simp only [ev] at q
    refine tE.seq g er q fun d1 S1 L1 H1 v1 st1 g1 er1 r1 q1 => tE.seq g1 er1 q1 fun d2 S2 L2 H2 v2 st2 g2 er2 r2 q2 => ⟨S2, L2, d1, d2, g2, r1.step g1 st2, r2, q2.bind.mono fun k S3 L3 H3 ⟨st3, g3, q3⟩ v r => ?_⟩
    split at q3
    · simp only [RelD] at r; subst r
      refine ⟨true, rfl, ?_⟩
      rw [if_pos rfl]
      exact tE.seq g3 (er2.step g2 st3) q3 fun d4 S4 L4 H4 v4 st4 g4 er4 r4 q4 => ⟨S4, L4, d2, d4, g4, (r2.step g2 st3).step g3 st4, r4, q4.mono fun d S5 L5 H5 z v r => hP _ _ _ _ _ z r⟩
    · simp only [RelD] at r; subst r
      refine ⟨false, rfl, ?_⟩
      rw [if_neg Bool.false_ne_true]
      exact hP _ _ _ _ _ (q3 L3 H3 Step.refl g3) (by simp [RelD])
    · exact q3.elim
  refine ⟨⟨fun pins s σ H Q I q => (pe_chain (cmp_ok (W := W) ok (cmI_of h1) σ) (cmp_ok (W := W) ok (cmI_of h2) σ) ha hb hc hm).run pins s σ H Q I ?_⟩, ⟨fun pins s σ H Q I q => (pt_chain (cmp_ok (W := W) ok (cmI_of h1) σ) (cmp_ok (W := W) ok (cmI_of h2) σ) ha hb hc hm).run pins s σ H Q I ?_⟩⟩
  · exact core σ H _ Q q fun d S' L' H' v z r => z v r
  · refine core σ H _ _ q fun d S' L' H' v z r => ?_
    obtain ⟨b, rfl, z⟩ := z
    simp only [RelD] at r
    exact ⟨b, r, z⟩
theorem s_nil : PA X [] (tEs X.K CA G W []) := by
  refine PA.by_ pa_nil ?_
  rintro σ H Q ⟨S, L, env, g, er, q⟩
  simp only [evs] at q
  exact q L H Step.refl g [] RelDs.nil
theorem s_cons {a : Ex} {xs : List Ex} {es : List Expr} (ha : PE X e (tE X.K CA G W a)) (hs : PA X es (tEs X.K CA G W xs)) (st : starEach (e :: es) X.env = (false, eval e X.env) :: starEach es X.env) : PA X (e :: es) (tEs X.K CA G W (a :: xs)) := by
  refine PA.by_ (pa_cons ha hs st) ?_
  rintro σ H Q ⟨S, L, env, g, er, q⟩
  simp only [evs] at q
  exact tE.seq g er q fun d S1 L1 H1 v st g1 er1 r q1 => tEs.seq g1 er1 q1 fun ds S2 L2 H2 vs st2 g2 er2 rs q2 => q2 L2 H2 Step.refl g2 _ (RelDs.cons (r.step g1 st2) rs)
theorem evs_length : ∀ (xs : List Ex) {env : Env} {S S' : Store} {ds : List D}, evs G xs env S = .ok ds S' → ds.length = xs.length
  | [], env, S, S', ds, h => by simp only [evs, R.ok.injEq] at h; rw [← h.1]; rfl
  | x :: xs, env, S, S', ds, h => by
    simp only [evs] at h
    cases h1 : ev G x env S with
    | bad => rw [h1] at h; cases h
    | exc c S1 => rw [h1] at h; cases h
    | ok d S1 =>
      rw [h1] at h
      simp only [R.bind] at h
      cases h2 : evs G xs env S1 with
      | bad => rw [h2] at h; cases h
      | exc c S2 => rw [h2] at h; cases h
      | ok ds2 S2 =>
        rw [h2] at h
        simp only [R.ok.injEq] at h
        rw [← h.1, List.length_cons, evs_length xs h2, List.length_cons]
theorem Aft.len {xs : List Ex} {env : Env} {P : List D → Store → List Addr → Hp → Prop} (h : Aft X.K CA W σ L H (evs G xs env S) P) : Aft X.K CA W σ L H (evs G xs env S) fun ds S' L' H' => ds.length = xs.length ∧ P ds S' L' H' := by
  cases e : evs G xs env S with
  | bad => rw [e] at h; exact h
  | exc c S1 => rw [e] at h; exact h
  | ok ds S1 =>
    rw [e] at h
    exact fun L' H' st g => ⟨evs_length xs e, h L' H' st g⟩
theorem s_tup {xs : List Ex} {es : List Expr} {k : Nat} {p : Pos} (h : PA X es (tEs X.K CA G W xs)) (hl : xs.length ≤ lim) : PE X (.Tuple es k p) (tE X.K CA G W (.tup xs)) := by
  refine PE.by_ (pe_tup h) ?_
  rintro σ H Q ⟨S, L, env, g, er, q⟩
  simp only [ev] at q
  refine ⟨S, L, env, g, er, q.bind.len.mono fun ds S1 L1 H1 ⟨hlen, st, g1, q1⟩ vs r => ⟨by rw [r.length, hlen]; exact Nat.le_of_lt (small hl), fun p hp => ?_⟩⟩
  obtain ⟨st2, g2⟩ := g1.side (o := .tup vs) hp
  refine q1 _ _ st2 g2 (.ref p) ?_
  simp only [RelD]
  exact ⟨p, vs, rfl, upd_same, r.step g1 st2⟩
theorem s_lst {xs : List Ex} {es : List Expr} {p : Pos} (h : PA X es (tEs X.K CA G W xs)) (hl : xs.length ≤ lim) : PE X (.List es p) (tE X.K CA G W (.lst xs)) := by
  refine PE.by_ (pe_lst h) ?_
  rintro σ H Q ⟨S, L, env, g, er, q⟩
  simp only [ev] at q
  exact ⟨S, L, env, g, er, q.bind.len.mono fun ds S1 L1 H1 ⟨hlen, st, g1, q1⟩ vs r => ⟨by rw [r.length, hlen]; exact Nat.le_of_lt (small hl), fun p hp => Aft.lst g1 q1 r hp⟩⟩
theorem s_idx {a i : Ex} {l s : Expr} {p : Pos} (hs : notSl s = true) (ha : PE X l (tE X.K CA G W a)) (hb : PE X s (tE X.K CA G W i)) : PE X (.Subscript l s p) (tE X.K CA G W (.idx a i)) := by
  have hp : PlainIx s := by
    intro o i
    cases s <;> first | rfl | (exact absurd hs Bool.false_ne_true)
  refine ⟨fun pins s σ H Q I q => (pe_ix (ix_ok (CA := CA) (W := W) σ) ha hb hp).run pins s σ H Q I ?_⟩
  obtain ⟨S, L, env, g, er, q⟩ := q
  simp only [ev] at q
  exact tE.seq g er q fun d1 S1 L1 H1 v1 st1 g1 er1 r1 q1 => tE.seq g1 er1 q1 fun d2 S2 L2 H2 v2 st2 g2 er2 r2 q2 => ⟨S2, L2, d1, d2, g2, r1.step g1 st2, r2, q2⟩
theorem intO_some {d : D} {l : Option Int} (h : intO (some d) = some l) : ∃ i, d = .int i ∧ l = some i := by
  cases d <;> simp [intO] at h
  exact ⟨_, rfl, h.symm⟩
theorem slice_ints {x : D} {lo hi : Option D} {P : D → Store → List Addr → Hp → Prop} (q : Aft X.K CA W σ L H (slice x lo hi S) P) : ∃ l h, intO lo = some l ∧ intO hi = some h := by
  unfold slice at q
  split at q
  · split at q
    · rename_i l h e1 e2; exact ⟨l, h, e1, e2⟩
    · exact q.elim
  · split at q
    · rename_i l h e1 e2; exact ⟨l, h, e1, e2⟩
    · exact q.elim
  · split at q
    · rename_i xs l h _ e1 e2; exact ⟨l, h, e1, e2⟩
    · exact q.elim
theorem s_slT {a b : Ex} {l r : Expr} {p p2 : Pos} (ha : PE X l (tE X.K CA G W a)) (hb : PE X r (tE X.K CA G W b)) : PE X (.Subscript l (.Slice none (some r) none p2) p) (tE X.K CA G W (.slT a b)) := by
  refine ⟨fun pins s σ H Q I q => ?_⟩
  obtain ⟨S, L, env, g, er, q⟩ := q
  simp only [ev] at q
  have key : tE X.K CA G W a σ H fun x H1 => tNoPart σ H1 fun lo H2 => tPart (tE X.K CA G W b) σ H2 fun hi H3 => ∃ S L dx d2, Good X.K CA S L H3 ∧ RelD X.K L H3 dx x ∧ intO none = some lo ∧ intO (some d2) = some hi ∧ Aft X.K CA W σ L H3 (slice dx none (some d2) S) fun d _ L' H' => ∀ v, RelD X.K L' H' d v → Q v H' := by
    refine tE.seq g er q fun d1 S1 L1 H1 v1 st1 g1 er1 r1 q1 => tE.seq g1 er1 q1 fun d2 S2 L2 H2 v2 st2 g2 er2 r2 q2 => ?_
    obtain ⟨lo, hi, e1, e2⟩ := slice_ints q2
    obtain ⟨i, rfl, rfl⟩ := intO_some e2
    simp only [RelD] at r2
    cases e1
    exact ⟨i, r2, S2, L2, d1, .int i, g2, r1.step g1 st2, rfl, rfl, q2⟩
  have big : SlR X (fun vx lo hi H Q => ∃ S L dx d2, Good X.K CA S L H ∧ RelD X.K L H dx vx ∧ intO none = some lo ∧ intO (some d2) = some hi ∧ Aft X.K CA W σ L H (slice dx none (some d2) S) fun d _ L' H' => ∀ v, RelD X.K L' H' d v → Q v H') := by
    intro pins s σ' H x v vl vu lo hi sl Q I rx hs pl pu q
    obtain ⟨S, L, dx, d2, q⟩ := q
    exact sl_ok (CA := CA) (W := W) (lo := none) (hi := some d2) σ pins s σ' H x v vl vu lo hi sl Q I rx hs pl pu ⟨S, L, dx, q⟩
  exact (pe_slice big ha po_none (po_some hb)).run pins s σ H Q I key
theorem s_slF {a b : Ex} {l r : Expr} {p p2 : Pos} (ha : PE X l (tE X.K CA G W a)) (hb : PE X r (tE X.K CA G W b)) : PE X (.Subscript l (.Slice (some r) none none p2) p) (tE X.K CA G W (.slF a b)) := by
  refine ⟨fun pins s σ H Q I q => ?_⟩
  obtain ⟨S, L, env, g, er, q⟩ := q
  simp only [ev] at q
  have key : tE X.K CA G W a σ H fun x H1 => tPart (tE X.K CA G W b) σ H1 fun lo H2 => tNoPart σ H2 fun hi H3 => ∃ S L dx d2, Good X.K CA S L H3 ∧ RelD X.K L H3 dx x ∧ intO (some d2) = some lo ∧ intO none = some hi ∧ Aft X.K CA W σ L H3 (slice dx (some d2) none S) fun d _ L' H' => ∀ v, RelD X.K L' H' d v → Q v H' := by
    refine tE.seq g er q fun d1 S1 L1 H1 v1 st1 g1 er1 r1 q1 => tE.seq g1 er1 q1 fun d2 S2 L2 H2 v2 st2 g2 er2 r2 q2 => ?_
    obtain ⟨lo, hi, e1, e2⟩ := slice_ints q2
    obtain ⟨i, rfl, rfl⟩ := intO_some e1
    simp only [RelD] at r2
    cases e2
    exact ⟨i, r2, S2, L2, d1, .int i, g2, r1.step g1 st2, rfl, rfl, q2⟩
  have big : SlR X (fun vx lo hi H Q => ∃ S L dx d2, Good X.K CA S L H ∧ RelD X.K L H dx vx ∧ intO (some d2) = some lo ∧ intO none = some hi ∧ Aft X.K CA W σ L H (slice dx (some d2) none S) fun d _ L' H' => ∀ v, RelD X.K L' H' d v → Q v H') := by
    intro pins s σ' H x v vl vu lo hi sl Q I rx hs pl pu q
    obtain ⟨S, L, dx, d2, q⟩ := q
    exact sl_ok (CA := CA) (W := W) (lo := some d2) (hi := none) σ pins s σ' H x v vl vu lo hi sl Q I rx hs pl pu ⟨S, L, dx, q⟩
  exact (pe_slice big ha (po_some hb) po_none).run pins s σ H Q I key
theorem s_slB {a b c : Ex} {l r t : Expr} {p p2 : Pos} (ha : PE X l (tE X.K CA G W a)) (hb : PE X r (tE X.K CA G W b)) (hc : PE X t (tE X.K CA G W c)) : PE X (.Subscript l (.Slice (some r) (some t) none p2) p) (tE X.K CA G W (.slB a b c)) := by
  refine ⟨fun pins s σ H Q I q => ?_⟩
  obtain ⟨S, L, env, g, er, q⟩ := q
  simp only [ev] at q
  have key : tE X.K CA G W a σ H fun x H1 => tPart (tE X.K CA G W b) σ H1 fun lo H2 => tPart (tE X.K CA G W c) σ H2 fun hi H3 => ∃ S L dx d2 d3, Good X.K CA S L H3 ∧ RelD X.K L H3 dx x ∧ intO (some d2) = some lo ∧ intO (some d3) = some hi ∧ Aft X.K CA W σ L H3 (slice dx (some d2) (some d3) S) fun d _ L' H' => ∀ v, RelD X.K L' H' d v → Q v H' := by
    refine tE.seq g er q fun d1 S1 L1 H1 v1 st1 g1 er1 r1 q1 => tE.seq g1 er1 q1 fun d2 S2 L2 H2 v2 st2 g2 er2 r2 q2 => ?_
    split at q2
    · rename_i hi2
      cases d2 <;> try (exact absurd hi2 Bool.false_ne_true)
      rename_i i
      simp only [RelD] at r2
      refine ⟨i, r2, tE.seq g2 er2 q2 fun d3 S3 L3 H3 v3 st3 g3 er3 r3 q3 => ?_⟩
      obtain ⟨lo, hi, e1, e2⟩ := slice_ints q3
      obtain ⟨j, rfl, rfl⟩ := intO_some e2
      simp only [RelD] at r3
      exact ⟨j, r3, S3, L3, d1, .int i, .int j, g3, (r1.step g1 st2).step g2 st3, rfl, rfl, q3⟩
    · exact q2.elim
  have big : SlR X (fun vx lo hi H Q => ∃ S L dx d2 d3, Good X.K CA S L H ∧ RelD X.K L H dx vx ∧ intO (some d2) = some lo ∧ intO (some d3) = some hi ∧ Aft X.K CA W σ L H (slice dx (some d2) (some d3) S) fun d _ L' H' => ∀ v, RelD X.K L' H' d v → Q v H') := by
    intro pins s σ' H x v vl vu lo hi sl Q I rx hs pl pu q
    obtain ⟨S, L, dx, d2, d3, q⟩ := q
    exact sl_ok (CA := CA) (W := W) (lo := some d2) (hi := some d3) σ pins s σ' H x v vl vu lo hi sl Q I rx hs pl pu ⟨S, L, dx, q⟩
  exact (pe_slice big ha (po_some hb) (po_some hc)).run pins s σ H Q I key
theorem s_rev {a : Ex} {l : Expr} {k : Nat} {p p1 p2 p3 : Pos} (ha : PE X l (tE X.K CA G W a)) : PE X (.Subscript l (.Slice none none (some (.UnaryOp .USub (.Constant (.int 1) k p1) p2)) p3) p) (tE X.K CA G W (.rev a)) := by
  refine PE.by_ (pe_revL ha) ?_
  rintro σ H Q ⟨S, L, env, g, er, q⟩
  simp only [ev] at q
  refine tE.seq g er q fun d S1 L1 H1 v st g1 er1 r q1 => ?_
  split at q1
  · rename_i xs hx
    obtain ⟨b, vs, rfl, sq, r⟩ := lstOf_rel g1 hx r
    exact ⟨b, vs, rfl, sq, fun p hp => Aft.lst g1 q1 r.reverse hp⟩
  · exact q1.elim
end
end Lt
set_option maxHeartbeats 1000000
namespace Lt
open PySem PySem.Spec PyProof.Rows L2
section
variable {X : Cx} {CA : Str → Addr} {G : Cxp} {W : WX} {C : MC} {S S' : Store} {L L1 M2 L' : List Addr} {H H1 H2 H' : Hp} {σ : Sl} {e : Expr}
theorem s_call (ok : Ok X CA G W C) {f : Str} {xs : List Ex} {es : List Expr} {q p : Pos} (h1 : gloB C.sc f = true) (h2 : nmOk f = true) (h3 : C.fs f xs.length = true) (hnr : (!C.nar || C.nr f) = true) (h : PA X es (tEs X.K CA G W xs)) (hm : mEs xs C es = true) :
    PE X (.Call (.Name f q) es [] p) (tE X.K CA G W (.call f xs)) := by
  obtain ⟨a, fd, ps, ds, dvs, k, sp, F, hr, hmg, hk, hb, hd, hsp⟩ := ok.call f xs.length h3
  have gl := gl_of ok h1
  have dbg := (nm_of h2).1
  have key : ∀ (σ : Sl) (H : Hp) (Q : VK), tE X.K CA G W (.call f xs) σ H Q → tEs X.K CA G W xs σ H fun vs H1 => sp (vs ++ dvs) H1 Q (WE W σ) := by
    rintro σ H Q ⟨S, L, env, g, er, q⟩
    simp only [ev] at q
    exact ⟨S, L, env, g, er, q.bind.len.mono fun d S1 L1 H1 ⟨hl, st, g1, q1⟩ vs r => hsp vs d S1 L1 H1 σ Q _ g1 r hl q1⟩
  cases es with
  | nil =>
    have e0 : xs = [] := by
      cases xs with
      | nil => rfl
      | cons x xs => obtain ⟨e, r, z, _⟩ := mEs_cons hm; cases z
    subst e0
    refine ⟨fun pins s σ H Q I q => ?_⟩
    have k2 := key σ H Q q
    have k3 : sp ([] ++ dvs) H Q (WE W σ) := by
      obtain ⟨S, L, env, g, er, q⟩ := k2
      simp only [evs] at q
      exact q L H Step.refl g [] RelDs.nil
    refine wpAny_Call_Name_kw (ld_glob I gl hmg ?_ dbg)
    exact PySem.W.callWith_K0 I.kIn hk (run_fnSD (us := []) (E := WE W) F hr hb hd (passM ok.tk hnr σ) I .nil k3)
  | cons e es =>
    cases xs with
    | nil => have z := mEs_nil hm; cases z
    | cons x xs =>
      obtain ⟨e', r', z, s1, _, s2⟩ := mEs_cons hm
      cases z
      refine ⟨fun pins s σ H Q I q => (pe_callSD (E := WE W) F hr gl hmg hk hb hd (passM ok.tk hnr) h dbg (star_of s1 es X.env) (stars_ok s2 p X.env)).run pins s σ H Q I (key σ H Q q)⟩
theorem run_fnSN {CX : CXT} {k n : Nat} {f : Addr} {fd : FuncData} {ps ks : List Str} {sp : Sp} {E : Sl → XK} {g : List Value → List Value → List Value} {gV : List V → List V → List V} {pins : List (Addr × Obj)} {s : Shared} {Q : VK} {us ws : List Value} {vs zs : List V} (F : FnOk X.prog X.w X.K X.mg X.base CX k f fd ps sp) (hr : Room k X.A) (hb : KBn X.K fd ps n ks g gV) (hx : PassesAt CX X σ (E σ))
    (I : Inv X pins σ H s) (r : Vals vs us) (rz : Vals zs ws) (l1 : vs.length = n) (l2 : zs.length = ks.length) (h : sp (gV vs zs) H Q (E σ)) : wpAny (model X.prog X.w) X.A (PySem.call (.ref f) us (ks.zip ws)) (EP X pins σ Q) X.xe s := by
  have r2 := hb.rel r rz
  refine wpAny_call (codeAny_mono (F.run X.A X.stack s H ⟨us, ks.zip ws⟩ (g us ws) (gV vs zs) Q (E σ) hr I.env0 (hb.to s us ws I.kIn (r.length.symm.trans l1) (rz.length.symm.trans l2)) r2 h) fun r s' hq => ?_)
  cases r with
  | error e => exact hx pins H s e s' I hq
  | ok fl =>
    cases fl with
    | ret u => exact I.after hq
    | next => exact False.elim hq
    | brk => exact False.elim hq
    | cont => exact False.elim hq
/-- the last argument by its name -/
theorem s_callK (ok : Ok X CA G W C) {f kn : Str} {xs : List Ex} {a : Ex} {es : List Expr} {v : Expr} {q p kp : Pos} (h1 : gloB C.sc f = true) (h2 : nmOk f = true) (hn : 1 ≤ xs.length) (h3 : C.fk f xs.length kn = true) (hnr : (!C.nar) = true) (h : PA X es (tEs X.K CA G W xs)) (hm : mEs xs C es = true) (ha : PE X v (tE X.K CA G W a)) :
    PE X (.Call (.Name f q) es [⟨some kn, v, kp⟩] p) (tE X.K CA G W (.callK f xs a)) := by
  obtain ⟨af, fd, ps, k, sp, F, hr, hmg, hk, hb, hsp⟩ := ok.callK f xs.length kn h3
  have gl := gl_of ok h1
  have dbg := (nm_of h2).1
  have key : ∀ (σ : Sl) (H : Hp) (Q : VK), tE X.K CA G W (.callK f xs a) σ H Q → tEs X.K CA G W xs σ H fun vs H1 => tCons (tE X.K CA G W a) tNil σ H1 fun zs H2 => vs.length = xs.length ∧ zs.length = [kn].length ∧ sp (vs ++ zs) H2 Q (WE W σ) := by
    rintro σ H Q ⟨S, L, env, g, er, q⟩
    simp only [ev] at q
    refine ⟨S, L, env, g, er, q.bind.len.mono fun ds S1 L1 H1 ⟨hl, st, g1, q1⟩ vs r => ?_⟩
    show tE X.K CA G W a σ H1 fun z H2 => vs.length = xs.length ∧ [z].length = [kn].length ∧ sp (vs ++ [z]) H2 Q (WE W σ)
    exact tE.seq g1 (er.step g st) q1 fun d S2 L2 H2 z st2 g2 er2 rz q2 => ⟨by rw [r.length, hl], rfl, hsp (vs ++ [z]) (ds ++ [d]) S2 L2 H2 σ Q _ g2 (RelDs.append (r.step g1 st2) (RelDs.cons rz RelDs.nil)) (by simp [hl]) q2⟩
  cases xs with
  | nil => simp at hn
  | cons x xs =>
    obtain ⟨e, es', z, s1, _, s2⟩ := mEs_cons hm
    subst z
    have hpl : ((backTo p (starEach (e :: es') X.env)).any (·.1) || (backToKw p (keywordEach [⟨some kn, v, kp⟩] X.env)).any (·.1.isNone)) = false := by
      rw [stars_ok hm p X.env]
      rfl
    refine ⟨fun pins s σ H Q I q => ?_⟩
    refine wpAny_Call_Name_kw (ld_glob I gl hmg ?_ dbg)
    refine PySem.W.callWith_KW (h₀ := X.base) I.ok.mod.kin hk rfl (thn (h.run p pins s σ H _ I (key σ H Q q)) fun us s1 ⟨vs, H1, I1, r, q1⟩ => ?_) hpl (star_of s1 es' X.env)
    refine thn ((pk_cons (nm := some kn) (kpos := kp) ha pk_nil).run p pins s1 σ H1 _ I1 q1) fun ws s2 ⟨zs, H2, I2, rz, l1, l2, q2⟩ => ⟨I2.kIn, ?_⟩
    exact run_fnSN (ks := [kn]) (E := WE W) F hr hb (passAt (ok.tkw hnr) σ) I2 r rz l1 l2 q2
theorem bi_none (ok : Ok X CA G W C) (b : Bi) : X.mg (biN b) = none := by
  cases b <;> exact ok.free _ (by decide +kernel)
theorem s_bi (ok : Ok X CA G W C) {b : Bi} {xs : List Ex} {es : List Expr} {q p : Pos} (hbi : biOk C b = true) (h1 : gloB C.sc (biN b) = true) (h : PA X es (tEs X.K CA G W xs)) (hm : mEs xs C es = true) (hn : xs ≠ []) :
    PE X (.Call (.Name (biN b) q) es [] p) (tE X.K CA G W (.bi b xs)) := by
  have gl := gl_of ok h1
  have mg := bi_none ok b
  have key : ∀ (σ : Sl) (H : Hp) (Q : VK), tE X.K CA G W (.bi b xs) σ H Q → tCB (rBi X.K CA W σ b) (tEs X.K CA G W xs) σ H Q := by
    rintro σ H Q ⟨S, L, env, g, er, q⟩
    simp only [ev] at q
    exact tEs.seq g er q fun d S1 L1 H1 v st g1 er1 r q1 => ⟨S1, L1, d, g1, r, q1⟩
  cases xs with
  | nil => exact absurd rfl hn
  | cons x xs =>
    obtain ⟨e, es', z, s1, _, s2⟩ := mEs_cons hm
    subst z
    refine ⟨fun pins s σ H Q I q => ?_⟩
    have c := bi_ok (W := W) ok b hbi σ
    have r := key σ H Q q
    cases b
    · exact (pe_callB c gl mg (by decide +kernel) h (by decide +kernel) (by decide +kernel) (star_of s1 es' X.env) (stars_ok s2 p X.env)).run pins s σ H Q I r
    · exact (pe_callB c gl mg (by decide +kernel) h (by decide +kernel) (by decide +kernel) (star_of s1 es' X.env) (stars_ok s2 p X.env)).run pins s σ H Q I r
    · exact (pe_callTy c gl mg (by decide +kernel) h (by decide +kernel) (by decide +kernel) (star_of s1 es' X.env) (stars_ok s2 p X.env)).run pins s σ H Q I r
    · exact (pe_callTy c gl mg (by decide +kernel) h (by decide +kernel) (by decide +kernel) (star_of s1 es' X.env) (stars_ok s2 p X.env)).run pins s σ H Q I r
    · exact (pe_callTy c gl mg (by decide +kernel) h (by decide +kernel) (by decide +kernel) (star_of s1 es' X.env) (stars_ok s2 p X.env)).run pins s σ H Q I r
    · exact (pe_callTy c gl mg (by decide +kernel) h (by decide +kernel) (by decide +kernel) (star_of s1 es' X.env) (stars_ok s2 p X.env)).run pins s σ H Q I r
    · exact (pe_callB c gl mg (by decide +kernel) h (by decide +kernel) (by decide +kernel) (star_of s1 es' X.env) (stars_ok s2 p X.env)).run pins s σ H Q I r
    · exact (pe_callB c gl mg (by decide +kernel) h (by decide +kernel) (by decide +kernel) (star_of s1 es' X.env) (stars_ok s2 p X.env)).run pins s σ H Q I r
    · exact (pe_callB c gl mg (by decide +kernel) h (by decide +kernel) (by decide +kernel) (star_of s1 es' X.env) (stars_ok s2 p X.env)).run pins s σ H Q I r
def tyS : Ty → String
  | .int => "int"
  | .bool => "bool"
  | .str => "str"
  | .tuple => "tuple"
  | .list => "list"
theorem ty_none (ok : Ok X CA G W C) (t : Ty) : X.mg (tyN t) = none := by
  cases t <;> exact ok.free _ (by decide +kernel)
theorem ty_boot (t : Ty) : bootBuiltins (tyN t) = some (.type (tyS t)) := by
  cases t <;> decide +kernel
theorem pe_ty (ok : Ok X CA G W C) (t : Ty) {p : Pos} (h : gloB C.sc (tyN t) = true) : PE X (.Name (tyN t) p) (tC (.ty (tyS t))) :=
  pe_bltn (gl_of ok h) (ty_none ok t) (ty_boot t) rfl (by cases t <;> decide +kernel) (by cases t <;> decide +kernel)
/-- the type that a value has, by name -/
def tyOf (S : Store) : D → Option String
  | .non => some "NoneType"
  | .bl _ => some "bool"
  | .int _ => some "int"
  | .str _ => some "str"
  | .tup _ => some "tuple"
  | .frl _ => some "list"
  | .frt _ => some "tuple"
  | .ref r => match getL S r with
    | some _ => some "list"
    | none => none
theorem tyOf_rel (g : Good X.K CA S L H) {d : D} {v : V} {n : String} (h : tyOf S d = some n) (r : RelD X.K L H d v) : TyX X.K H v (.type n) := by
  cases d with
  | non => simp only [RelD] at r; subst r; simp only [tyOf, Option.some.injEq] at h; subst h; exact .base .non
  | bl b => simp only [RelD] at r; subst r; simp only [tyOf, Option.some.injEq] at h; subst h; exact .base (.bl b)
  | int b => simp only [RelD] at r; subst r; simp only [tyOf, Option.some.injEq] at h; subst h; exact .base (.int b)
  | str b => simp only [RelD] at r; subst r; simp only [tyOf, Option.some.injEq] at h; subst h; exact .base (.str b)
  | tup xs =>
    simp only [RelD] at r; simp only [tyOf, Option.some.injEq] at h; subst h
    obtain ⟨p, vs, rfl, sq, _⟩ := r
    exact .base (.tup sq)
  | frl xs =>
    simp only [RelD] at r; simp only [tyOf, Option.some.injEq] at h; subst h
    obtain ⟨p, vs, rfl, sq, _⟩ := r
    rcases sq with ⟨o, sq⟩ | ⟨o, its, n, k1, k2, _⟩
    · exact .base (.frz sq)
    · exact .kList k1 k2
  | frt xs =>
    simp only [RelD] at r; simp only [tyOf, Option.some.injEq] at h; subst h
    obtain ⟨p, vs, rfl, ⟨o, its, n, k1, k2, _⟩, _⟩ := r
    exact .kTuple k1 k2
  | ref n =>
    simp only [RelD] at r; simp only [tyOf] at h
    obtain ⟨a, hn, rfl⟩ := r
    cases e : getL S n with
    | none => rw [e] at h; cases h
    | some xs =>
      rw [e] at h
      simp only [Option.some.injEq] at h; subst h
      obtain ⟨vs, q, _⟩ := getL_rel g e hn
      exact .base (.lst q)
theorem isTy_kit (S : Store) (t : Ty) (d : D) {b : Bool} (h : isTy S t d = some b) : ∃ n, tyOf S d = some n ∧ kitB n (tyS t) = some b := by
  cases d with
  | ref r =>
    simp only [isTy] at h
    cases e : getL S r with
    | none => rw [e] at h; cases h
    | some xs =>
      rw [e] at h
      simp only [Option.some.injEq] at h
      subst h
      refine ⟨"list", by simp [tyOf, e], ?_⟩
      cases t <;> decide +kernel
  | non => simp only [isTy, Option.some.injEq] at h; subst h; exact ⟨_, rfl, by cases t <;> decide +kernel⟩
  | bl x => simp only [isTy, Option.some.injEq] at h; subst h; exact ⟨_, rfl, by cases t <;> decide +kernel⟩
  | int x => simp only [isTy, Option.some.injEq] at h; subst h; exact ⟨_, rfl, by cases t <;> decide +kernel⟩
  | str x => simp only [isTy, Option.some.injEq] at h; subst h; exact ⟨_, rfl, by cases t <;> decide +kernel⟩
  | tup x => simp only [isTy, Option.some.injEq] at h; subst h; exact ⟨_, rfl, by cases t <;> decide +kernel⟩
  | frl x => simp only [isTy, Option.some.injEq] at h; subst h; exact ⟨_, rfl, by cases t <;> decide +kernel⟩
  | frt x => simp only [isTy, Option.some.injEq] at h; subst h; exact ⟨_, rfl, by cases t <;> decide +kernel⟩
theorem s_isI (ok : Ok X CA G W C) {t : Ty} {a : Ex} {l : Expr} {q q2 p : Pos} (h1 : gloB C.sc "isinstance" = true) (h2 : gloB C.sc (tyN t) = true) (hs : notSt l = true) (ha : PE X l (tE X.K CA G W a)) :
    PE X (.Call (.Name "isinstance" q) [l, .Name (tyN t) q2] [] p) (tE X.K CA G W (.isI a t)) := by
  refine PE.by_ (pe_callB call_isi (gl_of ok h1) (ok.free _ (by decide +kernel)) (by decide +kernel) (pa_cons ha (pa_cons (pe_ty ok t h2) pa_nil (star_of rfl [] X.env)) (star_of hs _ X.env)) (by decide +kernel) (by decide +kernel) (star_of hs _ X.env) (by rw [star_of rfl [] X.env]; rfl)) ?_
  rintro σ H Q ⟨S, L, env, g, er, q⟩
  simp only [ev] at q
  refine tE.seq g er q fun d S1 L1 H1 v st g1 er1 r q1 => ?_
  split at q1
  · rename_i b hb
    obtain ⟨n, e1, e2⟩ := isTy_kit _ _ _ hb
    exact ⟨v, .ty (tyS t), _, _, b, rfl, .ty _, tyOf_rel g1 e1 r, kit_ty e2, Aft.bl g1 q1⟩
  · exact q1.elim
theorem base_of {o : Expr} (h : notCall o = true) (n : Str) (env : PySem.Env) : attributeBase o n env (eval o env) = eval o env := by
  cases o <;> first | rfl | (exact absurd h Bool.false_ne_true)
theorem few_of (h : notSt e = true) (cp : Pos) (env : PySem.Env) : ((backTo cp (starEach [e] env)).all (fun x => !x.1) && (backToKw cp (keywordEach [] env)).all (fun x => x.1.isSome)
      && decide (([e] : List Expr).length + ([] : List Keyword).length + (if ([] : List Keyword).isEmpty then 0 else 1) < 30)) = true := by
  rw [star_of h [] env]; rfl
theorem isLst_rel (g : Good X.K CA S L H) {d : D} {v : V} (h : isLst d S = true) (r : RelD X.K L H d v) : tyV X.K "list" v H ∧ ∃ n xs a vs, d = .ref n ∧ getL S n = some xs ∧ L[n]? = some a ∧ v = .ref a ∧ H a = some (.lst vs) ∧ RelDs X.K L H xs vs := by
  unfold isLst at h
  split at h
  · rename_i n
    obtain ⟨xs, hx⟩ := Option.isSome_iff_exists.mp h
    simp only [RelD] at r
    obtain ⟨a, hn, rfl⟩ := r
    obtain ⟨vs, q, r⟩ := getL_rel g hx hn
    exact ⟨.inl ⟨rfl, vs, SqL.of q⟩, n, xs, a, vs, rfl, hx, hn, rfl, q, r⟩
  · cases h
theorem s_app {o a : Ex} {l r : Expr} {ap cp : Pos} (hc : notCall l = true) (hl : (ap.endLine == cp.line) = true) (hs : notSt r = true) (ho : PE X l (tE X.K CA G W o)) (ha : PE X r (tE X.K CA G W a)) :
    PE X (.Call (.Attribute l "append" ap) [r] [] cp) (tE X.K CA G W (.app o a)) := by
  refine PE.by_ (pe_bm PySem.F.plainAttrs_list PySem.F.slot_list_append PySem.F.type_list_append mt_append ho (pa_cons ha pa_nil (star_of hs [] X.env)) (base_of hc _ _) (few_of hs cp X.env) hl (star_of hs [] X.env) rfl) ?_
  rintro σ H Q ⟨S, L, env, g, er, q⟩
  simp only [ev] at q
  refine tE.seq g er q fun d S1 L1 H1 v st g1 er1 r1 q1 => ?_
  split at q1
  · rename_i hi
    refine ⟨(isLst_rel g1 hi r1).1, tE.seq g1 er1 q1 fun d2 S2 L2 H2 v2 st2 g2 er2 r2 q2 => ?_⟩
    unfold append at q2
    split at q2
    · split at q2
      · rename_i n xs hx
        split at q2
        · rename_i hz
          simp only [RelD] at r1
          obtain ⟨b, hn, rfl⟩ := r1
          obtain ⟨vs, e1, rs⟩ := getL_rel g2 hx (st2.get hn)
          refine ⟨b, vs, v2, rfl, rfl, e1, by rw [rs.length]; exact small (Nat.le_of_lt hz), Aft.set g2 q2 (st2.get hn) e1 (rs.append (RelDs.cons r2 RelDs.nil)) fun H' => by simp [RelD]⟩
        · exact q2.elim
      · exact q2.elim
    · exact q2.elim
  · exact q1.elim
theorem s_ext {o a : Ex} {l r : Expr} {ap cp : Pos} (hc : notCall l = true) (hl : (ap.endLine == cp.line) = true) (hs : notSt r = true) (ho : PE X l (tE X.K CA G W o)) (ha : PE X r (tE X.K CA G W a)) :
    PE X (.Call (.Attribute l "extend" ap) [r] [] cp) (tE X.K CA G W (.ext o a)) := by
  refine PE.by_ (pe_bm PySem.F.plainAttrs_list PySem.F.slot_list_extend PySem.F.type_list_extend mt_extend ho (pa_cons ha pa_nil (star_of hs [] X.env)) (base_of hc _ _) (few_of hs cp X.env) hl (star_of hs [] X.env) rfl) ?_
  rintro σ H Q ⟨S, L, env, g, er, q⟩
  simp only [ev] at q
  refine tE.seq g er q fun d S1 L1 H1 v st g1 er1 r1 q1 => ?_
  split at q1
  · rename_i hi
    refine ⟨(isLst_rel g1 hi r1).1, tE.seq g1 er1 q1 fun d2 S2 L2 H2 v2 st2 g2 er2 r2 q2 => ?_⟩
    unfold extend at q2
    split at q2
    · split at q2
      · rename_i n m xs ys hx hy
        split at q2
        · rename_i hz
          simp only [RelD] at r1 r2
          obtain ⟨b, hn, rfl⟩ := r1
          obtain ⟨c, hm, rfl⟩ := r2
          obtain ⟨vs, e1, rs⟩ := getL_rel g2 hx (st2.get hn)
          obtain ⟨ws, e2, rt⟩ := getL_rel g2 hy hm
          refine ⟨b, c, vs, ws, rfl, rfl, e1, e2, by rw [rs.length, rt.length]; exact Nat.le_of_lt (small hz), Aft.set g2 q2 (st2.get hn) e1 (rs.append rt) fun H' => by simp [RelD]⟩
        · exact q2.elim
      · exact q2.elim
    · exact q2.elim
  · exact q1.elim
theorem s_clr {o : Ex} {l : Expr} {ap cp : Pos} (hc : notCall l = true) (hl : (ap.endLine == cp.line) = true) (ho : PE X l (tE X.K CA G W o)) :
    PE X (.Call (.Attribute l "clear" ap) [] [] cp) (tE X.K CA G W (.clr o)) := by
  refine PE.by_ (pe_bm0 PySem.F.plainAttrs_list PySem.F.slot_list_clear PySem.F.type_list_clear mt_clear ho (base_of hc _ _) hl) ?_
  rintro σ H Q ⟨S, L, env, g, er, q⟩
  simp only [ev] at q
  refine tE.seq g er q fun d S1 L1 H1 v st g1 er1 r1 q1 => ?_
  unfold clear at q1
  split at q1
  · split at q1
    · rename_i n xs hx
      obtain ⟨ty, _⟩ := isLst_rel g1 (by simp [isLst, hx]) r1
      simp only [RelD] at r1
      obtain ⟨b, hn, rfl⟩ := r1
      obtain ⟨vs, e1, rs⟩ := getL_rel g1 hx hn
      exact ⟨ty, b, vs, rfl, rfl, e1, Aft.set g1 q1 hn e1 RelDs.nil fun H' => by simp [RelD]⟩
    · exact q1.elim
  · exact q1.elim
/-- all slots but these are as they were -/
def SameOut (is : List Nat) (σ σ' : Sl) : Prop := σ'.length = σ.length ∧ ∀ j, j ∉ is → σ'[j]? = σ[j]?
theorem SameOut.one (σ : Sl) (i : Nat) (v : Option V) : SameOut [i] σ (σ.set i v) := ⟨by simp, fun j h => by
  rw [List.mem_singleton] at h
  exact List.getElem?_set_ne (Ne.symm h)⟩
def tG (K : PySem.W.Frag) (CA : Str → Addr) (pn : PinT) (t : Tg) : TG := fun v σ H Q => ∃ S L e d e1, Good K CA S L H ∧ EnvR K pn L H e σ ∧ RelD K L H d v ∧ bindT t d e S = some e1 ∧ ∀ σ', EnvR K pn L H e1 σ' → SameOut (tsl t) σ σ' → Q σ' H
theorem st_of (ok : Ok X CA G W C) {x : Str} (h : stB C x = true) : Loc X.env.scope x ∧ (X.fn x = true ∨ X.env.scope.names.lookup x = some .local) := by
  unfold stB at h
  rw [Bool.or_eq_true] at h
  rw [ok.sc]
  rcases h with h | h
  · exact ⟨.inl (loc_of h), .inr (loc_of h)⟩
  · obtain ⟨h1, h2⟩ := ba h
    exact ⟨.inr (cel_of h1), .inl (ok.fn h2 x)⟩
theorem g_name (ok : Ok X CA G W C) {i : Nat} {x : Str} {p : Pos} (h0 : hsNe C i = true) (h1 : slotB C i x = true) (h2 : stB C x = true) : PG X (.Name x p) (tG X.K CA G.pin (.name i)) := by
  obtain ⟨l, f⟩ := st_of ok h2
  refine PG.by_ (pg_name (i := i) (by rw [ok.nm]; exact ok.nd) (by rw [ok.nm]; exact slot_of h1) l f) ?_
  rintro v σ H Q ⟨S, L, e, d, e1, g, er, r, hb, q⟩
  simp only [bindT] at hb
  split at hb
  · cases hb
    exact q _ (er.set r (ok.hsne h0)) (SameOut.one _ _ _)
  · cases hb
def tGs (K : PySem.W.Frag) (CA : Str → Addr) (pn : PinT) (is : List Nat) : TGs := fun vs σ H Q => ∃ S L e ds e1, Good K CA S L H ∧ EnvR K pn L H e σ ∧ RelDs K L H ds vs ∧ setAll is ds e = some e1 ∧ ∀ σ', EnvR K pn L H e1 σ' → SameOut is σ σ' → Q σ' H
theorem hsNe_of (h : cold C = true) (i : Nat) : hsNe C i = true := by
  unfold cold at h
  unfold hsNe
  rw [Option.isNone_iff_eq_none.mp h]
theorem g_names (ok : Ok X CA G W C) (hc : cold C = true) : ∀ {is : List Nat} {es : List Expr}, mTs C is es = true → PGs X es (tGs X.K CA G.pin is) ∧ (assignEach es X.env).length = is.length ∧ (assignEach es X.env).findIdx? (·.1) = none
  | [], [], _ => by
    refine ⟨⟨fun pins s σ H vs us Q I r q => pgs_nil.run pins s σ H vs us Q I r ?_⟩, rfl, rfl⟩
    obtain ⟨S, L, e, ds, e1, g, er, rs, hb, q⟩ := q
    cases ds with
    | nil =>
      simp only [setAll, Option.some.injEq] at hb; subst hb
      simp only [RelDs] at rs
      exact ⟨rs, q _ er ⟨rfl, fun _ _ => rfl⟩⟩
    | cons d ds => simp only [setAll] at hb; cases hb
  | [], _ :: _, h => by simp [mTs] at h
  | i :: is, [], h => by simp [mTs] at h
  | i :: is, e :: es, h => by
    cases e <;> try (simp [mTs] at h; done)
    rename_i x p
    simp only [mTs, Bool.and_eq_true] at h
    obtain ⟨⟨h1, h2⟩, h3⟩ := h
    obtain ⟨ih, l1, l2⟩ := g_names ok hc h3
    refine ⟨⟨fun pins s σ H vs us Q I r q => (pgs_cons (g_name ok (hsNe_of hc i) h1 h2) ih).run pins s σ H vs us Q I r ?_⟩, ?_, ?_⟩
    · obtain ⟨S, L, e, ds, e1, g, er, rs, hb, q⟩ := q
      cases ds with
      | nil => simp only [setAll] at hb; cases hb
      | cons d ds =>
        simp only [RelDs] at rs
        obtain ⟨v, vr, rfl, r1, rs⟩ := rs
        simp only [setAll] at hb
        split at hb
        · rename_i hi
          refine ⟨v, vr, rfl, S, L, e, d, _, g, er, r1, by simp only [bindT]; rw [if_pos hi], fun σ' er' so => ⟨S, L, _, ds, e1, g, er', rs, hb, fun σ2 er2 so2 => q σ2 er2 ⟨so2.1.trans so.1, fun j hj => (so2.2 j fun h => hj (List.mem_cons_of_mem _ h)).trans (so.2 j fun h => hj (by rw [show j = i from List.mem_singleton.mp h]; exact List.mem_cons_self))⟩⟩⟩
        · cases hb
    · show ((false, assign (.Name x p) X.env) :: assignEach es X.env).length = _
      simp [l1]
    · show ((false, assign (.Name x p) X.env) :: assignEach es X.env).findIdx? (·.1) = none
      simp [List.findIdx?_cons, l2]
theorem g_ok (ok : Ok X CA G W C) {t : Tg} (h : mT C t e = true) : PG X e (tG X.K CA G.pin t) := by
  cases t with
  | name i =>
    cases e <;> try (simp [mT] at h; done)
    simp only [mT, Bool.and_eq_true] at h
    exact g_name ok h.1 h.2.1 h.2.2
  | tup is =>
    cases e <;> try (simp [mT] at h; done)
    rename_i es k p
    simp only [mT, Bool.and_eq_true] at h
    obtain ⟨hc, h⟩ := h
    obtain ⟨hg, l1, l2⟩ := g_names ok hc h
    refine ⟨fun pins s σ H v u Q I r q => ?_⟩
    obtain ⟨S, L, e, d, e1, g, er, rd, hb, q⟩ := q
    simp only [bindT] at hb
    split at hb
    · rename_i xs hx
      split at hb
      · rename_i hl
        obtain ⟨a, vs, rfl, sq, rs⟩ := seqOf_rel g hx rd
        have fin : tGs X.K CA G.pin is vs σ H Q := ⟨S, L, e, xs, e1, g, er, rs, hb, q⟩
        rcases sq with sq | sq
        · exact (pg_lst (n := is.length) (ok.calm hc) hg l1 l2).run pins s σ H _ u Q I r ⟨a, vs, rfl, sq, by rw [rs.length]; exact hl, fin⟩
        · exact (pg_tup (n := is.length) (ok.calm hc) hg l1 l2).run pins s σ H _ u Q I r ⟨a, vs, rfl, sq, by rw [rs.length]; exact hl, fin⟩
      · cases hb
    · cases hb
end
end Lt
set_option maxHeartbeats 1000000
namespace Lt
open PySem PySem.Spec PyProof.Rows L2
section
variable {X : Cx} {CA : Str → Addr} {G : Cxp} {W : WX} {C : MC} {S S' : Store} {L L1 M2 L' : List Addr} {H H1 H2 H' : Hp} {σ : Sl} {e : Expr}
theorem getI_rel (g : Good X.K CA S L H) {n : Nat} {y : Str} {fs : List (Str × D)} (h : getI S n = some (y, fs)) {a : Addr} (hn : L[n]? = some a) : ∃ dx gs, H a = some (.ins (CA y) dx gs) ∧ H dx = some (.own a) ∧ gs.map (·.1) = fs.map (·.1) ∧ RelDs X.K L H (fs.map (·.2)) (gs.map (·.2)) := by
  unfold getI at h
  split at h
  · rename_i y' fs' e
    cases h
    exact g.cell n _ a e hn
  · cases h
theorem flds_look : ∀ {fs : List (Str × D)} {gs : List (Str × V)} {f : Str} {d : D}, gs.map (·.1) = fs.map (·.1) → RelDs X.K L H (fs.map (·.2)) (gs.map (·.2)) → fs.lookup f = some d → ∃ v, gs.lookup f = some v ∧ RelD X.K L H d v
  | [], gs, f, d, _, _, e => by simp at e
  | (k, x) :: fs, gs, f, d, hk, r, e => by
    cases gs with
    | nil => simp at hk
    | cons q gs =>
      obtain ⟨k2, v⟩ := q
      simp only [List.map_cons, List.cons.injEq] at hk
      obtain ⟨rfl, hk⟩ := hk
      simp only [List.map_cons, RelDs] at r
      obtain ⟨v', r', z, r1, r2⟩ := r
      cases z
      rw [List.lookup_cons] at e ⊢
      cases hb : f == k2 with
      | true =>
        rw [hb] at e
        cases e
        exact ⟨v, rfl, r1⟩
      | false =>
        rw [hb] at e
        exact flds_look hk r2 e
theorem flds_none : ∀ {fs : List (Str × D)} {gs : List (Str × V)} {f : Str}, gs.map (·.1) = fs.map (·.1) → fs.lookup f = none → gs.lookup f = none
  | [], gs, f, hk, _ => by
    cases gs with
    | nil => rfl
    | cons _ _ => simp at hk
  | (k, x) :: fs, gs, f, hk, e => by
    cases gs with
    | nil => simp at hk
    | cons q gs =>
      obtain ⟨k2, v⟩ := q
      simp only [List.map_cons, List.cons.injEq] at hk
      obtain ⟨rfl, hk⟩ := hk
      rw [List.lookup_cons] at e ⊢
      cases hb : f == k2 with
      | true => rw [hb] at e; cases e
      | false =>
        rw [hb] at e
        exact flds_none hk e
theorem flds_put : ∀ {fs : List (Str × D)} {gs : List (Str × V)} (f : Str) {d : D} {v : V}, gs.map (·.1) = fs.map (·.1) → RelDs X.K L H (fs.map (·.2)) (gs.map (·.2)) → RelD X.K L H d v → (putF f v gs).map (·.1) = (putD f d fs).map (·.1) ∧ RelDs X.K L H ((putD f d fs).map (·.2)) ((putF f v gs).map (·.2))
  | [], gs, f, d, v, hk, _, rd => by
    cases gs with
    | nil => exact ⟨rfl, RelDs.cons rd RelDs.nil⟩
    | cons _ _ => simp at hk
  | (k, x) :: fs, gs, f, d, v, hk, r, rd => by
    cases gs with
    | nil => simp at hk
    | cons q gs =>
      obtain ⟨k2, w⟩ := q
      simp only [List.map_cons, List.cons.injEq] at hk
      obtain ⟨rfl, hk⟩ := hk
      simp only [List.map_cons, RelDs] at r
      obtain ⟨v', r', z, r1, r2⟩ := r
      cases z
      show (if k2 = f then (k2, v) :: gs else (k2, w) :: putF f v gs).map (·.1) = (if k2 = f then (k2, d) :: fs else (k2, x) :: putD f d fs).map (·.1) ∧ RelDs X.K L H ((if k2 = f then (k2, d) :: fs else (k2, x) :: putD f d fs).map (·.2)) ((if k2 = f then (k2, v) :: gs else (k2, w) :: putF f v gs).map (·.2))
      by_cases hf : k2 = f
      · rw [if_pos hf, if_pos hf]
        exact ⟨by simp [hk], RelDs.cons rd r2⟩
      · rw [if_neg hf, if_neg hf]
        obtain ⟨i1, i2⟩ := flds_put f hk r2 rd
        exact ⟨by simp [i1], RelDs.cons r1 i2⟩
theorem s_isB {a : Ex} {b : Bool} {l : Expr} {k : Nat} {p p2 : Pos} (ha : PE X l (tE X.K CA G W a)) :
    PE X (.Compare l [.Is] [.Constant (.bool b) k p2] p) (tE X.K CA G W (.isB a b)) ∧ PT X (.Compare l [.Is] [.Constant (.bool b) k p2] p) (tT X.K CA G W (.isB a b)) := by
  refine ⟨PE.by_ (pe_cmpR op_isBl ha pe_bl rfl) ?_, PT.by_ (pt_cmpR op_isBl ha pe_bl rfl) ?_⟩
  · rintro σ H Q ⟨S, L, env, g, er, q⟩
    simp only [ev] at q
    refine tE.seq g er q fun d S1 L1 H1 v st g1 er1 r1 q1 => ?_
    unfold isBR at q1
    split at q1
    · simp only [RelD] at r1
      subst r1
      exact ⟨_, _, rfl, rfl, Aft.now g1 q1 (by simp [RelD])⟩
    · exact q1.elim
  · rintro σ H Q ⟨S, L, env, g, er, q⟩
    simp only [ev] at q
    refine tE.seq g er q fun d S1 L1 H1 v st g1 er1 r1 q1 => ?_
    unfold isBR at q1
    split at q1
    · simp only [RelD] at r1
      subst r1
      obtain ⟨c, e, z⟩ := q1 L1 H1 Step.refl g1
      cases e
      exact ⟨_, _, rfl, rfl, _, rfl, z⟩
    · exact q1.elim
theorem s_fld (ok : Ok X CA G W C) {a : Ex} {y f : Str} {l : Expr} {p : Pos} (h1 : C.fl y f = true) (hc : notCall l = true) (ha : PE X l (tE X.K CA G W a)) : PE X (.Attribute l f p) (tE X.K CA G W (.fld a y f)) := by
  obtain ⟨cl, na⟩ := ok.fl y f h1
  refine PE.by_ (pe_fld ha (base_of hc _ _)) ?_
  rintro σ H Q ⟨S, L, env, g, er, q⟩
  simp only [ev] at q
  refine tE.seq g er q fun d S1 L1 H1 v st g1 er1 r1 q1 => ?_
  unfold fldR at q1
  split at q1
  · split at q1
    · rename_i n _ y' fs hi
      split at q1
      · rename_i hy
        subst hy
        split at q1
        · rename_i d2 hl
          simp only [RelD] at r1
          obtain ⟨b, hn, rfl⟩ := r1
          obtain ⟨dx, gs, e1, e2, e3, r2⟩ := getI_rel g1 hi hn
          obtain ⟨v2, l2, r3⟩ := flds_look e3 r2 hl
          exact ⟨b, _, dx, gs, v2, rfl, e1, cl, na, l2, Aft.now g1 q1 r3⟩
        · exact q1.elim
      · exact q1.elim
    · exact q1.elim
  · exact q1.elim
theorem meth_eq {o : Expr} {name : Str} {apos pos : Pos} {es : List Expr} {env : PySem.Env} (hb : attributeBase o name env (eval o env) = eval o env) (few : methodCallForm (es.length + ([] : List Keyword).length) (backTo pos (starEach es env)) (backToKw pos (keywordEach [] env)) = true) (hl : (apos.endLine == pos.line) = true) :
    eval (.Call (.Attribute o name apos) es [] pos) env = (do
      let ov ← eval o env
      standAt apos.atName
      let (f, first) ← holding [ov] (getMethod ov name (do return (← importBound o env).getD true))
      callWith pos f first (backTo pos (starEach es env)) (backToKw pos (keywordEach [] env))) := by
  have e1 : eval (.Call (.Attribute o name apos) es [] pos) env = (do
      let ov ← attributeBase o name env (eval o env)
      standAt apos.atName
      methodCall o name apos pos env ov (es.length + ([] : List Keyword).length) (backTo pos (starEach es env)) (backToKw pos (keywordEach [] env))) := by
    rw [eval]
  rw [e1, hb]
  unfold methodCall calleeOf methodCallPos
  rw [few]
  simp [hl]
theorem few_ok {xs : List Ex} {es : List Expr} (hm : mEs xs C es = true) (hl : es.length < 30) (pos : Pos) (env : PySem.Env) : methodCallForm (es.length + ([] : List Keyword).length) (backTo pos (starEach es env)) (backToKw pos (keywordEach [] env)) = true := by
  have h1 := stars_ok hm pos env
  have h2 : (backTo pos (starEach es env)).all (fun x => !x.1) = true := by
    rw [List.all_eq_not_any_not]
    simp only [Bool.not_not]
    rw [h1]; rfl
  have h3 : backToKw pos (keywordEach [] env) = [] := rfl
  unfold methodCallForm
  rw [h2, h3]
  simpa using hl
/-- the callee's way behind a method's own arguments -/
theorem s_mth (ok : Ok X CA G W C) {o : Ex} {y m key x : Str} {xs : List Ex} {es : List Expr} {q0 ap cp : Pos} (hline : (ap.endLine == cp.line) = true) (hlen : es.length < 30) (h1 : C.ms y m key xs.length = true) (hnr : (!C.nar) = true) (ho : PE X (.Name x q0) (tE X.K CA G W o)) (h : PA X es (tEs X.K CA G W xs)) (hm : mEs xs C es = true) :
    PE X (.Call (.Attribute (.Name x q0) m ap) es [] cp) (tE X.K CA G W (.mth o y m key xs)) := by
  obtain ⟨f, fd, ps, ds, dvs, k, sp, cl, me, F, hr, hb, hd, hsp⟩ := ok.ms y m key xs.length h1
  have hpass := fun σ => passAt (W := W) (ok.tkw hnr) σ
  refine ⟨fun pins s σ H Q I q => ?_⟩
  obtain ⟨S, L, env, g, er, q⟩ := q
  simp only [ev] at q
  -- the receiver, then what stands behind it
  have key1 : tE X.K CA G W o σ H fun v H1 => ∃ a dx gs S1 L1, v = .ref a ∧ H1 a = some (.ins (CA y) dx gs) ∧ gs.lookup m = none ∧ Good X.K CA S1 L1 H1 ∧
      tEs X.K CA G W xs σ H1 fun vs H2 => sp ((v :: vs) ++ dvs) H2 Q (WE W σ) := by
    refine tE.seq g er q fun d S1 L1 H1 v st g1 er1 r1 q1 => ?_
    split at q1
    · rename_i hi
      unfold insOk at hi
      split at hi
      · split at hi
        · rename_i n _ y' fs hg
          obtain ⟨h2, h3⟩ := ba hi
          have h2 := of_decide_eq_true h2
          subst h2
          have r0 := r1
          simp only [RelD] at r1
          obtain ⟨b, hn, rfl⟩ := r1
          obtain ⟨dx, gs, e1, e2, e3, r2⟩ := getI_rel g1 hg hn
          refine ⟨b, dx, gs, S1, L1, rfl, e1, flds_none e3 (by simpa using h3), g1, ?_⟩
          exact ⟨S1, L1, env, g1, er1, q1.bind.len.mono fun ds S2 L2 H2 ⟨hl, st2, g2, q2⟩ vs r2 => hsp (.ref b :: vs) _ S2 L2 H2 σ Q _ g2 (RelDs.cons (r0.step g1 st2) r2) (by simp [hl]) q2⟩
        · cases hi
      · cases hi
    · exact q1.elim
  refine PySem.W.methodCall_KW (thn (ho.run pins s σ H _ I key1) fun u s1 ⟨x1, H1, I1, rx, a, dx, gs, S1, L1, ex, ea, l, g1, q1⟩ => ?_) (meth_eq (base_of (o := .Name x q0) rfl _ _) (few_ok hm hlen cp X.env) hline)
  subst ex
  obtain rfl : u = Value.ref a := rx
  refine getmeth_ok I1 ea cl me l ?_
  cases es with
  | nil =>
    have e0 : xs = [] := by
      cases xs with
      | nil => rfl
      | cons x xs => obtain ⟨e, r, z, _⟩ := mEs_cons hm; cases z
    subst e0
    have q2 : sp ([.ref a] ++ dvs) H1 Q (WE W σ) := by
      obtain ⟨S2, L2, env2, g2, er2, q2⟩ := q1
      simp only [evs] at q2
      exact q2 L2 H1 Step.refl g2 [] RelDs.nil
    exact PySem.W.callWith_K0 (first := [.ref a]) I1.kIn me.kp (run_fnSD (us := [.ref a]) (vs := [.ref a]) (E := WE W) F hr hb hd (hpass σ) I1 (.cons rfl .nil) q2)
  | cons e es =>
    cases xs with
    | nil => have z := mEs_nil hm; cases z
    | cons x xs =>
      obtain ⟨e', r', z, s1', _, s2'⟩ := mEs_cons hm
      cases z
      refine PySem.W.callWith_K (first := [.ref a]) (h₀ := X.base) I1.ok.mod.kin me.kp (thn (h.run cp pins s1 σ H1 _ I1 q1) fun us s2 ⟨vs, H2, I2, r, q2⟩ => ⟨I2.kIn, ?_⟩) (star_of s1' es X.env) (stars_ok s2' cp X.env)
      exact run_fnSD (us := .ref a :: us) (vs := .ref a :: vs) (E := WE W) F hr hb hd (hpass σ) I2 (.cons rfl r) q2
theorem run_mk {pins : List (Addr × Obj)} {s : Shared} {Q : VK} {us : List Value} {vs : List V} {Cl f : Addr} {fd : FuncData} {ps : List Str} {sp : Sp} {k : Nat} {E : L2.St → XK} (M : Mk X.K Cl f) (F : FnOk X.prog X.w X.K X.mg X.base (L2.CX X.prog X.w) k f fd ps sp) (hr : Room (k + 1) X.A) (hb : Binds X.K fd ps [])
    (hx : PassesAt (L2.CX X.prog X.w) X σ (E σ)) (I : Inv X pins σ H s) (r : Vals vs us)
    (h : ∀ x dx, H x = none → H dx = none → dx ≠ x → sp (.ref x :: vs) (upd (upd H dx (.own x)) x (.ins Cl dx [])) (fun v H2 => v = .non ∧ Q (.ref x) H2) (E σ)) :
    wpAny (model X.prog X.w) X.A (call (.ref Cl) us) (EP X pins σ Q) X.xe s := by
  have hq := h (s.heap.objs.size + 1) s.heap.objs.size (I.hok.fresh (Nat.le_succ _)) (I.hok.fresh (Nat.le_refl _)) (Nat.ne_of_lt (Nat.lt_succ_self _))
  have I2 := Inv.made (C := Cl) I
  have r2 : Vals (V.ref (s.heap.objs.size + 1) :: vs) (Value.ref (s.heap.objs.size + 1) :: us) := .cons rfl r
  have hl : ((Value.ref (s.heap.objs.size + 1) :: us) ++ ([] : List Value)).length = ps.length := by
    have e := r2.length
    rw [F.len _ _ _ _ hq] at e
    rw [List.append_nil]
    exact e.symm
  have hbind := hb _ (Value.ref (s.heap.objs.size + 1) :: us) I2.kIn hl
  rw [List.append_nil] at hbind
  refine wpAny_call (make_map (f := f) I.kIn M.makes M.init (beq_iff_eq.mp M.fn) (codeAny_mono (F.run _ X.stack _ _ ⟨Value.ref (s.heap.objs.size + 1) :: us, []⟩ (Value.ref (s.heap.objs.size + 1) :: us) _ _ (E σ) (hr.make Cl us [])
    (I2.env0.make Cl us []) hbind r2 hq) fun r s' hq' => ?_))
  cases r with
  | error e => exact hx pins _ _ e s' I2 hq'
  | ok fl =>
    cases fl with
    | ret u =>
      obtain ⟨v, H', I3, rv, ev, q3⟩ := I2.after hq'
      subst ev
      exact ⟨rv, ⟨V.ref (s.heap.objs.size + 1), H', I3, rfl, q3⟩⟩
    | next => exact False.elim hq'
    | brk => exact False.elim hq'
    | cont => exact False.elim hq'
theorem s_mk (ok : Ok X CA G W C) {y key : Str} {xs : List Ex} {es : List Expr} {q0 p : Pos} (h0 : gloB C.sc y = true) (h2 : nmOk y = true) (h1 : C.mks y key xs.length = true) (hnr : (!C.nar) = true) (h : PA X es (tEs X.K CA G W xs)) (hm : mEs xs C es = true) :
    PE X (.Call (.Name y q0) es [] p) (tE X.K CA G W (.mk y key xs)) := by
  obtain ⟨f, fd, ps, k, sp, M, hmg, F, hr, hb, hsp⟩ := ok.mks y key xs.length h1
  have hpass := fun σ => passAt (W := W) (ok.tkw hnr) σ
  have gl := gl_of ok h0
  have dbg := (nm_of h2).1
  have key1 : ∀ (σ : Sl) (H : Hp) (Q : VK), tE X.K CA G W (.mk y key xs) σ H Q → tEs X.K CA G W xs σ H fun vs H1 => ∀ x dx, H1 x = none → H1 dx = none → dx ≠ x → sp (.ref x :: vs) (upd (upd H1 dx (.own x)) x (.ins (CA y) dx [])) (fun v H2 => v = .non ∧ Q (.ref x) H2) (WE W σ) := by
    rintro σ H Q ⟨S, L, env, g, er, q⟩
    simp only [ev] at q
    refine ⟨S, L, env, g, er, q.bind.len.mono fun ds S1 L1 H1 ⟨hl, st, g1, q1⟩ vs r x dx hx hdx hne => ?_⟩
    obtain ⟨sta, ga⟩ := g1.side (o := .own x) hdx
    have hx2 : upd H1 dx (.own x) x = none := by rw [upd_ne (Ne.symm hne)]; exact hx
    obtain ⟨stb, gb⟩ := ga.alloc (o := .ins (CA y) dx []) (c := .ins y []) hx2 ⟨dx, [], upd_same, by rw [upd_ne hne]; exact upd_same, rfl, RelDs.nil⟩
    have stc := sta.trans stb
    refine hsp (.ref x :: vs) (.ref S1.length :: ds) _ _ _ σ _ _ gb (RelDs.cons ?_ (r.step g1 stc)) (by simp [hl]) ?_
    · simp only [RelD]
      exact ⟨x, by rw [← g1.len, List.getElem?_append_right (Nat.le_refl _)]; simp, rfl⟩
    · refine (Aft.bind (Aft.from stc q1)).mono fun d S2 L2 H2 ⟨st2, g2, q2⟩ v rv => ?_
      unfold madeR at q2
      split at q2
      · simp only [RelD] at rv
        refine ⟨rv, Aft.now g2 q2 ?_⟩
        simp only [RelD]
        exact ⟨x, st2.get (by rw [← g1.len, List.getElem?_append_right (Nat.le_refl _)]; simp), rfl⟩
      · exact q2.elim
  cases es with
  | nil =>
    have e0 : xs = [] := by
      cases xs with
      | nil => rfl
      | cons x xs => obtain ⟨e, r, z, _⟩ := mEs_cons hm; cases z
    subst e0
    refine ⟨fun pins s σ H Q I q => ?_⟩
    have k2 := key1 σ H Q q
    obtain ⟨S2, L2, env2, g2, er2, q2⟩ := k2
    simp only [evs] at q2
    have k3 := q2 L2 H Step.refl g2 [] RelDs.nil
    refine wpAny_Call_Name_kw (ld_glob I gl hmg ?_ dbg)
    exact PySem.W.callWith_K0 I.kIn M.kp (run_mk (us := []) (E := WE W) M F hr hb (hpass σ) I .nil k3)
  | cons e es =>
    cases xs with
    | nil => have z := mEs_nil hm; cases z
    | cons x xs =>
      obtain ⟨e', r', z, s1', _, s2'⟩ := mEs_cons hm
      cases z
      refine ⟨fun pins s σ H Q I q => ?_⟩
      have k2 := key1 σ H Q q
      refine wpAny_Call_Name_kw (ld_glob I gl hmg ?_ dbg)
      refine PySem.W.callWith_K (h₀ := X.base) I.ok.mod.kin M.kp (thn (h.run p pins s σ H _ I k2) fun us s1 ⟨vs, H1, I1, r, q⟩ => ⟨I1.kIn, ?_⟩) (star_of s1' es X.env) (stars_ok s2' p X.env)
      exact run_mk (E := WE W) M F hr hb (hpass σ) I1 r q
end
end Lt
set_option maxHeartbeats 1000000
namespace Lt
open PySem PySem.Spec PyProof.Rows L2
section
variable {X : Cx} {CA : Str → Addr} {G : Cxp} {W : WX} {C : MC} {S S' : Store} {L L1 M2 L' : List Addr} {H H1 H2 H' : Hp} {σ : Sl} {e : Expr}
structure ItOk (K : PySem.W.Frag) (CA : Str → Addr) (J : L2.It) (j : Itr) (P : List Addr → Hp → Prop) : Prop where
  mon : ∀ L H L' H', P L H → Mon L H L' H' → P L' H'
  go : ∀ (i : Nat) S L H x, Good K CA S L H → P L H → j.at_ i S = some x → i < j.n → J.go i H ∧ ∀ v H', J.yld i H v H' → Step L H L H' ∧ Good K CA S L H' ∧ RelD K L H' x v
  stop : ∀ S L H, Good K CA S L H → P L H → j.fin S = true → J.stop j.n H
def tI (K : PySem.W.Frag) (CA : Str → Addr) (G : Cxp) (W : WX) (x : Lt.It) : TI := fun σ H R => ∃ S L e, Good K CA S L H ∧ EnvR K G.pin L H e σ ∧ Aft K CA W σ L H (evI G x e S) fun j _ L' H' => ∀ J P, ItOk K CA J j P → P L' H' → R J H'
theorem it_list {a : Addr} {n : Nat} {at_ : Nat → Store → Option D} {fin : Store → Bool} {P : List Addr → Hp → Prop} (mon : ∀ L H L' H', P L H → Mon L H L' H' → P L' H')
    (rd : ∀ S L H i d, Good X.K CA S L H → P L H → at_ i S = some d → ∃ xs vs, SqL X.K H a vs ∧ RelDs X.K L H xs vs ∧ xs[i]? = some d)
    (re : ∀ S L H, Good X.K CA S L H → P L H → fin S = true → ∃ xs vs, SqL X.K H a vs ∧ RelDs X.K L H xs vs ∧ xs.length = n) : ItOk X.K CA (Itl X.K a) ⟨n, at_, fin⟩ P := by
  refine ⟨mon, fun i S L H x g p h _ => ?_, fun S L H g p h => ?_⟩
  · obtain ⟨xs, vs, sq, r, h1⟩ := rd S L H i x g p h
    obtain ⟨v, e1, rv⟩ := r.get h1
    refine ⟨⟨vs, v, sq, e1⟩, fun v' H' y => ?_⟩
    obtain ⟨rfl, y⟩ := y
    have e2 := y vs sq
    rw [e1] at e2; cases e2
    exact ⟨Step.refl, g, rv⟩
  · obtain ⟨xs, vs, sq, r, h2⟩ := re S L H g p h
    exact ⟨vs, sq, by rw [r.length, h2]; exact Nat.le_refl _⟩
theorem it_tup {a : Addr} {n : Nat} {at_ : Nat → Store → Option D} {fin : Store → Bool} {P : List Addr → Hp → Prop} (mon : ∀ L H L' H', P L H → Mon L H L' H' → P L' H')
    (rd : ∀ S L H i d, Good X.K CA S L H → P L H → at_ i S = some d → ∃ xs vs, SqT X.K H a vs ∧ RelDs X.K L H xs vs ∧ xs[i]? = some d)
    (re : ∀ S L H, Good X.K CA S L H → P L H → fin S = true → ∃ xs vs, SqT X.K H a vs ∧ RelDs X.K L H xs vs ∧ xs.length = n) : ItOk X.K CA (Itt X.K a) ⟨n, at_, fin⟩ P := by
  refine ⟨mon, fun i S L H x g p h _ => ?_, fun S L H g p h => ?_⟩
  · obtain ⟨xs, vs, sq, r, h1⟩ := rd S L H i x g p h
    obtain ⟨v, e1, rv⟩ := r.get h1
    refine ⟨⟨vs, v, sq, e1⟩, fun v' H' y => ?_⟩
    obtain ⟨rfl, y⟩ := y
    have e2 := y vs sq
    rw [e1] at e2; cases e2
    exact ⟨Step.refl, g, rv⟩
  · obtain ⟨xs, vs, sq, r, h2⟩ := re S L H g p h
    exact ⟨vs, sq, by rw [r.length, h2]; exact Nat.le_refl _⟩
/-- how a value's list is found again at each turn -/
def Keeps (K : PySem.W.Frag) (d : D) (a : Addr) (L : List Addr) (H : Hp) : Prop := match d with
  | .tup xs => ∃ vs, SqT K H a vs ∧ RelDs K L H xs vs
  | .frt xs => ∃ vs, SqT K H a vs ∧ RelDs K L H xs vs
  | .frl xs => ∃ vs, SqF K H a vs ∧ RelDs K L H xs vs
  | .ref n => L[n]? = some a
  | _ => False
theorem Keeps.mon {d : D} {a : Addr} (h : Keeps X.K d a L H) (m : Mon L H L1 H1) : Keeps X.K d a L1 H1 := by
  cases d with
  | tup xs => obtain ⟨vs, h1, h2⟩ := h; exact ⟨vs, SqT.mon m h1, RelDs.mon m _ _ h2⟩
  | frt xs => obtain ⟨vs, h1, h2⟩ := h; exact ⟨vs, SqT.mon m h1, RelDs.mon m _ _ h2⟩
  | frl xs => obtain ⟨vs, h1, h2⟩ := h; exact ⟨vs, h1.mon m, RelDs.mon m _ _ h2⟩
  | ref n => exact m.get _ _ h
  | _ => exact h
theorem lst_keeps {d : D} {xs : List D} (h : lstOf S d = some xs) {v : V} (r : RelD X.K L H d v) : ∃ a, v = .ref a ∧ Keeps X.K d a L H := by
  cases d <;> simp [lstOf] at h
  · simp only [RelD] at r
    obtain ⟨a, vs, rfl, e, q⟩ := r
    exact ⟨a, rfl, vs, e, q⟩
  · simp only [RelD] at r
    obtain ⟨a, hn, rfl⟩ := r
    exact ⟨a, rfl, hn⟩
theorem keeps_lst (g : Good X.K CA S L H) {d : D} {a : Addr} (k : Keeps X.K d a L H) {xs : List D} (h : lstOf S d = some xs) : ∃ vs, SqL X.K H a vs ∧ RelDs X.K L H xs vs := by
  cases d <;> simp [lstOf] at h
  · subst h
    obtain ⟨vs, h1, h2⟩ := k
    exact ⟨vs, h1.sq, h2⟩
  · obtain ⟨vs, e, r⟩ := getL_rel g h k
    exact ⟨vs, SqL.of e, r⟩
/-- a list, a tuple or a text -/
def iSeqS (K : PySem.W.Frag) (te : TE) : TI := fun σ H R => te σ H fun x H1 => (∃ a, x = .ref a ∧ (((∃ xs, SqL K H1 a xs) ∧ R (Itl K a) H1) ∨ ((∃ xs, SqT K H1 a xs) ∧ R (Itt K a) H1))) ∨ ∃ z, x = .str z ∧ R (Its z) H1
theorem pi_seqS {tg : Expr} {te : TE} (he : PE X e te) : PI X tg e (iSeqS X.K te) := by
  refine ⟨fun pins s σ H R I q => thn (he.run pins s σ H _ I q) fun u s1 h1 => ?_⟩
  obtain ⟨x, H1, I1, r1, q | q⟩ := h1
  · obtain ⟨a, rfl, q⟩ := q
    cases (show u = Value.ref a from r1)
    rcases q with ⟨⟨xs, hq⟩, q⟩ | ⟨⟨xs, hq⟩, q⟩
    · obtain ⟨its, rv, pl, hz⟩ := I1.list hq
      exact wpAny_pyIter_list pl.isList (pi_one (tk := s1.toks) I1 _ (turn_list a _) ⟨_, Heap.get?_push_size _ rfl, rfl, rfl⟩ q)
    · obtain ⟨its, rv, pl, hz⟩ := I1.tuple hq
      exact wpAny_pyIter_tuple (show s1.heap.IsTuple a its.toArray from pl) (pi_one (tk := s1.toks) I1 _ (turn_tuple a _) ⟨_, Heap.get?_push_size _ rfl, rfl, rfl⟩ q)
  · obtain ⟨z, rfl, q⟩ := q
    obtain ⟨t, rfl⟩ := (show ∃ t, u = Value.str z t from r1)
    cases hz : z.cps.all (· < 128)
    · exact wpAny_pyIter_wide hz (pi_one (tk := s1.toks) I1 _ (turn_str _ z t "str_iterator" (.inr rfl)) ⟨_, Heap.get?_push_size _ rfl, rfl, rfl⟩ q)
    · exact wpAny_pyIter_ascii hz (pi_one (tk := s1.toks) I1 _ (turn_str _ z t "str_ascii_iterator" (.inl rfl)) ⟨_, Heap.get?_push_size _ rfl, rfl, rfl⟩ q)
theorem it_str {z : Str} : ItOk X.K CA (Its z) ⟨z.cps.size, fun i _ => (z.cps[i]?).map sign, fun _ => true⟩ fun _ _ => True := by
  refine ⟨fun _ _ _ _ _ _ => trivial, fun i S L H x g _ h hi => ⟨hi, fun v H' y => ?_⟩, fun S L H g _ h => Nat.le_refl _⟩
  obtain ⟨rfl, c, hc, rfl⟩ := y
  dsimp only at h
  rw [hc, Option.map_some] at h
  cases h
  exact ⟨Step.refl, g, by simp [sign, RelD]⟩
theorem i_seq {tg : Expr} {a : Ex} (ha : PE X e (tE X.K CA G W a)) : PI X tg e (tI X.K CA G W (.seq a)) := by
  refine PI.by_ (pi_seqS ha) ?_
  rintro σ H R ⟨S, L, env, g, er, q⟩
  simp only [evI] at q
  refine tE.seq g er q fun d S1 L1 H1 v st g1 er1 r q1 => ?_
  cases hj : seqItr d S1 with
  | none => rw [hj] at q1; exact q1.elim
  | some j =>
    rw [hj] at q1
    have fin := q1 L1 H1 Step.refl g1
    unfold seqItr at hj
    cases hs : seqOf S1 d with
    | none =>
      rw [hs] at hj
      simp only [strItr] at hj
      split at hj
      · rename_i z
        cases hj
        simp only [RelD] at r; subst r
        exact .inr ⟨z, rfl, fin _ _ it_str trivial⟩
      · cases hj
    | some xs =>
      rw [hs] at hj
      simp only [Option.some.injEq] at hj
      subst hj
      refine .inl ?_
      cases d with
      | tup ys =>
        simp only [seqOf, Option.some.injEq] at hs; subst hs
        simp only [RelD] at r
        obtain ⟨b, vs, rfl, sq, rs⟩ := r
        refine ⟨b, rfl, .inr ⟨⟨vs, SqT.of sq⟩, fin _ (fun L H => ∃ vs, SqT X.K H b vs ∧ RelDs X.K L H ys vs) (it_tup (fun L H L' H' ⟨vs, h1, h2⟩ m => ⟨vs, SqT.mon m h1, RelDs.mon m _ _ h2⟩) (fun S L H i d g ⟨vs, h1, h2⟩ h => ⟨ys, vs, h1, h2, ?_⟩) fun S L H g ⟨vs, h1, h2⟩ h => ⟨ys, vs, h1, h2, rfl⟩) ⟨vs, SqT.of sq, rs⟩⟩⟩
        simpa [seqOf] using h
      | frt ys =>
        simp only [seqOf, Option.some.injEq] at hs; subst hs
        simp only [RelD] at r
        obtain ⟨b, vs, rfl, sq, rs⟩ := r
        refine ⟨b, rfl, .inr ⟨⟨vs, sq.sq⟩, fin _ (fun L H => ∃ vs, SqT X.K H b vs ∧ RelDs X.K L H ys vs) (it_tup (fun L H L' H' ⟨vs, h1, h2⟩ m => ⟨vs, SqT.mon m h1, RelDs.mon m _ _ h2⟩) (fun S L H i d g ⟨vs, h1, h2⟩ h => ⟨ys, vs, h1, h2, ?_⟩) fun S L H g ⟨vs, h1, h2⟩ h => ⟨ys, vs, h1, h2, rfl⟩) ⟨vs, sq.sq, rs⟩⟩⟩
        simpa [seqOf] using h
      | frl ys =>
        simp only [seqOf, Option.some.injEq] at hs; subst hs
        simp only [RelD] at r
        obtain ⟨b, vs, rfl, sq, rs⟩ := r
        refine ⟨b, rfl, .inl ⟨⟨vs, sq.sq⟩, fin _ (fun L H => ∃ vs, SqF X.K H b vs ∧ RelDs X.K L H ys vs) (it_list (fun L H L' H' ⟨vs, h1, h2⟩ m => ⟨vs, h1.mon m, RelDs.mon m _ _ h2⟩) (fun S L H i d g ⟨vs, h1, h2⟩ h => ⟨ys, vs, h1.sq, h2, ?_⟩) fun S L H g ⟨vs, h1, h2⟩ h => ⟨ys, vs, h1.sq, h2, rfl⟩) ⟨vs, sq, rs⟩⟩⟩
        simpa [seqOf] using h
      | ref n =>
        simp only [RelD] at r
        obtain ⟨b, hn, rfl⟩ := r
        have hx : getL S1 n = some xs := hs
        obtain ⟨vs, e1, rs⟩ := getL_rel g1 hx hn
        refine ⟨b, rfl, .inl ⟨⟨vs, SqL.of e1⟩, fin _ (fun L H => L[n]? = some b) (it_list (fun L H L' H' h m => m.get _ _ h) (fun S L H i d g hn h => ?_) fun S L H g hn h => ?_) hn⟩⟩
        · simp only [seqOf] at h
          cases hy : getL S n with
          | none => rw [hy] at h; cases h
          | some ys =>
            rw [hy] at h
            obtain ⟨ws, e2, rt⟩ := getL_rel g hy hn
            dsimp only at h
            split at h
            · exact ⟨ys, ws, SqL.of e2, rt, h⟩
            · cases h
        · simp only [seqOf] at h
          cases hy : getL S n with
          | none => rw [hy] at h; cases h
          | some ys =>
            rw [hy] at h
            obtain ⟨ws, e2, rt⟩ := getL_rel g hy hn
            exact ⟨ys, ws, SqL.of e2, rt, of_decide_eq_true h⟩
      | _ => simp [seqOf] at hs
/-- a list by its value, however it is walked -/
theorem lst_at {d : D} {f : Nat → Nat → Nat} {w : Nat → D → D} {j : Itr} (h : lstItr d S f w = some j) : ∃ xs, lstOf S d = some xs ∧ j.n = xs.length ∧ (∀ i S' x, j.at_ i S' = some x → ∃ ys y, lstOf S' d = some ys ∧ ys.length = xs.length ∧ ys[f xs.length i]? = some y ∧ x = w i y) ∧ ∀ S', j.fin S' = true → ∃ ys, lstOf S' d = some ys ∧ ys.length = xs.length := by
  unfold lstItr at h
  split at h
  · rename_i xs hx
    cases h
    refine ⟨xs, hx, rfl, fun i S' x hi => ?_, fun S' hf => ?_⟩
    · dsimp only at hi
      split at hi
      · rename_i ys hy
        split at hi
        · rename_i hl
          rw [Option.map_eq_some_iff] at hi
          obtain ⟨y, e, rfl⟩ := hi
          exact ⟨ys, y, hy, hl, e, rfl⟩
        · cases hi
      · cases hi
    · dsimp only at hf
      split at hf
      · rename_i ys hy
        exact ⟨ys, hy, of_decide_eq_true hf⟩
      · cases hf
  · cases h
theorem i_rvd (ok : Ok X CA G W C) {tg l : Expr} {a : Ex} {q p : Pos} (h1 : gloB C.sc "reversed" = true) (hs : notSt l = true) (ha : PE X l (tE X.K CA G W a)) : PI X tg (.Call (.Name "reversed" q) [l] [] p) (tI X.K CA G W (.rvd a)) := by
  refine PI.by_ (pi_reversed (gl_of ok h1) (ok.free _ (by decide +kernel)) (pa_cons ha pa_nil (star_of hs [] X.env)) (star_of hs [] X.env)) ?_
  rintro σ H R ⟨S, L, env, g, er, q⟩
  simp only [evI] at q
  refine tE.seq g er q fun d S1 L1 H1 v st g1 er1 r q1 => ?_
  cases hj : lstItr d S1 (fun n i => n - 1 - i) (fun _ d => d) with
  | none => rw [hj] at q1; exact q1.elim
  | some j =>
    rw [hj] at q1
    have fin := q1 L1 H1 Step.refl g1
    obtain ⟨xs, hx, en, hat, hfin⟩ := lst_at hj
    obtain ⟨b, rfl, k⟩ := lst_keeps hx r
    obtain ⟨vs, sq, rs⟩ := keeps_lst g1 k hx
    refine ⟨b, vs, rfl, sq, fin _ (Keeps X.K d b) ⟨fun L H L' H' h m => h.mon m, fun i S L H x g k h hi => ?_, fun S L H g k h => by show vs.length ≤ j.n; rw [en, rs.length]; exact Nat.le_refl _⟩ k⟩
    obtain ⟨ys, y, hy, hl, e, rfl⟩ := hat i S x h
    obtain ⟨ws, sw, rw_⟩ := keeps_lst g k hy
    obtain ⟨v, e1, rv⟩ := rw_.get e
    rw [rs.length]
    refine ⟨⟨by rw [← en]; exact hi, ws, v, sw, e1⟩, fun v' H' z => ?_⟩
    obtain ⟨rfl, z⟩ := z
    have e2 := z ws sw
    rw [e1] at e2; cases e2
    exact ⟨Step.refl, g, rv⟩
theorem i_enm (ok : Ok X CA G W C) {tg l : Expr} {a : Ex} {q p : Pos} (ht : isTupE tg = true) (h1 : gloB C.sc "enumerate" = true) (hs : notSt l = true) (ha : PE X l (tE X.K CA G W a)) : PI X tg (.Call (.Name "enumerate" q) [l] [] p) (tI X.K CA G W (.enm a)) := by
  cases tg <;> try (exact absurd ht Bool.false_ne_true)
  refine PI.by_ (pi_enum (gl_of ok h1) (ok.free _ (by decide +kernel)) (pa_cons ha pa_nil (star_of hs [] X.env)) (star_of hs [] X.env)) ?_
  rintro σ H R ⟨S, L, env, g, er, q⟩
  simp only [evI] at q
  refine tE.seq g er q fun d S1 L1 H1 v st g1 er1 r q1 => ?_
  cases hj : lstItr d S1 (fun _ i => i) (fun i d => .tup [.int i, d]) with
  | none => rw [hj] at q1; exact q1.elim
  | some j =>
    rw [hj] at q1
    have fin := q1 L1 H1 Step.refl g1
    obtain ⟨xs, hx, en, hat, hfin⟩ := lst_at hj
    obtain ⟨b, rfl, k⟩ := lst_keeps hx r
    obtain ⟨vs, sq, rs⟩ := keeps_lst g1 k hx
    refine ⟨b, vs, rfl, sq, fin _ (Keeps X.K d b) ⟨fun L H L' H' h m => h.mon m, fun i S L H x g k h hi => ?_, fun S L H g k h => ?_⟩ k⟩
    · obtain ⟨ys, y, hy, hl, e, rfl⟩ := hat i S x h
      obtain ⟨ws, sw, rw_⟩ := keeps_lst g k hy
      obtain ⟨v, e1, rv⟩ := rw_.get e
      refine ⟨⟨ws, v, sw, e1⟩, fun v' H' z => ?_⟩
      obtain ⟨T, x, rfl, hT, rfl, z⟩ := z
      have e2 := z ws sw
      rw [e1] at e2; cases e2
      obtain ⟨st2, g2⟩ := g.side (o := .tup [.int (i : Nat), v]) hT
      refine ⟨st2, g2, ?_⟩
      simp only [RelD]
      exact ⟨T, _, rfl, upd_same, RelDs.cons (by simp [RelD]) (RelDs.cons (rv.step g st2) RelDs.nil)⟩
    · obtain ⟨ys, hy, hl⟩ := hfin S h
      obtain ⟨ws, sw, rw_⟩ := keeps_lst g k hy
      exact ⟨ws, sw, by rw [rw_.length, hl, en]; exact Nat.le_refl _⟩
theorem rng_it {lo hi : Int} {j : Itr} (h : rngItr lo hi = some j) : (-(2 ^ 62) ≤ lo ∧ lo < 2 ^ 62 ∧ -(2 ^ 62) ≤ hi ∧ hi < 2 ^ 62) ∧ ItOk X.K CA (L2.Itr lo (hi - lo).toNat) j fun _ _ => True := by
  unfold rngItr at h
  split at h
  · rename_i hb
    cases h
    refine ⟨hb, fun _ _ _ _ _ _ => True.intro, fun i S L H x g _ h hi => ⟨hi, fun v H' y => ?_⟩, fun S L H g _ _ => Nat.le_refl _⟩
    obtain ⟨rfl, rfl⟩ := y
    dsimp only at h
    cases h
    exact ⟨Step.refl, g, by simp [RelD]⟩
  · cases h
theorem i_rng (ok : Ok X CA G W C) {tg l : Expr} {a : Ex} {q p : Pos} (h1 : gloB C.sc "range" = true) (hs : notSt l = true) (ha : PE X l (tE X.K CA G W a)) : PI X tg (.Call (.Name "range" q) [l] [] p) (tI X.K CA G W (.rng a)) := by
  refine PI.by_ (pi_range1 (gl_of ok h1) (ok.free _ (by decide +kernel)) (pa_cons ha pa_nil (star_of hs [] X.env)) (star_of hs [] X.env)) ?_
  rintro σ H R ⟨S, L, env, g, er, q⟩
  simp only [evI] at q
  refine tE.seq g er q fun d S1 L1 H1 v st g1 er1 r q1 => ?_
  split at q1
  · rename_i k
    split at q1
    · rename_i j hj
      obtain ⟨⟨_, _, b1, b2⟩, io⟩ := rng_it (X := X) (CA := CA) hj
      simp only [RelD] at r; subst r
      refine ⟨k, rfl, b1, b2, ?_⟩
      have := q1 L1 H1 Step.refl g1 _ _ io True.intro
      simpa using this
    · exact q1.elim
  · exact q1.elim
theorem rel_ints {L : List Addr} {H : Hp} : ∀ l : List Nat, RelDs X.K L H (l.map fun (i : Nat) => D.int (i : Int)) (l.map fun (i : Nat) => V.int (0 + (i : Int)))
  | [] => by simp [RelDs]
  | i :: l => by
    have := rel_ints (L := L) (H := H) l
    simp only [List.map_cons, RelDs]
    exact ⟨_, _, rfl, by simp [RelD, Int.zero_add], this⟩
theorem s_lrg (ok : Ok X CA G W C) {l : Expr} {a : Ex} {q q2 p2 p : Pos} (h1 : gloB C.sc "list" = true) (h2 : gloB C.sc "range" = true) (hc : cold C = true) (hs : notSt l = true) (ha : PE X l (tE X.K CA G W a)) : PE X (.Call (.Name "list" q) [.Call (.Name "range" q2) [l] [] p2] [] p) (tE X.K CA G W (.lrg a)) := by
  refine PE.by_ (pe_listRg (ok.calm hc) (gl_of ok h1) (ok.free _ (by decide +kernel)) (prg_1 (gl_of ok h2) (ok.free _ (by decide +kernel)) ha (star_of hs [] X.env)) (star_of rfl [] X.env)) ?_
  rintro σ H Q ⟨S, L, env, g, er, q⟩
  simp only [ev] at q
  refine tE.seq g er q fun d S1 L1 H1 v st g1 er1 r q1 => ?_
  unfold lrgR at q1
  split at q1
  · rename_i j
    split at q1
    · rename_i hb
      simp only [RelD] at r; subst r
      refine ⟨j, rfl, ⟨by decide, by decide, by omega, by omega, by omega⟩, fun p hp => ?_⟩
      have rl := rel_ints (X := X) (L := L1) (H := H1) (List.range j.toNat)
      have e : rgV 0 j = (List.range j.toNat).map fun (i : Nat) => V.int (0 + (i : Int)) := by
        unfold rgV
        rw [Int.sub_zero]
      rw [e]
      exact Aft.lst g1 q1 rl hp
    · exact q1.elim
  · exact q1.elim
theorem i_rng2 (ok : Ok X CA G W C) {tg l m : Expr} {a b : Ex} {q p : Pos} (h1 : gloB C.sc "range" = true) (hs : notSt l = true) (hs2 : notSt m = true) (ha : PE X l (tE X.K CA G W a)) (hb : PE X m (tE X.K CA G W b)) :
    PI X tg (.Call (.Name "range" q) [l, m] [] p) (tI X.K CA G W (.rng2 a b)) := by
  refine PI.by_ (pi_range2 (gl_of ok h1) (ok.free _ (by decide +kernel)) (pa_cons ha (pa_cons hb pa_nil (star_of hs2 [] X.env)) (star_of hs _ X.env)) (by rw [star_of hs, star_of hs2]; rfl) (star_of hs2 [] X.env)) ?_
  rintro σ H R ⟨S, L, env, g, er, q⟩
  simp only [evI] at q
  refine tE.seq g er q fun d S1 L1 H1 v st g1 er1 r q1 => tE.seq g1 er1 q1 fun d2 S2 L2 H2 v2 st2 g2 er2 r2 q2 => ?_
  split at q2
  · rename_i k1 k2
    split at q2
    · rename_i j hj
      obtain ⟨⟨b1, b2, b3, b4⟩, io⟩ := rng_it (X := X) (CA := CA) hj
      simp only [RelD] at r r2; subst r r2
      exact ⟨k1, k2, rfl, ⟨b1, b2, b3, b4⟩, q2 L2 H2 Step.refl g2 _ _ io True.intro⟩
    · exact q2.elim
  · exact q2.elim
theorem zip_at {x y : D} {j : Itr} (h : zipItr x y S = some j) : ∃ xs ys, lstOf S x = some xs ∧ lstOf S y = some ys ∧ j.n = min xs.length ys.length ∧ (∀ i S' d, j.at_ i S' = some d → ∃ xs' ys' u v, lstOf S' x = some xs' ∧ lstOf S' y = some ys' ∧ xs'[i]? = some u ∧ ys'[i]? = some v ∧ d = .tup [u, v]) ∧ ∀ S', j.fin S' = true → ∃ xs' ys', lstOf S' x = some xs' ∧ lstOf S' y = some ys' ∧ xs'.length = xs.length ∧ ys'.length = ys.length := by
  unfold zipItr at h
  split at h
  · rename_i xs ys hx hy
    cases h
    refine ⟨xs, ys, hx, hy, rfl, fun i S' d hi => ?_, fun S' hf => ?_⟩
    · dsimp only at hi
      split at hi
      · rename_i xs' ys' hx' hy'
        split at hi
        · split at hi
          · rename_i u v hu hv
            cases hi
            exact ⟨xs', ys', u, v, hx', hy', hu, hv, rfl⟩
          · cases hi
        · cases hi
      · cases hi
    · dsimp only at hf
      split at hf
      · rename_i xs' ys' hx' hy'
        have := of_decide_eq_true hf
        exact ⟨xs', ys', hx', hy', this.1, this.2⟩
      · cases hf
  · cases h
theorem i_zip (ok : Ok X CA G W C) {tg l m : Expr} {a b : Ex} {q p : Pos} (ht : isTupE tg = true) (h1 : gloB C.sc "zip" = true) (hs : notSt l = true) (hs2 : notSt m = true) (ha : PE X l (tE X.K CA G W a)) (hb : PE X m (tE X.K CA G W b)) :
    PI X tg (.Call (.Name "zip" q) [l, m] [] p) (tI X.K CA G W (.zip a b)) := by
  cases tg <;> try (exact absurd ht Bool.false_ne_true)
  refine PI.by_ (pi_zip (gl_of ok h1) (ok.free _ (by decide +kernel)) (pa_cons ha (pa_cons hb pa_nil (star_of hs2 [] X.env)) (star_of hs _ X.env)) (star_of hs _ X.env) (by rw [star_of hs2]; rfl)) ?_
  rintro σ H R ⟨S, L, env, g, er, q⟩
  simp only [evI] at q
  refine tE.seq g er q fun d S1 L1 H1 v st g1 er1 r q1 => tE.seq g1 er1 q1 fun d2 S2 L2 H2 v2 st2 g2 er2 r2 q2 => ?_
  cases hj : zipItr d d2 S2 with
  | none => rw [hj] at q2; exact q2.elim
  | some j =>
    rw [hj] at q2
    have fin := q2 L2 H2 Step.refl g2
    obtain ⟨xs, ys, hx, hy, en, hat, hfin⟩ := zip_at hj
    obtain ⟨a1, rfl, k1⟩ := lst_keeps hx (r.step g1 st2)
    obtain ⟨a2, rfl, k2⟩ := lst_keeps hy r2
    obtain ⟨vs, sq, rs⟩ := keeps_lst g2 k1 hx
    obtain ⟨ws, sw, rw_⟩ := keeps_lst g2 k2 hy
    refine ⟨a1, a2, vs, ws, rfl, sq, sw, fin _ (fun L H => Keeps X.K d a1 L H ∧ Keeps X.K d2 a2 L H) ⟨fun L H L' H' h m => ⟨h.1.mon m, h.2.mon m⟩, fun i S L H x g k h hi => ?_, fun S L H g k h => ?_⟩ ⟨k1, k2⟩⟩
    · obtain ⟨xs', ys', u, v, hx', hy', hu, hv, rfl⟩ := hat i S x h
      obtain ⟨vs', sq', rs'⟩ := keeps_lst g k.1 hx'
      obtain ⟨ws', sw', rw'⟩ := keeps_lst g k.2 hy'
      obtain ⟨v1, e1, r1⟩ := rs'.get hu
      obtain ⟨v2, e2, r2⟩ := rw'.get hv
      refine ⟨⟨vs', ws', v1, v2, sq', sw', e1, e2⟩, fun v' H' z => ?_⟩
      obtain ⟨T, x1, x2, rfl, hT, rfl, z1, z2⟩ := z
      have f1 := z1 vs' sq'
      have f2 := z2 ws' sw'
      rw [e1] at f1; cases f1
      rw [e2] at f2; cases f2
      obtain ⟨st3, g3⟩ := g.side (o := .tup [v1, v2]) hT
      refine ⟨st3, g3, ?_⟩
      simp only [RelD]
      exact ⟨T, _, rfl, upd_same, RelDs.cons (r1.step g st3) (RelDs.cons (r2.step g st3) RelDs.nil)⟩
    · obtain ⟨xs', ys', hx', hy', l1, l2⟩ := hfin S h
      obtain ⟨vs', sq', rs'⟩ := keeps_lst g k.1 hx'
      obtain ⟨ws', sw', rw'⟩ := keeps_lst g k.2 hy'
      refine ⟨vs', ws', sq', sw', ?_⟩
      rw [en, rs'.length, rw'.length, l1, l2]
      omega
end
end Lt
set_option maxHeartbeats 1000000
namespace Lt
open PySem PySem.Spec PyProof.Rows L2
section
variable {X : Cx} {CA : Str → Addr} {G : Cxp} {W : WX} {C : MC} {S S' : Store} {L L1 M2 L' : List Addr} {H H1 H2 H' : Hp} {σ σ' : Sl} {e : Expr}
abbrev W0 : WX := fun _ _ _ _ => False
theorem Ok.blk (ok : Ok X CA G W C) (hcd : cold C = true) (sc : Scope) (hk : sc.kind = .function) (s : Shared) (H : Hp) (cd : Addr) (cl : List (Str × Addr)) (fp : List Addr) :
    Ok (X.blk s H sc (compEnvC sc cl cd X.env) fp) CA G W0 (C.blk sc) where
  cal := fun _ => ok.calm hcd
  nm := ok.nm
  nd := ok.nd
  sc := by
    show relabel sc X.env = relS sc C.sc
    rw [← ok.sc]
    rfl
  kind := hk
  tk := takesM0
  un := ok.un
  pas := fun _ => PassesOwn.never
  free := ok.free
  fn := fun h => by cases h
  glo := ok.glo
  call := ok.call
  callK := ok.callK
  fl := ok.fl
  ms := ok.ms
  mks := ok.mks
  xc := ok.xc
  sb := ok.sb
  fr := fun h => by cases h
  stk := fun h => by cases h
  xo := fun x h => by cases h
  xoh := fun x h => by cases h
  gdo := ok.gdo
  pah := fun h => by cases h
  xi := ok.xi
  xf := ok.xf
  tc := fun h => by cases h
  xsc := ok.xsc
  xoc := fun x h => by cases h
  hot := ok.hot
  xcq := fun f h => by cases h
  hotx := fun i a o h => by rw [ok.nopin hcd] at h; cases h
theorem Aft.bindX {α β : Type} {r : R α} {k : α → Store → R β} {P : β → Store → List Addr → Hp → Prop} (h : Aft X.K CA W σ L H (r.bindX k) P) : Aft X.K CA W0 σ' L1 H1 r fun a S1 _ _ => Aft X.K CA W σ L H (k a S1) P := by
  cases r with
  | ok a S1 => exact fun _ _ _ _ => h
  | exc c S1 => exact h.elim
  | bad => exact h
theorem bindX_bind {α β γ : Type} (r : R α) (k : α → Store → R β) (k2 : β → Store → R γ) : (r.bindX k).bind k2 = r.bindX fun a S => (k a S).bind k2 := by
  cases r <;> rfl
theorem Step.side (st : Step L H L1 H1) {D : Addr} {o : HO} (h : H D = some o) (hn : D ∉ L) : H1 D = some o ∧ D ∉ L1 :=
  ⟨st.keep D o h hn, fun hm => by
    rcases st.fresh D hm with z | z
    · exact hn z
    · rw [h] at z; cases z⟩
/-- a list that stood aside becomes a cell -/
theorem Good.adopt (g : Good X.K CA S L H) {D : Addr} {vs : List V} {ds : List Lt.D} (e : H D = some (.lst vs)) (hn : D ∉ L) (r : RelDs X.K L H ds vs) : Good X.K CA (S ++ [.lst ds]) (L ++ [D]) H := by
  have m : Mon L H (L ++ [D]) H := ⟨fun n a h => by rw [List.getElem?_append_left (List.getElem?_eq_some_iff.mp h).1]; exact h, fun _ _ h _ => h⟩
  refine ⟨by simp [g.len], ?_, fun n c' a h1 h2 => ?_⟩
  · rw [List.nodup_append]
    refine ⟨g.nd, by simp, fun x hx y hy => ?_⟩
    rw [List.mem_singleton] at hy
    subst hy
    exact fun e => hn (e ▸ hx)
  · by_cases hlt : n < S.length
    · rw [List.getElem?_append_left hlt] at h1
      rw [List.getElem?_append_left (by rw [g.len]; exact hlt)] at h2
      exact (g.cell n c' a h1 h2).mon m rfl fun _ h => h
    · have en : n = S.length := by
        have := (List.getElem?_eq_some_iff.mp h1).1
        simp at this; omega
      subst en
      rw [List.getElem?_append_right (Nat.le_refl _)] at h1
      rw [List.getElem?_append_right (by rw [g.len]; exact Nat.le_refl _)] at h2
      simp at h1
      simp [g.len] at h2
      subst h1 h2
      exact ⟨vs, e, RelDs.mon m _ _ r⟩
theorem wipe_get (σ : Sl) (j : Nat) : ∀ vs : List Nat, (L2.wipe σ vs)[j]? = if j ∈ vs then (if j < σ.length then some none else none) else σ[j]?
  | [] => by simp [L2.wipe]
  | v :: vs => by
    unfold L2.wipe
    by_cases h : j = v
    · subst h
      by_cases hl : j < σ.length
      · rw [List.getElem?_set_self (by rw [L2.wipe_length]; exact hl)]; simp [hl]
      · rw [List.getElem?_eq_none (by simp [L2.wipe_length]; omega)]; simp [hl]
    · rw [List.getElem?_set_ne (Ne.symm h), wipe_get σ j vs]
      simp [h]
theorem wipe_same {is own : List Nat} (so : SameOut is (L2.wipe σ own) σ') (hs : ∀ i ∈ is, i ∈ own) : L2.wipe σ' own = L2.wipe σ own := by
  have hl : σ'.length = σ.length := so.1.trans (L2.wipe_length σ own)
  refine List.ext_getElem? fun j => ?_
  rw [wipe_get, wipe_get, hl]
  by_cases h : j ∈ own
  · simp [h]
  · rw [if_neg h, if_neg h, so.2 j fun z => h (hs j z), wipe_get, if_neg h]
/-- what a comprehension's test reads -/
def tCond (K : PySem.W.Frag) (CA : Str → Addr) (G : Cxp) : Option Ex → TT
  | none => fun _ H k => k true H
  | some c => tT K CA G W0 c
def cEv (G : Cxt) : Option Ex → Option (Env → Store → R D)
  | none => none
  | some c => some (ev G c)
theorem lc_read (hp0 : G.pin = none) {own : List Nat} {t : Tg} {it : Lt.It} {c : Option Ex} {el : Ex} (hs : ∀ i ∈ tsl t, i ∈ own) {env : Env} (g : Good X.K CA S L H) (er : EnvR X.K G.pin L H env σ) {Q : VK}
    (q : Aft X.K CA W σ L H ((evI G it env S).bind fun j S => (lcGo t j (cEv G c) (ev G el) (wipeE env own) j.n 0 [] S).bind fun ds S => alloc (.lst ds) S) fun d _ L' H' => ∀ v, RelD X.K L' H' d v → Q v H') :
    tLc (tI X.K CA G W it) (tG X.K CA G.pin t) (tCond X.K CA G c) (tE X.K CA G W0 el) own σ H Q := by
  refine ⟨S, L, env, g, er, q.bind.mono fun j S0 L0 H0 ⟨st0, g0, q0⟩ J P io p0 => fun D hD => ?_⟩
  have er0 := er.step g st0
  let Wf : Nat → Nat → Hp → Prop := fun i m Hc => ∃ S L acc vs, Step L0 H0 L Hc ∧ Good X.K CA S L Hc ∧ P L Hc ∧ Hc D = some (.lst vs) ∧ D ∉ L ∧ RelDs X.K L Hc acc vs ∧ i + m = j.n ∧ EnvR X.K G.pin L Hc (wipeE env own) (L2.wipe σ own) ∧
    Aft X.K CA W σ L0 H0 ((lcGo t j (cEv G c) (ev G el) (wipeE env own) m i acc S).bind fun ds S => alloc (.lst ds) S) fun d _ L' H' => ∀ v, RelD X.K L' H' d v → Q v H'
  refine ⟨Wf, ⟨j.n, ?_⟩, ?_⟩
  · obtain ⟨st1, g1⟩ := g0.side (o := .lst []) hD
    exact ⟨S0, L0, [], [], st1, g1, io.mon _ _ _ _ p0 (st1.mon g0), upd_same, g0.fresh hD, RelDs.nil, by omega, (er0.step g0 st1).wipe hp0 own, q0⟩
  · rintro i m Hc ⟨S, L, acc, vs, st, g, p, hd, hn, rs, em, ec, q⟩
    cases m with
    | zero =>
      left
      simp only [lcGo] at q
      split at q
      · rename_i hf
        have ei : i = j.n := by omega
        subst ei
        refine ⟨io.stop S L Hc g p hf, ?_⟩
        have hD0 : H0 D = none := by
          cases z : H0 D with
          | none => rfl
          | some o => rw [hD] at z; cases z
        have g2 := g.adopt hd hn rs
        have st2 : Step L0 H0 (L ++ [D]) Hc := by
          obtain ⟨M, rfl⟩ := st.ext
          refine ⟨⟨M ++ [D], by simp⟩, fun a ha => ?_, st.keep⟩
          rcases List.mem_append.mp ha with h | h
          · exact st.fresh a h
          · rw [List.mem_singleton] at h; subst h; exact .inr hD0
        refine q _ _ st2 g2 (.ref D) ?_
        simp only [RelD]
        exact ⟨D, by rw [← g.len, List.getElem?_append_right (Nat.le_refl _)]; simp, rfl⟩
      · exact q.elim
    | succ k =>
      right
      simp only [lcGo] at q
      split at q
      · exact q.elim
      · rename_i d hat
        split at q
        · exact q.elim
        · rename_i e1 hb
          obtain ⟨hgo, hy⟩ := io.go i S L Hc d g p hat (by omega)
          refine ⟨hgo, Wf (i + 1) k, fun H' w => ⟨k, Nat.lt_succ_self k, w⟩, fun x H' y => ?_⟩
          obtain ⟨st1, g1, rd⟩ := hy x H' y
          refine ⟨S, L, _, d, e1, g1, ec.step g st1, rd, hb, fun σ2 er2 so => ⟨wipe_same so hs, ?_⟩⟩
          -- one more item
          have put : ∀ {S3 : Store} {L3 : List Addr} {H3 : Hp}, Step L H' L3 H3 → Good X.K CA S3 L3 H3 →
              Aft X.K CA W σ L0 H0 ((ev G el e1 S3).bindX fun y S2 => (if acc.length < lim then lcGo t j (cEv G c) (ev G el) (wipeE env own) k (i + 1) (acc ++ [y]) S2 else .bad).bind fun ds S => alloc (.lst ds) S) (fun d _ L' H' => ∀ v, RelD X.K L' H' d v → Q v H') →
              tE X.K CA G W0 el σ2 H3 fun y H4 => ∃ acc, H4 D = some (.lst acc) ∧ acc.length < sizeLine ∧ Wf (i + 1) k (upd H4 D (.lst (acc ++ [y]))) := by
            intro S3 L3 H3 st3 g3 q3
            refine ⟨S3, L3, e1, g3, er2.step g1 st3, (Aft.bindX (σ' := σ2) (L1 := L3) (H1 := H3) q3).more.mono fun y S4 L4 H4 ⟨st4, g4, q4⟩ v rv => ?_⟩
            split at q4
            · rename_i hz
              have sA := (st.trans (st1.trans (st3.trans st4)))
              have sB : Step L Hc L4 H4 := st1.trans (st3.trans st4)
              obtain ⟨hd4, hn4⟩ := sB.side hd hn
              obtain ⟨m5, g5⟩ := g4.other (ys := vs ++ [v]) hn4 hd4
              refine ⟨vs, hd4, by rw [rs.length]; exact small (Nat.le_of_lt hz), S4, L4, acc ++ [y], vs ++ [v], ?_, g5, io.mon _ _ _ _ (io.mon _ _ _ _ p (sB.mon g)) m5, upd_same, hn4, ?_, by omega, (ec.step g sB).mon m5, q4⟩
              · refine ⟨sA.ext, sA.fresh, fun a o h1 h2 => ?_⟩
                rw [upd_ne (by intro z; subst z; rw [hD] at h1; cases h1)]
                exact sA.keep a o h1 h2
              · exact RelDs.append (RelDs.mon m5 _ _ (rs.step g sB)) (RelDs.cons (RelD.mon m5 _ _ rv) RelDs.nil)
            · exact q4.elim
          cases c with
          | none =>
            simp only [cEv] at q
            rw [bindX_bind] at q
            exact iteT (B := Wf (i + 1) k H') (put Step.refl g1 q)
          | some c =>
            simp only [cEv] at q
            rw [bindX_bind] at q
            refine ⟨S, L, e1, g1, er2, (Aft.bindX (σ' := σ2) (L1 := L) (H1 := H') q).more.mono fun b S3 L3 H3 ⟨st3, g3, q3⟩ => ?_⟩
            split at q3
            · rw [bindX_bind] at q3
              exact ⟨true, rfl, iteT (put st3 g3 q3)⟩
            · refine ⟨false, rfl, iteF ?_⟩
              have sB : Step L Hc L3 H3 := st1.trans st3
              obtain ⟨hd4, hn4⟩ := sB.side hd hn
              exact ⟨S3, L3, acc, vs, st.trans sB, g3, io.mon _ _ _ _ p (sB.mon g), hd4, hn4, rs.step g sB, by omega, ec.step g sB, q3⟩
            · exact q3.elim
end
end Lt
set_option maxRecDepth 100000
set_option maxHeartbeats 4000000
namespace Lt
open PySem PySem.Spec PySem.W PySem.Calls PyProof.Rows
section
variable {prog : Program} {w : World} {A : Around} {E : Value → Shared → Prop} {s : Shared} {K : PySem.W.Frag} {x D : Addr} {ox : Obj} {od : Option Obj}
theorem find_data {C : Addr} {name : Str} {a g : Value} (hc : (clsIn K C).isSome = true) (ha : findIn K (.ref C) name = some (some a)) (hg : specialIn K a "__get__" = some (some g)) (ht : takesIn K a = some true) : findObj K C od name = some (.bind g a) := by
  obtain ⟨cd, hc⟩ := Option.isSome_iff_exists.mp hc
  unfold findObj
  rw [hc, Option.bind_some, ha, Option.bind_some]
  simp [hg, ht]
theorem cls_of {Q : Option Value → Shared → Prop} (Z : L2.ExcC K D) (X : K.In s.heap) (I : PySem.W.InstAt s.heap x ox D od) (h : Q (some (.ref D)) { s with toks := s.toks + 1 }) : wpAny (model prog w) A (getAttr? (.ref x) "__class__") Q E s := by
  obtain ⟨hga, hgt, hsub, hdct, ha, hn, htk, hm⟩ := Z
  have hf : findObj K D od "__class__" = some (.bind (.builtin "getset_descriptor.__get__") (.builtin "object.__class__")) := find_data (by obtain ⟨cd, hc, _⟩ := any_some hdct; rw [hc]; rfl) ha hn htk
  obtain ⟨hp, g, d, t, os⟩ := s
  have L0 := I.type (M := model prog w)
  have L1 := looks_findIn (M := model prog w) X hga
  have L2 := looks_findIn (M := model prog w) X hgt
  have L3 := looks_find (M := model prog w) X I hf
  have sub : Looks (model prog w) hp (isInstance (.ref x) (.type "BaseException")) true := L0.andThen (looks_subIn X hsub)
  have hx0 : (false && onTheHeap (Value.builtin "BaseException.__getattribute__")) = false := rfl
  have hx2 : (Value.builtin "BaseException.__getattribute__" == Value.builtin "object.__getattribute__") = false := by decide +kernel
  have hx1 : (onTheHeap (Value.ref D) && Value.builtin "BaseException.__getattribute__" == Value.builtin "object.__getattribute__") = false := by rw [hx2]; rfl
  unfold getAttr? getAttrBy? getAttrBy
  refine wpAny_bind (wpAny_mkText (wpAny_bind (wpAny_attempt (wpAny_holding (wpAny_bind (L0.at (wpAny_bind (L1.at ?_))))))))
  show wpAny _ _ (if (onTheHeap (Value.ref D) && Value.builtin "BaseException.__getattribute__" == Value.builtin "object.__getattribute__") = true then _ else _) _ _ _
  rw [hx1, if_neg Bool.false_ne_true]
  unfold getAttrByItsOwn hookBefore
  refine wpAny_bind ?_
  rw [if_pos (show onTheHeap (Value.ref D) = true from rfl)]
  refine L2.at ?_
  refine wpAny_bind (wpAny_attempt (wpAny_holding ?_))
  unfold callGetattribute
  rw [hx0, if_neg Bool.false_ne_true]
  unfold boundAndCalled
  rw [PySem.F.excAttr_ValueError.ga.bind (.ref x)]
  refine wpAny_bind (wpAny_pure ?_)
  show wpAny _ _ (call (.builtin "BaseException.__getattribute__") [.ref x, .str "__class__" t]) _ _ _
  refine wpAny_call (codeAny_call_builtin PySem.F.excAttr_ValueError.ga.plain PySem.F.entry_bexc_ga ?_)
  refine @check_slot (model prog w) _ _ ⟨hp, g, d, t + 1, os⟩ "BaseException.__getattribute__" "BaseException" "__getattribute__" (.ref x) [.str "__class__" t] [] _ (by decide +kernel) (by decide +kernel) sub (PySem.F.args_bexc_ga (.ref x) (.str "__class__" t)) ?_
  unfold Builtin.«object.__getattribute__»
  refine wpAny_bind (wpAny_of_eq (a := ((Value.ref x : Value), [Value.str "__class__" t])) (by first | rfl | (simp only [slotArgs]; rfl)) ?_)
  refine wpAny_bind (wpAny_pure (wpAny_bind (L0.at (wpAny_bind (L3.at ?_)))))
  show wpAny _ _ (holding [Value.builtin "object.__class__"] (call (.builtin "getset_descriptor.__get__") [.builtin "object.__class__", .ref x, .ref D]) >>= ret) _ _ _
  refine wpAny_bind (wpAny_holding (wpAny_call (class_get (s := ⟨hp, g, d, t + 1, os⟩) (ox := ox) (od := od) X I hm ?_)))
  refine wpAny_pure ?_
  show wpAny _ _ (handedOut (.ref D)) _ _ _
  rw [handedOut_of (v := .ref D) rfl]
  first
    | exact wpAny_pure (wpAny_pure h)
    | exact wpAny_pure h
    | exact wpAny_pure (wpAny_bind (wpAny_pure (wpAny_pure h)))
theorem kitx_exc (Z : L2.ExcC K D) : KitX K (.ref x) (.ref D) (fun h => ∃ od, PySem.W.InstAt h x ox D od) where
  ty := fun _ _ _ ⟨_, I⟩ => I.type
  it := fun _ _ X _ => by
    obtain ⟨cdD, hcD, _⟩ := any_some Z.hd
    unfold clsIn at hcD
    split at hcD
    · rename_i c' d' cd' sl' ho
      intro A' Q' E' s' k q
      unfold isType loadHead
      exact wpAny_bind (wpAny_loadPart (k _ _ (X _ _ ho)) (wpAny_pure q))
    · cases hcD
  ne := fun h tp dd its n sl X htp => by
    obtain ⟨cdD, hcD, _⟩ := any_some Z.hd
    refine Bool.eq_false_iff.mpr fun q => ?_
    have e : D = tp := Value.ref.inj (beq_iff_eq.mp q)
    subst e
    unfold clsIn at hcD
    split at hcD
    · rename_i c' d' cd' sl' ho
      have z := (X _ _ ho).symm.trans htp
      cases z
    · cases hcD
  ca := fun X ⟨_, I⟩ k => cls_of Z X I k
end
open L2
/-- isinstance(e, c), e the error that the suite holds -/
def rIsH (K : PySem.W.Frag) (D a : Addr) (dd : Option Addr) : List V → Hp → VK → Prop := fun xs H Q => ∃ (c : V) (cv : Value) (b : Bool), xs = [.ref a, c] ∧ (∀ u, RelV c u → u = cv) ∧ PySem.W.kitOne K (.ref D) cv = some b ∧ (∀ d, dd = some d → ∃ fs, H d = some (.xd fs)) ∧ Q (.bl b) H
theorem call_isH {X : Cx} {a D : Addr} {oe : Obj} {dd : Option Addr} {pn : List (Addr × Obj)} (C : ExcC X.K D) (hz : Zc (.ref D) dd oe) (hf : ∃ vs, oe.data = .fields vs) : CallR (X.suite a ((a, oe) :: pn)) (.builtin "isinstance") (rIsH X.K D a dd) := by
  intro pins s σ H xs us Q I r h
  obtain ⟨c, cv, b, rfl, hcv, e, hd, q⟩ := h
  cases r with
  | cons rx rr =>
    cases rr with
    | cons rt rr =>
      cases rr
      cases rx
      have ec := hcv _ rt
      subst ec
      obtain ⟨hget, _⟩ := I.pin (a, oe) (List.mem_append.mpr (.inl List.mem_cons_self))
      obtain ⟨vs, hv⟩ := hf
      have J : ∃ od, PySem.W.InstAt s.heap a oe D od := by
        cases dd with
        | none =>
          refine ⟨none, ?_⟩
          obtain ⟨oc, od, oda, osl⟩ := oe
          obtain ⟨h1, h2⟩ := hz
          dsimp only at h1 h2 hv
          subst h1 h2 hv
          exact ⟨hget, rfl, rfl, trivial⟩
        | some d =>
          obtain ⟨fs, ed⟩ := hd d rfl
          have hx : ObjOk X.prog X.w H s.heap d (.xd fs) := I.hok d _ ed
          obtain ⟨mA, hns, hr⟩ := hx
          obtain ⟨od, ho, hl⟩ := lookIn_ns hns
          exact ⟨some od, hget, hz.1, by unfold PySem.W.notCls; rw [hv] <;> rfl, by rw [hz.2]; exact ho⟩
      exact PySem.W.kia_one (kitx_exc C) I.kIn J e (fun z => nomatch z) fun tk => ⟨.bl b, H, I.kept (t' := tk) fun _ _ z => z, rfl, q⟩
section
variable {X : Cx} {CA : Str → Addr} {G : Cxp} {W : WX} {C : MC}
theorem s_xis (ok : Ok X CA G W C) {i : Nat} {z n : Str} {q q1 q2 p : Pos} (h2 : gloB C.sc ("isinstance" : Str) = true) (h4 : gloB C.sc z = true) (h5 : nmOk z = true) (h6 : hsIs C i = true) (h7 : slotB C i n = true) (h8 : visB C.sc n = true) (h9 : nmOk n = true) :
    PE X (.Call (.Name "isinstance" q) [.Name n q1, .Name z q2] [] p) (tE X.K CA G W (.xis i z)) := by
  have e0 := ok.hot
  unfold hsIs at h6
  cases eh : C.hs with
  | none => rw [eh] at h6; cases h6
  | some k =>
    rw [eh] at h6 e0
    have h6 := of_decide_eq_true h6
    subst h6
    cases ep : G.pin with
    | none => rw [ep] at e0; cases e0
    | some pv =>
      obtain ⟨j, a, o⟩ := pv
      rw [ep] at e0
      simp only [Option.map_some, Option.some.injEq] at e0
      subst e0
      obtain ⟨X0, oe, pn, c, rfl, hz, hf, hx, hat⟩ := ok.hotx _ a o ep
      cases ei : G.isc c.cls z with
      | none =>
        refine ⟨fun pins s σ H Q I q => ?_⟩
        obtain ⟨S, L, env, g, er, q⟩ := q
        simp only [ev, xisR, hx, ei] at q
        exact q.elim
      | some b =>
        obtain ⟨xc, cv, hv, hk⟩ := ok.xi _ _ _ ei
        obtain ⟨d1, d2⟩ := nm_of h9
        obtain ⟨d3, d4⟩ := nm_of h5
        have key : ∀ (v : V), (∀ u, RelV v u → u = cv) → PE (X0.suite a ((a, oe) :: pn)) (.Name z q2) (tC v) → PE (X0.suite a ((a, oe) :: pn)) (.Call (.Name "isinstance" q) [.Name n q1, .Name z q2] [] p) (tE X0.K CA G W (.xis k z)) := by
          intro v rv hp
          refine PE.by_ (pe_callB (call_isH xc hz hf) (gl_of ok h2) (ok.free _ (by decide +kernel)) (by decide +kernel) (pa_cons (pe_var (i := k) (by rw [ok.nm]; exact slot_of h7) (by rw [ok.sc]; exact vis_of h8) d1 d2) (pa_cons hp pa_nil (star_of rfl [] _)) (star_of rfl _ _)) (by decide +kernel) (by decide +kernel) (star_of rfl _ _) (by rw [star_of rfl [] _]; rfl)) ?_
          rintro σ H Q ⟨S, L, env, g, er, q⟩
          simp only [ev, xisR, hx, ei] at q
          obtain ⟨p1, p2, p3⟩ := er.pin _ _ _ ep
          refine ⟨_, p1, v, cv, b, rfl, rv, hk, fun d hd => ?_, Aft.bl g q⟩
          cases o with
          | none => cases hd
          | some xd =>
            obtain ⟨x, dd⟩ := xd
            cases hd
            obtain ⟨v, q1, q2⟩ := p3 _ _ rfl
            exact ⟨_, q1⟩
        rcases hv with ⟨hm, rfl⟩ | ⟨hm, rfl, rfl⟩
        · exact key (.ref (CA z)) (fun u r => r) (pe_glob (gl_of ok h4) hm rfl d3)
        · exact key (.ty "ValueError") (fun u r => r) (pe_bltn (gl_of ok h4) hm (by decide +kernel) rfl (by decide +kernel) d3)
theorem s_xcl (ok : Ok X CA G W C) {i : Nat} {f n : Str} {q q1 p : Pos} (h2 : gloB C.sc f = true) (h3 : nmOk f = true) (h4 : C.xq f = true) (h6 : hsIs C i = true) (h7 : slotB C i n = true) (h8 : visB C.sc n = true) (h9 : nmOk n = true) :
    PE X (.Call (.Name f q) [.Name n q1] [] p) (tE X.K CA G W (.xcl i f)) := by
  have e0 := ok.hot
  unfold hsIs at h6
  cases eh : C.hs with
  | none => rw [eh] at h6; cases h6
  | some k =>
    rw [eh] at h6 e0
    have h6 := of_decide_eq_true h6
    subst h6
    cases ep : G.pin with
    | none => rw [ep] at e0; cases e0
    | some pv =>
      obtain ⟨j, a, o⟩ := pv
      rw [ep] at e0
      simp only [Option.map_some, Option.some.injEq] at e0
      subst e0
      obtain ⟨X0, oe, pn, c, rfl, hz, hf, hx, hat⟩ := ok.hotx _ a o ep
      obtain ⟨d1, d2⟩ := nm_of h9
      obtain ⟨d3, d4⟩ := nm_of h3
      obtain ⟨af, fd, ps, kk, sp, F, hr, hm, hk, hb, hs⟩ := ok.xcq f h4
      refine PE.by_ (pe_callE (p := (a, oe)) (E := fun _ _ _ _ => False) F hr rfl hf List.mem_cons_self (gl_of ok h2) hm hk hb (fun σ pins H s e s' I z => ?_) (pa_cons (pe_var (i := k) (by rw [ok.nm]; exact slot_of h7) (by rw [ok.sc]; exact vis_of h8) d1 d2) pa_nil (star_of rfl [] _)) d3 (star_of rfl _ _) (by rfl)) ?_
      · obtain ⟨_, _, _, _, _, _, _, _, _, _, _, _, z⟩ := z
        exact z.elim
      · rintro σ H Q ⟨S, L, env, g, er, q⟩
        simp only [ev, xclR, hx] at q
        obtain ⟨p1, p2, p3⟩ := er.pin _ _ _ ep
        exact ⟨_, p1, hs a oe c o S L H Q _ σ W hz hat g p3 q⟩
theorem s_xat (ok : Ok X CA G W C) {i : Nat} {n : Str} {q p : Pos} (h6 : hsIs C i = true) (h7 : slotB C i n = true) (h8 : visB C.sc n = true) (h9 : nmOk n = true) :
    PE X (.Attribute (.Name n q) "at" p) (tE X.K CA G W (.xat i)) := by
  have e0 := ok.hot
  unfold hsIs at h6
  cases eh : C.hs with
  | none => rw [eh] at h6; cases h6
  | some k =>
    rw [eh] at h6 e0
    have h6 := of_decide_eq_true h6
    subst h6
    cases ep : G.pin with
    | none => rw [ep] at e0; cases e0
    | some pv =>
      obtain ⟨j, a, o⟩ := pv
      rw [ep] at e0
      simp only [Option.map_some, Option.some.injEq] at e0
      subst e0
      obtain ⟨X0, oe, pn, c, rfl, hz, hf, hx, hat⟩ := ok.hotx _ a o ep
      obtain ⟨d1, d2⟩ := nm_of h9
      cases o with
      | none =>
        refine ⟨fun pins s σ H Q I q => ?_⟩
        obtain ⟨S, L, env, g, er, q⟩ := q
        simp only [Option.map_none] at hat
        simp only [ev, xatR, hx, hat] at q
        exact q.elim
      | some xd =>
        obtain ⟨x, d⟩ := xd
        simp only [Option.map_some] at hat
        cases hi : G.isc c.cls c.cls with
        | none =>
          refine ⟨fun pins s σ H Q I q => ?_⟩
          obtain ⟨S, L, env, g, er, q⟩ := q
          simp only [ev, xatR, hx, hat, hi] at q
          exact q.elim
        | some bb =>
        obtain ⟨T, hno⟩ := ok.xf _ _ _ hi
        refine PE.by_ (pe_xf (C := CA c.cls) (cls := .ref (CA c.cls)) (d := some x) T hno hz hf (pe_var (i := k) (by rw [ok.nm]; exact slot_of h7) (by rw [ok.sc]; exact vis_of h8) d1 d2)) ?_
        rintro σ H Q ⟨S, L, env, g, er, q⟩
        simp only [ev, xatR, hx, hat, hi, Option.isSome_some, if_true] at q
        obtain ⟨p1, p2, p3⟩ := er.pin _ _ _ ep
        obtain ⟨v, q1, q2⟩ := p3 _ _ rfl
        refine ⟨.ref a, p1, rfl, rfl, x, _, v, rfl, q1, by simp [List.lookup], Aft.now g q q2⟩
end
end Lt
set_option maxHeartbeats 1000000
namespace Lt
open PySem PySem.Spec PyProof.Rows L2
section
/-- a op1 b op2 c op3 d -/
def tChain4 (r r' r'' : R2) (ta tb tc td : TE) : TE := fun σ H Q => ta σ H fun x H1 => tb σ H1 fun y H2 => r x y H2 fun z H3 => ∃ k, z = .bl k ∧
  (if k = true then tc σ H3 fun w' H4 => r' y w' H4 fun z2 H5 => ∃ k2, z2 = .bl k2 ∧ (if k2 = true then td σ H5 fun u' H6 => r'' w' u' H6 Q else Q (.bl false) H5) else Q (.bl false) H3)
theorem pe_chain4 {X : Cx} {a b c d : Expr} {ta tb tc td : TE} {pos : Pos} {op op' op'' : CmpOp} {r r' r'' : R2} (ho : OpR X (compareOp op) r) (ho' : OpR X (compareOp op') r') (ho'' : OpR X (compareOp op'') r'') (ha : PE X a ta) (hb : PE X b tb) (hc : PE X c tc) (hd : PE X d td)
    (hm : lastMarks [op, op', op''] [b, c, d] = false) : PE X (.Compare a [op, op', op''] [b, c, d] pos) (tChain4 r r' r'' ta tb tc td) := by
  refine ⟨fun pins s σ H Q I h => ?_⟩
  refine Compare_chain (thn (ha.run pins s σ H _ I h) fun v s1 ⟨x, H1, I1, r1, q1⟩ => chain_link (thn (hb.run pins s1 σ H1 _ I1 q1) fun u s2 ⟨y, H2, I2, r2, q2⟩ =>
    thn (ho pins s2 σ H2 x y v u _ I2 r1 r2 q2) fun d s3 ⟨z, H3, I3, r3, k, e, q3⟩ => ?_)) hm
  subst e
  cases r3
  refine wpAny_truthy_bool ?_
  cases k with
  | false => exact ite_ff ⟨.bl false, H3, I3, rfl, q3⟩
  | true =>
    refine ite_tt (chain_link (thn (hc.run pins s3 σ H3 _ I3 q3) fun w' s4 ⟨z', H4, I4, r4, q4⟩ => thn (ho' pins s4 σ H4 y z' u w' _ I4 r2 r4 q4) fun d' s5 ⟨z2, H5, I5, r5, k2, e2, q5⟩ => ?_))
    subst e2
    cases r5
    refine wpAny_truthy_bool ?_
    cases k2 with
    | false => exact ite_ff ⟨.bl false, H5, I5, rfl, q5⟩
    | true => exact ite_tt (chain_last (thn (hd.run pins s5 σ H5 _ I5 q5) fun u' s6 ⟨z3, H6, I6, r6, q6⟩ => ho'' pins s6 σ H6 z' z3 w' u' Q I6 r4 r6 q6))
theorem pt_chain4 {X : Cx} {a b c d : Expr} {ta tb tc td : TE} {pos : Pos} {op op' op'' : CmpOp} {r r' r'' : R2} (ho : OpR X (compareOp op) r) (ho' : OpR X (compareOp op') r') (ho'' : OpR X (compareOp op'') r'') (ha : PE X a ta) (hb : PE X b tb) (hc : PE X c tc) (hd : PE X d td)
    (hm : lastMarks [op, op', op''] [b, c, d] = false) : PT X (.Compare a [op, op', op''] [b, c, d] pos) (tTest (tChain4 r r' r'' ta tb tc td)) := by
  refine ⟨fun pins s σ H Q I h => ?_⟩
  refine isTrue_chain (thn (ha.run pins s σ H _ I h) fun v s1 ⟨x, H1, I1, r1, q1⟩ => test_link (thn (hb.run pins s1 σ H1 _ I1 q1) fun u s2 ⟨y, H2, I2, r2, q2⟩ =>
    thn (ho pins s2 σ H2 x y v u _ I2 r1 r2 q2) fun d s3 ⟨z, H3, I3, r3, k, e, q3⟩ => ?_)) hm
  subst e
  cases r3
  refine wpAny_truthy_bool ?_
  cases k with
  | false =>
    obtain ⟨k', e', q'⟩ := q3
    cases e'
    exact ite_ff ⟨H3, I3, q'⟩
  | true =>
    refine ite_tt (test_link (thn (hc.run pins s3 σ H3 _ I3 q3) fun w' s4 ⟨z', H4, I4, r4, q4⟩ => thn (ho' pins s4 σ H4 y z' u w' _ I4 r2 r4 q4) fun d' s5 ⟨z2, H5, I5, r5, k2, e2, q5⟩ => ?_))
    subst e2
    cases r5
    refine wpAny_truthy_bool ?_
    cases k2 with
    | false =>
      obtain ⟨k', e', q'⟩ := q5
      cases e'
      exact ite_ff ⟨H5, I5, q'⟩
    | true =>
      refine ite_tt (test_last (thn (hd.run pins s5 σ H5 _ I5 q5) fun u' s6 ⟨z3, H6, I6, r6, q6⟩ => thn (ho'' pins s6 σ H6 z' z3 w' u' _ I6 r4 r6 q6) fun d'' s7 ⟨z4, H7, I7, r7, k3, e3, q7⟩ => ?_))
      subst e3
      cases r7
      exact wpAny_truthy_bool ⟨H7, I7, q7⟩
variable {CA : Str → Addr} {G : Cxp} {W : WX} {C : MC} {X : Cx}
theorem s_chn4 (ok : Ok X CA G W C) {o1 o2 o3 : Cm} {p1 p2 p3 : CmpOp} {a b c f : Ex} {l m r t : Expr} {p : Pos} (h1 : cmB o1 p1 = true) (h2 : cmB o2 p2 = true) (h3 : cmB o3 p3 = true) (ha : PE X l (tE X.K CA G W a)) (hb : PE X m (tE X.K CA G W b)) (hc : PE X r (tE X.K CA G W c)) (hf : PE X t (tE X.K CA G W f)) :
    PE X (.Compare l [p1, p2, p3] [m, r, t] p) (tE X.K CA G W (.chn4 o1 o2 o3 a b c f)) ∧ PT X (.Compare l [p1, p2, p3] [m, r, t] p) (tT X.K CA G W (.chn4 o1 o2 o3 a b c f)) := by
  have hm : lastMarks [p1, p2, p3] [m, r, t] = false := nomark t (by intro z; subst z; cases o3 <;> cases h3) (by intro z; subst z; cases o3 <;> cases h3)
  have core : ∀ (σ : Sl) (H : Hp) (P : D → Store → List Addr → Hp → Prop) (Q : VK), (∃ S L env, Good X.K CA S L H ∧ EnvR X.K G.pin L H env σ ∧ Aft X.K CA W σ L H (ev G (.chn4 o1 o2 o3 a b c f) env S) P) → (∀ d S' L' H' v, P d S' L' H' → RelD X.K L' H' d v → Q v H') →
      tChain4 (rBin X.K CA W σ (cmpop o1)) (rBin X.K CA W σ (cmpop o2)) (rBin X.K CA W σ (cmpop o3)) (tE X.K CA G W a) (tE X.K CA G W b) (tE X.K CA G W c) (tE X.K CA G W f) σ H Q := by
    rintro σ H P Q ⟨S, L, env, g, er, q⟩ hP
    simp only [ev] at q
    refine tE.seq g er q fun d1 S1 L1 H1 v1 st1 g1 er1 r1 q1 => tE.seq g1 er1 q1 fun d2 S2 L2 H2 v2 st2 g2 er2 r2 q2 => ⟨S2, L2, d1, d2, g2, r1.step g1 st2, r2, q2.bind.mono fun k S3 L3 H3 ⟨st3, g3, q3⟩ v r => ?_⟩
    split at q3
    · simp only [RelD] at r; subst r
      refine ⟨true, rfl, ?_⟩
      rw [if_pos rfl]
      refine tE.seq g3 (er2.step g2 st3) q3 fun d4 S4 L4 H4 v4 st4 g4 er4 r4 q4 => ⟨S4, L4, d2, d4, g4, (r2.step g2 st3).step g3 st4, r4, q4.bind.mono fun k2 S5 L5 H5 ⟨st5, g5, q5⟩ v r => ?_⟩
      split at q5
      · simp only [RelD] at r; subst r
        refine ⟨true, rfl, ?_⟩
        rw [if_pos rfl]
        exact tE.seq g5 (er4.step g4 st5) q5 fun d6 S6 L6 H6 v6 st6 g6 er6 r6 q6 => ⟨S6, L6, d4, d6, g6, (r4.step g4 st5).step g5 st6, r6, q6.mono fun d S7 L7 H7 z v r => hP _ _ _ _ _ z r⟩
      · simp only [RelD] at r; subst r
        refine ⟨false, rfl, ?_⟩
        rw [if_neg Bool.false_ne_true]
        exact hP _ _ _ _ _ (q5 L5 H5 Step.refl g5) (by simp [RelD])
      · exact q5.elim
    · simp only [RelD] at r; subst r
      refine ⟨false, rfl, ?_⟩
      rw [if_neg Bool.false_ne_true]
      exact hP _ _ _ _ _ (q3 L3 H3 Step.refl g3) (by simp [RelD])
    · exact q3.elim
  refine ⟨⟨fun pins s σ H Q I q => (pe_chain4 (cmp_ok (W := W) ok (cmI_of h1) σ) (cmp_ok (W := W) ok (cmI_of h2) σ) (cmp_ok (W := W) ok (cmI_of h3) σ) ha hb hc hf hm).run pins s σ H Q I ?_⟩, ⟨fun pins s σ H Q I q => (pt_chain4 (cmp_ok (W := W) ok (cmI_of h1) σ) (cmp_ok (W := W) ok (cmI_of h2) σ) (cmp_ok (W := W) ok (cmI_of h3) σ) ha hb hc hf hm).run pins s σ H Q I ?_⟩⟩
  · exact core σ H _ Q q fun d S' L' H' v z r => z v r
  · refine core σ H _ _ q fun d S' L' H' v z r => ?_
    obtain ⟨b, rfl, z⟩ := z
    simp only [RelD] at r
    exact ⟨b, r, z⟩
end
end Lt
set_option maxHeartbeats 1000000
namespace Lt
open PySem PySem.Spec PyProof.Rows L2
section
/-- a op1 b op2 c op3 d op4 f -/
def tChain5 (r r' r'' r3 : R2) (ta tb tc td tf : TE) : TE := fun σ H Q => ta σ H fun x H1 => tb σ H1 fun y H2 => r x y H2 fun z H3 => ∃ k, z = .bl k ∧
  (if k = true then tc σ H3 fun w' H4 => r' y w' H4 fun z2 H5 => ∃ k2, z2 = .bl k2 ∧ (if k2 = true then td σ H5 fun u' H6 => r'' w' u' H6 fun z3 H7 => ∃ k3, z3 = .bl k3 ∧ (if k3 = true then tf σ H7 fun t' H8 => r3 u' t' H8 Q else Q (.bl false) H7) else Q (.bl false) H5) else Q (.bl false) H3)
theorem pe_chain5 {X : Cx} {a b c d f : Expr} {ta tb tc td tf : TE} {pos : Pos} {op op' op'' op3 : CmpOp} {r r' r'' rr : R2} (ho : OpR X (compareOp op) r) (ho' : OpR X (compareOp op') r') (ho'' : OpR X (compareOp op'') r'') (ho3 : OpR X (compareOp op3) rr) (ha : PE X a ta) (hb : PE X b tb) (hc : PE X c tc) (hd : PE X d td) (hf : PE X f tf)
    (hm : lastMarks [op, op', op'', op3] [b, c, d, f] = false) : PE X (.Compare a [op, op', op'', op3] [b, c, d, f] pos) (tChain5 r r' r'' rr ta tb tc td tf) := by
  refine ⟨fun pins s σ H Q I h => ?_⟩
  refine Compare_chain (thn (ha.run pins s σ H _ I h) fun v s1 ⟨x, H1, I1, r1, q1⟩ => chain_link (thn (hb.run pins s1 σ H1 _ I1 q1) fun u s2 ⟨y, H2, I2, r2, q2⟩ =>
    thn (ho pins s2 σ H2 x y v u _ I2 r1 r2 q2) fun d s3 ⟨z, H3, I3, r3, k, e, q3⟩ => ?_)) hm
  subst e
  cases r3
  refine wpAny_truthy_bool ?_
  cases k with
  | false => exact ite_ff ⟨.bl false, H3, I3, rfl, q3⟩
  | true =>
    refine ite_tt (chain_link (thn (hc.run pins s3 σ H3 _ I3 q3) fun w' s4 ⟨z', H4, I4, r4, q4⟩ => thn (ho' pins s4 σ H4 y z' u w' _ I4 r2 r4 q4) fun d' s5 ⟨z2, H5, I5, r5, k2, e2, q5⟩ => ?_))
    subst e2
    cases r5
    refine wpAny_truthy_bool ?_
    cases k2 with
    | false => exact ite_ff ⟨.bl false, H5, I5, rfl, q5⟩
    | true =>
      refine ite_tt (chain_link (thn (hd.run pins s5 σ H5 _ I5 q5) fun u' s6 ⟨z3, H6, I6, r6, q6⟩ => thn (ho'' pins s6 σ H6 z' z3 w' u' _ I6 r4 r6 q6) fun d'' s7 ⟨z4, H7, I7, r7, k3, e3, q7⟩ => ?_))
      subst e3
      cases r7
      refine wpAny_truthy_bool ?_
      cases k3 with
      | false => exact ite_ff ⟨.bl false, H7, I7, rfl, q7⟩
      | true => exact ite_tt (chain_last (thn (hf.run pins s7 σ H7 _ I7 q7) fun u4 s8 ⟨z5, H8, I8, r8, q8⟩ => ho3 pins s8 σ H8 z3 z5 u' u4 Q I8 r6 r8 q8))
theorem pt_chain5 {X : Cx} {a b c d f : Expr} {ta tb tc td tf : TE} {pos : Pos} {op op' op'' op3 : CmpOp} {r r' r'' rr : R2} (ho : OpR X (compareOp op) r) (ho' : OpR X (compareOp op') r') (ho'' : OpR X (compareOp op'') r'') (ho3 : OpR X (compareOp op3) rr) (ha : PE X a ta) (hb : PE X b tb) (hc : PE X c tc) (hd : PE X d td) (hf : PE X f tf)
    (hm : lastMarks [op, op', op'', op3] [b, c, d, f] = false) : PT X (.Compare a [op, op', op'', op3] [b, c, d, f] pos) (tTest (tChain5 r r' r'' rr ta tb tc td tf)) := by
  refine ⟨fun pins s σ H Q I h => ?_⟩
  refine isTrue_chain (thn (ha.run pins s σ H _ I h) fun v s1 ⟨x, H1, I1, r1, q1⟩ => test_link (thn (hb.run pins s1 σ H1 _ I1 q1) fun u s2 ⟨y, H2, I2, r2, q2⟩ =>
    thn (ho pins s2 σ H2 x y v u _ I2 r1 r2 q2) fun d s3 ⟨z, H3, I3, r3, k, e, q3⟩ => ?_)) hm
  subst e
  cases r3
  refine wpAny_truthy_bool ?_
  cases k with
  | false =>
    obtain ⟨k', e', q'⟩ := q3
    cases e'
    exact ite_ff ⟨H3, I3, q'⟩
  | true =>
    refine ite_tt (test_link (thn (hc.run pins s3 σ H3 _ I3 q3) fun w' s4 ⟨z', H4, I4, r4, q4⟩ => thn (ho' pins s4 σ H4 y z' u w' _ I4 r2 r4 q4) fun d' s5 ⟨z2, H5, I5, r5, k2, e2, q5⟩ => ?_))
    subst e2
    cases r5
    refine wpAny_truthy_bool ?_
    cases k2 with
    | false =>
      obtain ⟨k', e', q'⟩ := q5
      cases e'
      exact ite_ff ⟨H5, I5, q'⟩
    | true =>
      refine ite_tt (test_link (thn (hd.run pins s5 σ H5 _ I5 q5) fun u' s6 ⟨z3, H6, I6, r6, q6⟩ => thn (ho'' pins s6 σ H6 z' z3 w' u' _ I6 r4 r6 q6) fun d'' s7 ⟨z4, H7, I7, r7, k3, e3, q7⟩ => ?_))
      subst e3
      cases r7
      refine wpAny_truthy_bool ?_
      cases k3 with
      | false =>
        obtain ⟨k', e', q'⟩ := q7
        cases e'
        exact ite_ff ⟨H7, I7, q'⟩
      | true =>
        refine ite_tt (test_last (thn (hf.run pins s7 σ H7 _ I7 q7) fun u4 s8 ⟨z5, H8, I8, r8, q8⟩ => thn (ho3 pins s8 σ H8 z3 z5 u' u4 _ I8 r6 r8 q8) fun d4 s9 ⟨z6, H9, I9, r9, k4, e4, q9⟩ => ?_))
        subst e4
        cases r9
        exact wpAny_truthy_bool ⟨H9, I9, q9⟩
variable {CA : Str → Addr} {G : Cxp} {W : WX} {C : MC} {X : Cx}
theorem s_chn5 (ok : Ok X CA G W C) {o1 o2 o3 o4 : Cm} {p1 p2 p3 p4 : CmpOp} {a b c f h : Ex} {l m r t u : Expr} {p : Pos} (h1 : cmB o1 p1 = true) (h2 : cmB o2 p2 = true) (h3 : cmB o3 p3 = true) (h4 : cmB o4 p4 = true) (ha : PE X l (tE X.K CA G W a)) (hb : PE X m (tE X.K CA G W b)) (hc : PE X r (tE X.K CA G W c)) (hf : PE X t (tE X.K CA G W f)) (hh : PE X u (tE X.K CA G W h)) :
    PE X (.Compare l [p1, p2, p3, p4] [m, r, t, u] p) (tE X.K CA G W (.chn5 o1 o2 o3 o4 a b c f h)) ∧ PT X (.Compare l [p1, p2, p3, p4] [m, r, t, u] p) (tT X.K CA G W (.chn5 o1 o2 o3 o4 a b c f h)) := by
  have hm : lastMarks [p1, p2, p3, p4] [m, r, t, u] = false := nomark u (by intro z; subst z; cases o4 <;> cases h4) (by intro z; subst z; cases o4 <;> cases h4)
  have core : ∀ (σ : Sl) (H : Hp) (P : D → Store → List Addr → Hp → Prop) (Q : VK), (∃ S L env, Good X.K CA S L H ∧ EnvR X.K G.pin L H env σ ∧ Aft X.K CA W σ L H (ev G (.chn5 o1 o2 o3 o4 a b c f h) env S) P) → (∀ d S' L' H' v, P d S' L' H' → RelD X.K L' H' d v → Q v H') →
      tChain5 (rBin X.K CA W σ (cmpop o1)) (rBin X.K CA W σ (cmpop o2)) (rBin X.K CA W σ (cmpop o3)) (rBin X.K CA W σ (cmpop o4)) (tE X.K CA G W a) (tE X.K CA G W b) (tE X.K CA G W c) (tE X.K CA G W f) (tE X.K CA G W h) σ H Q := by
    rintro σ H P Q ⟨S, L, env, g, er, q⟩ hP
    simp only [ev] at q
    refine tE.seq g er q fun d1 S1 L1 H1 v1 st1 g1 er1 r1 q1 => tE.seq g1 er1 q1 fun d2 S2 L2 H2 v2 st2 g2 er2 r2 q2 => ⟨S2, L2, d1, d2, g2, r1.step g1 st2, r2, q2.bind.mono fun k S3 L3 H3 ⟨st3, g3, q3⟩ v r => ?_⟩
    split at q3
    · simp only [RelD] at r; subst r
      refine ⟨true, rfl, ?_⟩
      rw [if_pos rfl]
      refine tE.seq g3 (er2.step g2 st3) q3 fun d4 S4 L4 H4 v4 st4 g4 er4 r4 q4 => ⟨S4, L4, d2, d4, g4, (r2.step g2 st3).step g3 st4, r4, q4.bind.mono fun k2 S5 L5 H5 ⟨st5, g5, q5⟩ v r => ?_⟩
      split at q5
      · simp only [RelD] at r; subst r
        refine ⟨true, rfl, ?_⟩
        rw [if_pos rfl]
        refine tE.seq g5 (er4.step g4 st5) q5 fun d6 S6 L6 H6 v6 st6 g6 er6 r6 q6 => ⟨S6, L6, d4, d6, g6, (r4.step g4 st5).step g5 st6, r6, q6.bind.mono fun k3 S7 L7 H7 ⟨st7, g7, q7⟩ v r => ?_⟩
        split at q7
        · simp only [RelD] at r; subst r
          refine ⟨true, rfl, ?_⟩
          rw [if_pos rfl]
          exact tE.seq g7 (er6.step g6 st7) q7 fun d8 S8 L8 H8 v8 st8 g8 er8 r8 q8 => ⟨S8, L8, d6, d8, g8, (r6.step g6 st7).step g7 st8, r8, q8.mono fun d S9 L9 H9 z v r => hP _ _ _ _ _ z r⟩
        · simp only [RelD] at r; subst r
          refine ⟨false, rfl, ?_⟩
          rw [if_neg Bool.false_ne_true]
          exact hP _ _ _ _ _ (q7 L7 H7 Step.refl g7) (by simp [RelD])
        · exact q7.elim
      · simp only [RelD] at r; subst r
        refine ⟨false, rfl, ?_⟩
        rw [if_neg Bool.false_ne_true]
        exact hP _ _ _ _ _ (q5 L5 H5 Step.refl g5) (by simp [RelD])
      · exact q5.elim
    · simp only [RelD] at r; subst r
      refine ⟨false, rfl, ?_⟩
      rw [if_neg Bool.false_ne_true]
      exact hP _ _ _ _ _ (q3 L3 H3 Step.refl g3) (by simp [RelD])
    · exact q3.elim
  refine ⟨⟨fun pins s σ H Q I q => (pe_chain5 (cmp_ok (W := W) ok (cmI_of h1) σ) (cmp_ok (W := W) ok (cmI_of h2) σ) (cmp_ok (W := W) ok (cmI_of h3) σ) (cmp_ok (W := W) ok (cmI_of h4) σ) ha hb hc hf hh hm).run pins s σ H Q I ?_⟩, ⟨fun pins s σ H Q I q => (pt_chain5 (cmp_ok (W := W) ok (cmI_of h1) σ) (cmp_ok (W := W) ok (cmI_of h2) σ) (cmp_ok (W := W) ok (cmI_of h3) σ) (cmp_ok (W := W) ok (cmI_of h4) σ) ha hb hc hf hh hm).run pins s σ H Q I ?_⟩⟩
  · exact core σ H _ Q q fun d S' L' H' v z r => z v r
  · refine core σ H _ _ q fun d S' L' H' v z r => ?_
    obtain ⟨b, rfl, z⟩ := z
    simp only [RelD] at r
    exact ⟨b, r, z⟩
end
end Lt
set_option maxHeartbeats 1000000
namespace Lt
open PySem PySem.Spec PyProof.Rows L2
section
variable {X : Cx} {CA : Str → Addr} {G : Cxp} {W : WX} {C : MC} {S S' : Store} {L L1 L2' L' : List Addr} {H H1 H2 H' : Hp} {σ : Sl} {e : Expr}
theorem s_any : PE X e (tE X.K CA G W .any) := by
  refine ⟨fun pins s σ H Q I ⟨S, L, env, g, er, q⟩ => ?_⟩
  simp only [ev] at q
  exact q.elim
theorem s_ntB {a : Ex} {b : Bool} {l : Expr} {k : Nat} {p p2 : Pos} (ha : PE X l (tE X.K CA G W a)) :
    PE X (.Compare l [.IsNot] [.Constant (.bool b) k p2] p) (tE X.K CA G W (.ntB a b)) ∧ PT X (.Compare l [.IsNot] [.Constant (.bool b) k p2] p) (tT X.K CA G W (.ntB a b)) := by
  refine ⟨PE.by_ (pe_cmpR op_notBl ha pe_bl rfl) ?_, PT.by_ (pt_cmpR op_notBl ha pe_bl rfl) ?_⟩
  · rintro σ H Q ⟨S, L, env, g, er, q⟩
    simp only [ev] at q
    refine tE.seq g er q fun d S1 L1 H1 v st g1 er1 r1 q1 => ?_
    unfold ntBR at q1
    split at q1
    · simp only [RelD] at r1
      subst r1
      exact ⟨_, _, rfl, rfl, Aft.now g1 q1 (by simp [RelD])⟩
    · exact q1.elim
  · rintro σ H Q ⟨S, L, env, g, er, q⟩
    simp only [ev] at q
    refine tE.seq g er q fun d S1 L1 H1 v st g1 er1 r1 q1 => ?_
    unfold ntBR at q1
    split at q1
    · simp only [RelD] at r1
      subst r1
      obtain ⟨c, e, z⟩ := q1 L1 H1 Step.refl g1
      cases e
      exact ⟨_, _, rfl, rfl, _, rfl, z⟩
    · exact q1.elim
theorem Mon.new {p : Addr} {o : HO} (hp : H p = none) : Mon L H (L ++ [p]) (upd H p o) := ⟨fun n a e => by
    rw [List.getElem?_append_left (List.getElem?_eq_some_iff.mp e).1]; exact e, fun a u e _ => by
    rw [upd_ne (ne_of_none e hp)]; exact e⟩
theorem s_dic {t : Bool} {p : Pos} : PE X (.Dict [] [] p) (tE X.K CA G W (.dic t)) := by
  cases t with
  | false =>
    refine PE.by_ pe_dnewK ?_
    rintro σ H Q ⟨S, L, env, g, er, q⟩ p hp
    simp only [ev, if_neg Bool.false_ne_true] at q
    exact Aft.laid g q hp ⟨[], upd_same, rfl, RelDs.nil⟩
  | true =>
    refine PE.by_ pe_dnewT ?_
    rintro σ H Q ⟨S, L, env, g, er, q⟩ p hp
    simp only [ev, if_pos] at q
    exact Aft.laid g q hp ⟨[], upd_same, rfl, RelDs.nil⟩
theorem s_dcb {p : Pos} : PE X (.Dict [] [] p) (tE X.K CA G W .dcb) := by
  refine PE.by_ pe_dnewB ?_
  rintro σ H Q ⟨S, L, env, g, er, q⟩ p hp
  simp only [ev] at q
  exact Aft.laid g q hp ⟨[], upd_same, rfl, RelDs.nil⟩
section
variable {κ : Type} [DecidableEq κ]
theorem look_rel : ∀ {kvs : List (κ × D)} {vs : List (κ × V)} {k : κ}, vs.map (·.1) = kvs.map (·.1) → RelDs X.K L H (kvs.map (·.2)) (vs.map (·.2)) →
    (∀ d, lookK kvs k = some d → ∃ v, valV vs k = some v ∧ RelD X.K L H d v) ∧ (lookK kvs k = none → valV vs k = none)
  | [], [], k, _, _ => ⟨fun d h => (by cases h), fun _ => rfl⟩
  | [], _ :: _, k, h, _ => by simp at h
  | _ :: _, [], k, h, _ => by simp at h
  | (a, x) :: kvs, (b, w) :: vs, k, h, r => by
    simp only [List.map_cons, List.cons.injEq] at h
    obtain ⟨h1, h2⟩ := h
    subst h1
    simp only [List.map_cons, RelDs] at r
    obtain ⟨v, rr, e, r1, r2⟩ := r
    simp only [List.cons.injEq] at e
    obtain ⟨e1, e2⟩ := e
    subst e1 e2
    by_cases hk : b = k
    · have l1 : lookK ((b, x) :: kvs) k = some x := by simp [lookK, hk]
      rw [l1, valV_pos (p := (b, w)) hk]
      exact ⟨fun d h => by cases h; exact ⟨w, rfl, r1⟩, fun h => by cases h⟩
    · have l1 : lookK ((b, x) :: kvs) k = lookK kvs k := by simp [lookK, hk]
      rw [l1, valV_neg (p := (b, w)) hk]
      exact look_rel h2 r2
theorem any_keys {β γ : Type} (k : κ) : ∀ {kvs : List (κ × β)} {vs : List (κ × γ)}, vs.map (·.1) = kvs.map (·.1) → (vs.any fun kv => decide (kv.1 = k)) = (kvs.any fun kv => decide (kv.1 = k))
  | [], [], _ => rfl
  | [], _ :: _, h => by simp at h
  | _ :: _, [], h => by simp at h
  | a :: kvs, b :: vs, h => by
    simp only [List.map_cons, List.cons.injEq] at h
    simp only [List.any_cons, h.1, any_keys k h.2]
theorem mapped_rel (k : κ) {d : D} {v : V} (rd : RelD X.K L H d v) : ∀ {kvs : List (κ × D)} {vs : List (κ × V)}, vs.map (·.1) = kvs.map (·.1) → RelDs X.K L H (kvs.map (·.2)) (vs.map (·.2)) →
    (vs.map (fun kv => if kv.1 = k then (kv.1, v) else kv)).map (·.1) = (kvs.map (fun kv => if kv.1 = k then (kv.1, d) else kv)).map (·.1) ∧ RelDs X.K L H ((kvs.map (fun kv => if kv.1 = k then (kv.1, d) else kv)).map (·.2)) ((vs.map (fun kv => if kv.1 = k then (kv.1, v) else kv)).map (·.2))
  | [], [], _, _ => ⟨rfl, RelDs.nil⟩
  | [], _ :: _, h, _ => by simp at h
  | _ :: _, [], h, _ => by simp at h
  | (a, x) :: kvs, (b, w) :: vs, h, r => by
    simp only [List.map_cons, List.cons.injEq] at h
    obtain ⟨h1, h2⟩ := h
    subst h1
    simp only [List.map_cons, RelDs] at r
    obtain ⟨v', rr, e, r1, r2⟩ := r
    simp only [List.cons.injEq] at e
    obtain ⟨e1, e2⟩ := e
    subst e1 e2
    obtain ⟨i1, i2⟩ := mapped_rel k rd h2 r2
    simp only [List.map_cons]
    by_cases hk : b = k
    · rw [if_pos hk, if_pos hk]
      exact ⟨by simp [i1], RelDs.cons rd i2⟩
    · rw [if_neg hk, if_neg hk]
      exact ⟨by simp [i1], RelDs.cons r1 i2⟩
theorem put_rel (k : κ) {d : D} {v : V} (rd : RelD X.K L H d v) {kvs : List (κ × D)} {vs : List (κ × V)} (h : vs.map (·.1) = kvs.map (·.1)) (r : RelDs X.K L H (kvs.map (·.2)) (vs.map (·.2))) :
    (putK vs k v).map (·.1) = (putKD kvs k d).map (·.1) ∧ RelDs X.K L H ((putKD kvs k d).map (·.2)) ((putK vs k v).map (·.2)) := by
  unfold putK putKD
  rw [any_keys k h]
  split
  · exact mapped_rel k rd h r
  · simp only [List.map_append, List.map_cons, List.map_nil]
    exact ⟨by rw [h], r.append (RelDs.cons rd RelDs.nil)⟩
theorem drop_rel (k : κ) : ∀ {kvs : List (κ × D)} {vs : List (κ × V)}, vs.map (·.1) = kvs.map (·.1) → RelDs X.K L H (kvs.map (·.2)) (vs.map (·.2)) →
    (dropK vs k).map (·.1) = (dropKD kvs k).map (·.1) ∧ RelDs X.K L H ((dropKD kvs k).map (·.2)) ((dropK vs k).map (·.2))
  | [], [], _, _ => ⟨rfl, RelDs.nil⟩
  | [], _ :: _, h, _ => by simp at h
  | _ :: _, [], h, _ => by simp at h
  | (a, x) :: kvs, (b, w) :: vs, h, r => by
    simp only [List.map_cons, List.cons.injEq] at h
    obtain ⟨h1, h2⟩ := h
    subst h1
    simp only [List.map_cons, RelDs] at r
    obtain ⟨v', rr, e, r1, r2⟩ := r
    simp only [List.cons.injEq] at e
    obtain ⟨e1, e2⟩ := e
    subst e1 e2
    obtain ⟨i1, i2⟩ := drop_rel k h2 r2
    by_cases hk : b = k
    · have z1 : dropKD ((b, x) :: kvs) k = dropKD kvs k := by simp [dropKD, hk]
      have z2 : dropK ((b, w) :: vs) k = dropK vs k := by simp [dropK, hk]
      rw [z1, z2]
      exact ⟨i1, i2⟩
    · have z1 : dropKD ((b, x) :: kvs) k = (b, x) :: dropKD kvs k := by simp [dropKD, hk]
      have z2 : dropK ((b, w) :: vs) k = (b, w) :: dropK vs k := by simp [dropK, hk]
      rw [z1, z2]
      exact ⟨by simp [i1], RelDs.cons r1 i2⟩
end
theorem key_rel {y : D} {u : V} {k : Key} (h : keyD y = some k) (r : RelD X.K L H y u) : u = kV k := by
  cases y <;> simp only [keyD, Option.some.injEq] at h <;> first | (cases h; done) | skip
  · subst h; simp only [RelD] at r; exact r
  · subst h; simp only [RelD] at r; exact r
theorem keysO_rel : ∀ {ys : List D} {us : List V} {ks : List Key}, mapO keyD ys = some ks → RelDs X.K L H ys us → us = ks.map kV
  | [], us, ks, h, r => by
    simp only [mapO, Option.some.injEq] at h; subst h
    simp only [RelDs] at r; subst r; rfl
  | y :: ys, us, ks, h, r => by
    simp only [mapO] at h
    split at h
    · rename_i k ks' h1 h2
      cases h
      simp only [RelDs] at r
      obtain ⟨v, vr, rfl, r1, r2⟩ := r
      rw [key_rel h1 r1, keysO_rel h2 r2]; rfl
    · cases h
theorem keys_rel {y : D} {u : V} {k : List Key} (h : keysD y = some k) (r : RelD X.K L H y u) : ∃ b, u = .ref b ∧ H b = some (.tup (k.map kV)) := by
  cases y <;> simp only [keysD] at h <;> first | (cases h; done) | skip
  simp only [RelD] at r
  obtain ⟨p, vs, rfl, e, rs⟩ := r
  exact ⟨p, rfl, by rw [e, keysO_rel h rs]⟩
/-- what is read of a dict -/
theorem dget_rel (g : Good X.K CA S L H) {x y : D} {v u : V} {o : Option D} (h : dgetO S x y = some o) (rx : RelD X.K L H x v) (ry : RelD X.K L H y u) :
    ∃ a w, v = .ref a ∧ DGet H a u w ∧ (∀ d, o = some d → ∃ z, w = some z ∧ RelD X.K L H d z) ∧ (o = none → w = none) := by
  unfold dgetO at h
  split at h
  · rename_i r
    simp only [RelD] at rx
    obtain ⟨a, hn, rfl⟩ := rx
    split at h
    · rename_i kvs e
      obtain ⟨vs, e1, e2, e3⟩ := g.cell r _ a e hn
      rw [Option.map_eq_some_iff] at h
      obtain ⟨k, hk, rfl⟩ := h
      rw [key_rel hk ry]
      obtain ⟨l1, l2⟩ := look_rel (k := k) e2 e3
      exact ⟨a, _, rfl, DGet.k e1, l1, l2⟩
    · rename_i kvs e
      obtain ⟨vs, e1, e2, e3⟩ := g.cell r _ a e hn
      rw [Option.map_eq_some_iff] at h
      obtain ⟨k, hk, rfl⟩ := h
      obtain ⟨b, rfl, eb⟩ := keys_rel hk ry
      obtain ⟨l1, l2⟩ := look_rel (k := k) e2 e3
      exact ⟨a, _, rfl, DGet.t e1 eb, l1, l2⟩
    · cases h
  · cases h
theorem dbO_rel (g : Good X.K CA S L H) {x y : D} {v u : V} {o : Option D} (h : dbO S x y = some o) (rx : RelD X.K L H x v) (ry : RelD X.K L H y u) :
    ∃ a w, v = .ref a ∧ DGetX H a u w ∧ (∀ d, o = some d → ∃ z, w = some z ∧ RelD X.K L H d z) ∧ (o = none → w = none) := by
  unfold dbO at h
  split at h
  · rename_i r
    simp only [RelD] at rx
    obtain ⟨a, hn, rfl⟩ := rx
    split at h
    · rename_i kvs e
      obtain ⟨vs, e1, e2, e3⟩ := g.cell r _ a e hn
      rw [Option.map_eq_some_iff] at h
      obtain ⟨k, hk, rfl⟩ := h
      obtain ⟨l1, l2⟩ := look_rel (k := k) e2 e3
      have hu : u = .bl k := by
        cases y <;> simp only [keyBo, Option.some.injEq] at hk <;> first | (cases hk; done) | skip
        subst hk
        simpa only [RelD] using ry
      exact ⟨a, _, rfl, .inr ⟨vs, k, e1, hu, rfl⟩, l1, l2⟩
    · cases h
  · cases h
theorem isDct_rel (g : Good X.K CA S L H) {d : D} {v : V} (h : isDct d S = true) (r : RelD X.K L H d v) : ∃ a, v = .ref a ∧ IsD H a := by
  unfold isDct at h
  split at h
  · rename_i n
    simp only [RelD] at r
    obtain ⟨a, hn, rfl⟩ := r
    split at h
    · rename_i kvs e
      obtain ⟨vs, e1, _⟩ := g.cell n _ a e hn
      exact ⟨a, rfl, .inl ⟨vs, .inl e1⟩⟩
    · rename_i kvs e
      obtain ⟨vs, e1, _⟩ := g.cell n _ a e hn
      exact ⟨a, rfl, .inr ⟨vs, .inl e1⟩⟩
    · cases h
  · cases h
theorem noSl_of {k : Expr} (h : notSl k = true) : NoSl k := by
  cases k <;> first | (intro _ _; rfl) | exact absurd h Bool.false_ne_true
theorem s_dgt (ok : Ok X CA G W C) {o k : Ex} {l s : Expr} {p : Pos} (hs : notSl s = true) (ho : PE X l (tE X.K CA G W o)) (hk : PE X s (tE X.K CA G W k)) : PE X (.Subscript l s p) (tE X.K CA G W (.dgt o k)) := by
  have hu : X.A.units + 1 < cLine := by have := ok.un; omega
  refine PE.by_ (pe_dgetBo hu ho hk (noSl_of hs)) ?_
  rintro σ H Q ⟨S, L, env, g, er, q⟩
  simp only [ev] at q
  refine tE.seq g er q fun d S1 L1 H1 v st g1 er1 r1 q1 => tE.seq g1 er1 q1 fun d2 S2 L2 H2 v2 st2 g2 er2 r2 q2 => ?_
  unfold dgtR at q2
  split at q2
  · rename_i d3 hd
    obtain ⟨a, w, rfl, dg, h1, _⟩ := dget_rel g2 hd (r1.step g1 st2) r2
    obtain ⟨z, rfl, rz⟩ := h1 d3 rfl
    exact ⟨a, z, rfl, .inl dg, Aft.now g2 q2 rz⟩
  · exact q2.elim
  · unfold dbgR at q2
    split at q2
    · rename_i d3 hd
      obtain ⟨a, w, rfl, dg, h1, _⟩ := dbO_rel g2 hd (r1.step g1 st2) r2
      obtain ⟨z, rfl, rz⟩ := h1 d3 rfl
      exact ⟨a, z, rfl, dg, Aft.now g2 q2 rz⟩
    · exact q2.elim
theorem s_din (ok : Ok X CA G W C) {n : Bool} {o k : Ex} {op : CmpOp} {l r : Expr} {p : Pos} (h : dinB n op = true) (hs : notSet r = true) (hk : PE X l (tE X.K CA G W k)) (ho : PE X r (tE X.K CA G W o)) :
    PE X (.Compare l [op] [r] p) (tE X.K CA G W (.din n k o)) ∧ PT X (.Compare l [op] [r] p) (tT X.K CA G W (.din n k o)) := by
  have hu : X.A.units + 1 < cLine := by have := ok.un; omega
  have core : ∀ (σ : Sl) (H : Hp) (P : D → Store → List Addr → Hp → Prop) (Q : VK), (∃ S L env, Good X.K CA S L H ∧ EnvR X.K G.pin L H env σ ∧ Aft X.K CA W σ L H (ev G (.din n k o) env S) P) → (∀ d S' L' H' v, P d S' L' H' → RelD X.K L' H' d v → Q v H') →
      (tE X.K CA G W k) σ H fun y H1 => (tE X.K CA G W o) σ H1 fun x H2 => ∃ a oo, x = .ref a ∧ DGetX H2 a y oo ∧ Q (.bl (if n = true then !oo.isSome else oo.isSome)) H2 := by
    rintro σ H P Q ⟨S, L, env, g, er, q⟩ hP
    simp only [ev] at q
    refine tE.seq g er q fun d S1 L1 H1 v st g1 er1 r1 q1 => tE.seq g1 er1 q1 fun d2 S2 L2 H2 v2 st2 g2 er2 r2 q2 => ?_
    unfold dinR at q2
    split at q2
    · rename_i oo hd
      obtain ⟨a, w, rfl, dg, h1, h2⟩ := dget_rel g2 hd r2 (r1.step g1 st2)
      refine ⟨a, w, rfl, .inl dg, ?_⟩
      have e : w.isSome = oo.isSome := by
        cases oo with
        | none => rw [h2 rfl]; rfl
        | some d => obtain ⟨z, e, _⟩ := h1 d rfl; rw [e]; rfl
      rw [e]
      exact hP _ _ _ _ _ (q2 L2 H2 Step.refl g2) (by simp [RelD])
    · unfold dbiR at q2
      split at q2
      · rename_i oo hd
        obtain ⟨a, w, rfl, dg, h1, h2⟩ := dbO_rel g2 hd r2 (r1.step g1 st2)
        refine ⟨a, w, rfl, dg, ?_⟩
        have e : w.isSome = oo.isSome := by
          cases oo with
          | none => rw [h2 rfl]; rfl
          | some d => obtain ⟨z, e, _⟩ := h1 d rfl; rw [e]; rfl
        rw [e]
        exact hP _ _ _ _ _ (q2 L2 H2 Step.refl g2) (by simp [RelD])
      · exact q2.elim
  have hb : behindInMarks op r = false := nomark2 r hs
  cases n <;> cases op <;> first | (cases h; done) | skip
  · refine ⟨PE.by_ (pe_cmp (pc_dinX hu hk ho) hb) fun σ H Q q => core σ H _ Q q fun d S' L' H' v z r => z v r, PT.by_ (pt_cmp (pc_dinX hu hk ho) hb) fun σ H Q q => core σ H _ (fun x H' => ∃ b, x = .bl b ∧ Q b H') q fun d S' L' H' v z r => ?_⟩
    obtain ⟨b, rfl, z⟩ := z
    simp only [RelD] at r
    exact ⟨b, r, z⟩
  · refine ⟨PE.by_ (pe_cmp (pc_dnotinX hu hk ho) hb) fun σ H Q q => core σ H _ Q q fun d S' L' H' v z r => z v r, PT.by_ (pt_cmp (pc_dnotinX hu hk ho) hb) fun σ H Q q => core σ H _ (fun x H' => ∃ b, x = .bl b ∧ Q b H') q fun d S' L' H' v z r => ?_⟩
    obtain ⟨b, rfl, z⟩ := z
    simp only [RelD] at r
    exact ⟨b, r, z⟩
theorem star2_of {e f : Expr} (h : notSt e = true) (h2 : notSt f = true) (env : PySem.Env) : starEach [e, f] env = [(false, eval e env), (false, eval f env)] := by
  rw [star_of h, star_of h2]; rfl
theorem m1_of {o e : Expr} {m : Str} {ap cp : Pos} (hc : notCall o = true) (hl : (ap.endLine == cp.line) = true) (hs : notSt e = true) : M1 X o m ap e cp :=
  ⟨base_of hc _ _, few_of hs cp X.env, hl, by rw [star_of hs]; rfl⟩
theorem m2_of {o e f : Expr} {m : Str} {ap cp : Pos} (hc : notCall o = true) (hl : (ap.endLine == cp.line) = true) (hs : notSt e = true) (hs2 : notSt f = true) : M2 X o m ap e f cp :=
  ⟨base_of hc _ _, by rw [star2_of hs hs2]; rfl, hl, by rw [star2_of hs hs2]; rfl⟩
theorem s_get1 (ok : Ok X CA G W C) {o a : Ex} {l r : Expr} {ap cp : Pos} (hc : notCall l = true) (hl : (ap.endLine == cp.line) = true) (hs : notSt r = true) (ho : PE X l (tE X.K CA G W o)) (ha : PE X r (tE X.K CA G W a)) :
    PE X (.Call (.Attribute l "get" ap) [r] [] cp) (tE X.K CA G W (.get1 o a)) := by
  have hu : X.A.units + 1 < cLine := by have := ok.un; omega
  refine PE.by_ (pe_dget1 hu ho ha (m1_of hc hl hs)) ?_
  rintro σ H Q ⟨S, L, env, g, er, q⟩
  simp only [ev] at q
  refine tE.seq g er q fun d S1 L1 H1 v st g1 er1 r1 q1 => ?_
  split at q1
  · rename_i hi
    obtain ⟨b, rfl, isd⟩ := isDct_rel g1 hi r1
    refine ⟨b, rfl, isd, tE.seq g1 er1 q1 fun d2 S2 L2 H2 v2 st2 g2 er2 r2 q2 => ?_⟩
    unfold getR at q2
    split at q2
    · rename_i oo hd
      obtain ⟨b', w, e, dg, h1, h2⟩ := dget_rel g2 hd (r1.step g1 st2) r2
      cases e
      refine ⟨w, dg, ?_⟩
      cases oo with
      | none =>
        rw [h2 rfl]
        exact Aft.now g2 q2 (by simp [RelD])
      | some d3 =>
        obtain ⟨z, rfl, rz⟩ := h1 d3 rfl
        exact Aft.now g2 q2 rz
    · exact q2.elim
  · exact q1.elim
theorem s_get2 (ok : Ok X CA G W C) {o a b : Ex} {l r t : Expr} {ap cp : Pos} (hc : notCall l = true) (hl : (ap.endLine == cp.line) = true) (hs : notSt r = true) (hs2 : notSt t = true) (ho : PE X l (tE X.K CA G W o)) (ha : PE X r (tE X.K CA G W a)) (hb : PE X t (tE X.K CA G W b)) :
    PE X (.Call (.Attribute l "get" ap) [r, t] [] cp) (tE X.K CA G W (.get2 o a b)) := by
  have hu : X.A.units + 1 < cLine := by have := ok.un; omega
  refine PE.by_ (pe_dget2 hu ho ha hb (m2_of hc hl hs hs2)) ?_
  rintro σ H Q ⟨S, L, env, g, er, q⟩
  simp only [ev] at q
  refine tE.seq g er q fun d S1 L1 H1 v st g1 er1 r1 q1 => ?_
  split at q1
  · rename_i hi
    obtain ⟨b, rfl, isd⟩ := isDct_rel g1 hi r1
    refine ⟨b, rfl, isd, tE.seq g1 er1 q1 fun d2 S2 L2 H2 v2 st2 g2 er2 r2 q2 => tE.seq g2 er2 q2 fun d3 S3 L3 H3 v3 st3 g3 er3 r3 q3 => ?_⟩
    unfold getR at q3
    split at q3
    · rename_i oo hd
      obtain ⟨b', w, e, dg, h1, h2⟩ := dget_rel g3 hd ((r1.step g1 st2).step g2 st3) (r2.step g2 st3)
      cases e
      refine ⟨w, dg, ?_⟩
      cases oo with
      | none =>
        rw [h2 rfl]
        exact Aft.now g3 q3 r3
      | some d3 =>
        obtain ⟨z, rfl, rz⟩ := h1 d3 rfl
        exact Aft.now g3 q3 rz
    · exact q3.elim
  · exact q1.elim
/-- a dict is written -/
theorem Aft.putK (g : Good X.K CA S L H) {n : Nat} {kvs : List (Key × D)} {vs ws : List (Key × V)} {a : Addr} {d : D} {Q : VK} (h : Aft X.K CA W σ L H (.ok d (S.set n (.dK kvs))) fun d _ L' H' => ∀ v, RelD X.K L' H' d v → Q v H')
    (hn : L[n]? = some a) (e : H a = some (.dK vs)) (k : ws.map (·.1) = kvs.map (·.1)) (r : RelDs X.K L H (kvs.map (·.2)) (ws.map (·.2))) {v : V} (rd : RelD X.K L H d v) : Q v (upd H a (.dK ws)) := by
  have m : Mon L H L (upd H a (.dK ws)) := ⟨fun _ _ h => h, fun b o eb pb => by
    rw [upd_ne (by intro z; subst z; rw [e] at eb; cases eb; exact pb)]; exact eb⟩
  obtain ⟨st, g1⟩ := g.write (c := .dK kvs) (o := .dK ws) hn ⟨ws, upd_same, k, RelDs.mon m _ _ r⟩
  exact h _ _ st g1 v (RelD.mon m _ _ rd)
theorem s_dpop (ok : Ok X CA G W C) {o a : Ex} {l r : Expr} {ap cp : Pos} (hc : notCall l = true) (hl : (ap.endLine == cp.line) = true) (hs : notSt r = true) (ho : PE X l (tE X.K CA G W o)) (ha : PE X r (tE X.K CA G W a)) :
    PE X (.Call (.Attribute l "pop" ap) [r] [] cp) (tE X.K CA G W (.dpop o a)) := by
  refine PE.by_ (pe_dpop1 ho ha (m1_of hc hl hs)) ?_
  rintro σ H Q ⟨S, L, env, g, er, q⟩
  simp only [ev] at q
  refine tE.seq g er q fun d S1 L1 H1 v st g1 er1 r1 q1 => ?_
  split at q1
  · rename_i hi
    obtain ⟨b, rfl, isd⟩ := isDct_rel g1 hi r1
    refine ⟨b, rfl, isd, tE.seq g1 er1 q1 fun d2 S2 L2 H2 v2 st2 g2 er2 r2 q2 => ?_⟩
    unfold dpopR at q2
    split at q2
    · rename_i n
      split at q2
      · rename_i kvs k e hk
        split at q2
        · rename_i v3 hv
          have r1' := r1.step g1 st2
          simp only [RelD] at r1'
          obtain ⟨b', hn, e9⟩ := r1'
          cases e9
          obtain ⟨vs, e1, e2, e3⟩ := g2.cell n _ b e hn
          obtain ⟨w, hw, rw_⟩ := (look_rel (k := k) e2 e3).1 _ hv
          obtain ⟨d1, d2⟩ := drop_rel k e2 e3
          exact ⟨vs, k, w, e1, key_rel hk r2, hw, Aft.putK g2 q2 hn e1 d1 d2 rw_⟩
        · exact q2.elim
      · exact q2.elim
    · exact q2.elim
  · exact q1.elim
theorem findP_ok (a : PyData) : ∀ (l : List PyData) (j : Nat), findP a l = some j → (∃ z, l[j]? = some z ∧ PyData.eqv z a = true) ∧ ∀ (m : Nat) (z' : PyData), m < j → l[m]? = some z' → PyData.eqv z' a = false
  | [], j, h => by cases h
  | b :: r, j, h => by
    unfold findP at h
    split at h
    · rename_i hb
      cases h
      exact ⟨⟨b, rfl, hb⟩, fun m z' hm _ => by omega⟩
    · rename_i hb
      rw [Option.map_eq_some_iff] at h
      obtain ⟨i, hi, rfl⟩ := h
      obtain ⟨⟨z, h1, h2⟩, h3⟩ := findP_ok a r i hi
      refine ⟨⟨z, by simpa using h1, h2⟩, fun m z' hm hz => ?_⟩
      cases m with
      | zero => simp at hz; subst hz; simpa using hb
      | succ m => exact h3 m z' (by omega) (by simpa using hz)
theorem s_ixo (ok : Ok X CA G W C) {o a : Ex} {l r : Expr} {ap cp : Pos} (hc : notCall l = true) (hl : (ap.endLine == cp.line) = true) (hs : notSt r = true) (ho : PE X l (tE X.K CA G W o)) (ha : PE X r (tE X.K CA G W a)) :
    PE X (.Call (.Attribute l "index" ap) [r] [] cp) (tE X.K CA G W (.ixo o a)) := by
  have hu : X.A.units + 65 < cLine := by have := ok.un; omega
  refine PE.by_ (pe_bm PySem.F.plainAttrs_list PySem.F.slot_list_index PySem.F.type_list_index (mt_indexD hu) ho (pa_cons ha pa_nil (star_of hs [] X.env)) (base_of hc _ _) (few_of hs cp X.env) hl (star_of hs [] X.env) rfl) ?_
  rintro σ H Q ⟨S, L, env, g, er, q⟩
  simp only [ev] at q
  refine tE.seq g er q fun d S1 L1 H1 v st g1 er1 r1 q1 => ?_
  split at q1
  · rename_i hi
    obtain ⟨ty, n, xs, b, vs, rfl, hx, hn, rfl, _⟩ := isLst_rel g1 hi r1
    refine ⟨ty, tE.seq g1 er1 q1 fun d2 S2 L2 H2 v2 st2 g2 er2 r2 q2 => ?_⟩
    unfold ixoR at q2
    split at q2
    · rename_i bs pa h1 h2
      split at q2
      · rename_i j hj
        obtain ⟨a1, a2⟩ := toP_shaped g2 h1 (r1.step g1 st2)
        obtain ⟨b1, b2⟩ := toP_shaped g2 h2 r2
        obtain ⟨⟨z, f1, f2⟩, f3⟩ := findP_ok pa bs j hj
        exact ⟨b, v2, pa, bs, j, z, rfl, rfl, a1, b1, a2, b2, f1, f2, f3, Aft.int g2 q2⟩
      · exact q2.elim
    · exact q2.elim
  · exact q1.elim
theorem few2_of {e f : Expr} (h : notSt e = true) (h2 : notSt f = true) (cp : Pos) (env : PySem.Env) : ((backTo cp (starEach [e, f] env)).all (fun x => !x.1) && (backToKw cp (keywordEach [] env)).all (fun x => x.1.isSome)
      && decide (([e, f] : List Expr).length + ([] : List Keyword).length + (if ([] : List Keyword).isEmpty then 0 else 1) < 30)) = true := by
  rw [star2_of h h2 env]; rfl
theorem s_ins {o i a : Ex} {l r t : Expr} {ap cp : Pos} (hc : notCall l = true) (hl : (ap.endLine == cp.line) = true) (hs : notSt r = true) (hs2 : notSt t = true) (ho : PE X l (tE X.K CA G W o)) (hi : PE X r (tE X.K CA G W i)) (ha : PE X t (tE X.K CA G W a)) :
    PE X (.Call (.Attribute l "insert" ap) [r, t] [] cp) (tE X.K CA G W (.ins o i a)) := by
  refine PE.by_ (pe_bm PySem.F.plainAttrs_list PySem.F.slot_list_insert PySem.F.type_list_insert mt_insert ho (pa_cons hi (pa_cons ha pa_nil (star_of hs2 [] X.env)) (star_of hs _ X.env)) (base_of hc _ _) (few2_of hs hs2 cp X.env) hl (star_of hs _ X.env) (by rw [star_of hs2]; rfl)) ?_
  rintro σ H Q ⟨S, L, env, g, er, q⟩
  simp only [ev] at q
  refine tE.seq g er q fun d S1 L1 H1 v st g1 er1 r1 q1 => ?_
  split at q1
  · rename_i hi
    refine ⟨(isLst_rel g1 hi r1).1, tE.seq g1 er1 q1 fun d2 S2 L2 H2 v2 st2 g2 er2 r2 q2 => tE.seq g2 er2 q2 fun d3 S3 L3 H3 v3 st3 g3 er3 r3 q3 => ?_⟩
    unfold insR at q3
    split at q3
    · rename_i n j
      split at q3
      · rename_i xs hx
        split at q3
        · rename_i hz
          have r1' := (r1.step g1 st2).step g2 st3
          have r2' := r2.step g2 st3
          simp only [RelD] at r1' r2'
          obtain ⟨b, hn, rfl⟩ := r1'
          subst r2'
          obtain ⟨vs, e1, rs⟩ := getL_rel g3 hx hn
          refine ⟨b, vs, j, v3, rfl, rfl, e1, by rw [rs.length]; exact small (Nat.le_of_lt hz.1), hz.2.1, by omega, Aft.set g3 q3 hn e1 (((rs.take _).append (RelDs.cons r3 RelDs.nil)).append (rs.drop _)) fun H' => by simp [RelD]⟩
        · exact q3.elim
      · exact q3.elim
    · exact q3.elim
  · exact q1.elim
theorem RelDs.dropLast {ds : List D} {vs : List V} (h : RelDs X.K L H ds vs) : RelDs X.K L H ds.dropLast vs.dropLast := by
  rw [List.dropLast_eq_take, List.dropLast_eq_take, h.length]
  exact h.take _
theorem RelDs.eraseIdx {ds : List D} {vs : List V} (h : RelDs X.K L H ds vs) (i : Nat) : RelDs X.K L H (ds.eraseIdx i) (vs.eraseIdx i) := by
  rw [List.eraseIdx_eq_take_drop_succ, List.eraseIdx_eq_take_drop_succ]
  exact (h.take _).append (h.drop _)
/-- a list is written, an old item told -/
theorem Aft.setV (g : Good X.K CA S L H) {n : Nat} {ys : List D} {vs ws : List V} {a : Addr} {d : D} {Q : VK} (h : Aft X.K CA W σ L H (.ok d (S.set n (.lst ys))) fun d _ L' H' => ∀ v, RelD X.K L' H' d v → Q v H')
    (hn : L[n]? = some a) (e : H a = some (.lst vs)) (r : RelDs X.K L H ys ws) {v : V} (rd : RelD X.K L H d v) : Q v (upd H a (.lst ws)) := by
  have m : Mon L H L (upd H a (.lst ws)) := ⟨fun _ _ h => h, fun b o eb pb => by
    rw [upd_ne (by intro z; subst z; rw [e] at eb; cases eb; exact pb)]; exact eb⟩
  obtain ⟨st, g1⟩ := g.write (c := .lst ys) (o := .lst ws) hn ⟨ws, upd_same, RelDs.mon m _ _ r⟩
  exact h _ _ st g1 v (RelD.mon m _ _ rd)
theorem s_pop0 {o : Ex} {l : Expr} {ap cp : Pos} (hc : notCall l = true) (hl : (ap.endLine == cp.line) = true) (ho : PE X l (tE X.K CA G W o)) :
    PE X (.Call (.Attribute l "pop" ap) [] [] cp) (tE X.K CA G W (.pop0 o)) := by
  refine PE.by_ (pe_bm0 PySem.F.plainAttrs_list PySem.F.slot_list_pop PySem.F.type_list_pop mt_pop ho (base_of hc _ _) hl) ?_
  rintro σ H Q ⟨S, L, env, g, er, q⟩
  simp only [ev] at q
  refine tE.seq g er q fun d S1 L1 H1 v st g1 er1 r1 q1 => ?_
  unfold pop0R at q1
  split at q1
  · split at q1
    · rename_i n xs hx
      split at q1
      · rename_i y hy
        obtain ⟨ty, _⟩ := isLst_rel g1 (by simp [isLst, hx]) r1
        simp only [RelD] at r1
        obtain ⟨b, hn, rfl⟩ := r1
        obtain ⟨vs, e1, rs⟩ := getL_rel g1 hx hn
        obtain ⟨v, hv, rv⟩ := rs.get hy
        exact ⟨ty, b, vs, v, rfl, rfl, e1, by rw [rs.length]; exact hv, Aft.setV g1 q1 hn e1 rs.dropLast rv⟩
      · exact q1.elim
    · exact q1.elim
  · exact q1.elim
theorem seqIx_ok {j : Int} {n : Nat} (h : 0 ≤ j) (h2 : j.toNat < n) : seqIndex? j n = some j.toNat := by
  unfold seqIndex?
  have h3 : ¬ j < 0 := by omega
  simp only [h3, if_false]
  rw [if_pos]
  simp only [Bool.and_eq_true, decide_eq_true_eq]
  omega
theorem s_pop1 {o a : Ex} {l r : Expr} {ap cp : Pos} (hc : notCall l = true) (hl : (ap.endLine == cp.line) = true) (hs : notSt r = true) (ho : PE X l (tE X.K CA G W o)) (ha : PE X r (tE X.K CA G W a)) :
    PE X (.Call (.Attribute l "pop" ap) [r] [] cp) (tE X.K CA G W (.pop1 o a)) := by
  refine PE.by_ (pe_bm PySem.F.plainAttrs_list PySem.F.slot_list_pop PySem.F.type_list_pop mt_popAt ho (pa_cons ha pa_nil (star_of hs [] X.env)) (base_of hc _ _) (few_of hs cp X.env) hl (star_of hs [] X.env) rfl) ?_
  rintro σ H Q ⟨S, L, env, g, er, q⟩
  simp only [ev] at q
  refine tE.seq g er q fun d S1 L1 H1 v st g1 er1 r1 q1 => ?_
  split at q1
  · rename_i hi
    refine ⟨(isLst_rel g1 hi r1).1, tE.seq g1 er1 q1 fun d2 S2 L2 H2 v2 st2 g2 er2 r2 q2 => ?_⟩
    unfold pop1R at q2
    split at q2
    · rename_i n j
      split at q2
      · rename_i xs hx
        split at q2
        · rename_i y hy
          split at q2
          · rename_i hz
            have r1' := r1.step g1 st2
            simp only [RelD] at r1' r2
            obtain ⟨b, hn, rfl⟩ := r1'
            subst r2
            obtain ⟨vs, e1, rs⟩ := getL_rel g2 hx hn
            obtain ⟨v, hv, rv⟩ := rs.get hy
            have hlt := (List.getElem?_eq_some_iff.mp hv).1
            exact ⟨b, vs, j, j.toNat, v, rfl, rfl, e1, by omega, by omega, seqIx_ok hz.1 hlt, hv, Aft.setV g2 q2 hn e1 (rs.eraseIdx _) rv⟩
          · exact q2.elim
        · exact q2.elim
      · exact q2.elim
    · exact q2.elim
  · exact q1.elim
end
end Lt
set_option maxRecDepth 100000
set_option maxHeartbeats 2000000
namespace Lt
open PySem PySem.Spec PyProof.Rows L2
section
variable {X : Cx} {CA : Str → Addr} {G : Cxp} {W : WX} {C : MC} {S S' : Store} {L L1 M2 L' : List Addr} {H H1 H2 H' : Hp} {σ : Sl} {e : Expr}
/-- a dict that stood aside, empty, is filled and becomes a cell -/
theorem Good.fillK (g : Good X.K CA S L H) {p : Addr} {kvs : List (Key × Lt.D)} {vs : List (Key × V)} (e : H p = some (.dK [])) (hn : p ∉ L) (hk : vs.map (·.1) = kvs.map (·.1)) (r : RelDs X.K L H (kvs.map (·.2)) (vs.map (·.2))) :
    Good X.K CA (S ++ [.dK kvs]) (L ++ [p]) (upd H p (.dK vs)) := by
  have m : Mon L H (L ++ [p]) (upd H p (.dK vs)) := ⟨fun n a h => by rw [List.getElem?_append_left (List.getElem?_eq_some_iff.mp h).1]; exact h, fun a o h hp => by
    rw [upd_ne (by intro z; subst z; rw [e] at h; cases h; exact hp)]; exact h⟩
  refine ⟨by simp [g.len], ?_, fun n c' a h1 h2 => ?_⟩
  · rw [List.nodup_append]
    refine ⟨g.nd, by simp, fun x hx y hy => ?_⟩
    rw [List.mem_singleton] at hy
    subst hy
    exact fun e => hn (e ▸ hx)
  · by_cases hlt : n < S.length
    · rw [List.getElem?_append_left hlt] at h1
      rw [List.getElem?_append_left (by rw [g.len]; exact hlt)] at h2
      have ha : a ∈ L := List.mem_of_getElem? h2
      refine (g.cell n c' a h1 h2).mon m (upd_ne fun z => hn (z ▸ ha)) fun dx ex => ?_
      rw [upd_ne (by intro z; subst z; rw [e] at ex; cases ex)]; exact ex
    · have en : n = S.length := by
        have := (List.getElem?_eq_some_iff.mp h1).1
        simp at this; omega
      subst en
      rw [List.getElem?_append_right (Nat.le_refl _)] at h1
      rw [List.getElem?_append_right (by rw [g.len]; exact Nat.le_refl _)] at h2
      simp at h1
      simp [g.len] at h2
      subst h1 h2
      exact ⟨vs, upd_same, hk, RelDs.mon m _ _ r⟩
/-- each one's reading -/
def AllPE (CA : Str → Addr) (G : Cxp) (X : Cx) (W : WX) : List Ex → List Expr → Prop
  | [], [] => True
  | x :: xs, e :: es => PE X e (tE X.K CA G W x) ∧ AllPE CA G X W xs es
  | _, _ => False
/-- the readings of the pairs -/
def prs (K : PySem.W.Frag) (CA : Str → Addr) (G : Cxp) (W : WX) : List Ex → List (TE × TE)
  | k :: v :: r => (tE K CA G W k, tE K CA G W v) :: prs K CA G W r
  | _ => []
theorem pps_of : ∀ {ks : List (Option Expr)} {vs xs : List Expr} {es : List Ex} {p : Pos}, flatE ks vs = some xs → AllPE CA G X W es xs → PPs X p ks vs (prs X.K CA G W es) ∧ ks.all (·.isSome) = true ∧ ks.length = vs.length
  | [], [], xs, es, p, h, a => by
    simp only [flatE, Option.some.injEq] at h; subst h
    cases es with
    | nil => exact ⟨pps_nil, rfl, rfl⟩
    | cons _ _ => exact a.elim
  | some k :: ks, v :: vs, xs, es, p, h, a => by
    simp only [flatE, Option.map_eq_some_iff] at h
    obtain ⟨r, h1, rfl⟩ := h
    cases es with
    | nil => exact a.elim
    | cons x es =>
      obtain ⟨a1, a2⟩ := a
      cases es with
      | nil => exact a2.elim
      | cons y es =>
        obtain ⟨a2, a3⟩ := a2
        obtain ⟨h2, h3, h4⟩ := pps_of (p := p) h1 a3
        exact ⟨pps_cons a1 a2 h2, by simpa using h3, by simp [h4]⟩
  | none :: ks, _, xs, es, p, h, a => by simp [flatE] at h
  | some k :: ks, [], xs, es, p, h, a => by simp [flatE] at h
  | [], v :: vs, xs, es, p, h, a => by simp [flatE] at h
/-- pairs stand for pairs -/
def RelPs (K : PySem.W.Frag) (L : List Addr) (H : Hp) : List Lt.D → List (V × V) → Prop
  | [], ps => ps = []
  | k :: v :: r, ps => ∃ x y t, ps = (x, y) :: t ∧ RelD K L H k x ∧ RelD K L H v y ∧ RelPs K L H r t
  | [_], _ => False
theorem keyV {K : PySem.W.Frag} {d : Lt.D} {k : Key} (h : keyD d = some k) {v : V} (r : RelD K L H d v) : v = kV k := by
  cases d <;> simp [keyD] at h
  · subst h; simp only [RelD] at r; rw [r]; rfl
  · subst h; simp only [RelD] at r; rw [r]; rfl
theorem pairs_rel : ∀ {ds : List Lt.D} {ps : List (V × V)} {kvs : List (Key × Lt.D)}, pairsD ds = some kvs → RelPs X.K L H ds ps → ∃ kws : List (Key × V), ps = kws.map (fun kv => (kV kv.1, kv.2)) ∧ kws.map (·.1) = kvs.map (·.1) ∧ RelDs X.K L H (kvs.map (·.2)) (kws.map (·.2))
  | [], ps, kvs, h, r => by
    simp only [pairsD, Option.some.injEq] at h; subst h
    simp only [RelPs] at r; subst r
    exact ⟨[], rfl, rfl, RelDs.nil⟩
  | [_], ps, kvs, h, r => by simp [pairsD] at h
  | k :: v :: t, ps, kvs, h, r => by
    simp only [pairsD] at h
    split at h
    · rename_i kk l h1 h2
      cases h
      simp only [RelPs] at r
      obtain ⟨x, y, t', rfl, r1, r2, r3⟩ := r
      obtain ⟨kws, e1, e2, e3⟩ := pairs_rel h2 r3
      refine ⟨(kk, y) :: kws, ?_, by simp [e2], ?_⟩
      · rw [keyV h1 r1, e1]; rfl
      · exact RelDs.cons r2 e3
    · cases h
theorem put_merge : ∀ {kvs acc : List (Key × Lt.D)} {kws acw : List (Key × V)}, kws.map (·.1) = kvs.map (·.1) → RelDs X.K L H (kvs.map (·.2)) (kws.map (·.2)) → acw.map (·.1) = acc.map (·.1) → RelDs X.K L H (acc.map (·.2)) (acw.map (·.2)) →
    (kws.foldl (fun a kv => putK a kv.1 kv.2) acw).map (·.1) = (kvs.foldl (fun a kv => putKD a kv.1 kv.2) acc).map (·.1) ∧ RelDs X.K L H ((kvs.foldl (fun a kv => putKD a kv.1 kv.2) acc).map (·.2)) ((kws.foldl (fun a kv => putK a kv.1 kv.2) acw).map (·.2))
  | [], acc, kws, acw, h1, _, h3, h4 => by
    have : kws = [] := by simpa using h1
    subst this
    exact ⟨h3, h4⟩
  | (k, d) :: kvs, acc, [], acw, h1, _, _, _ => by simp at h1
  | (k, d) :: kvs, acc, (k', v) :: kws, acw, h1, h2, h3, h4 => by
    simp only [List.map_cons, List.cons.injEq] at h1
    obtain ⟨rfl, h1⟩ := h1
    rw [List.map_cons, List.map_cons] at h2
    simp only [RelDs] at h2
    obtain ⟨w, r, e, h2, h5⟩ := h2
    cases e
    obtain ⟨q1, q2⟩ := put_rel k' h2 h3 h4
    exact put_merge (kvs := kvs) (kws := kws) h1 h5 q1 q2
def Ev2 : List Ex → Prop
  | [] => True
  | [_] => False
  | _ :: _ :: r => Ev2 r
theorem ev2_of : ∀ {ks : List (Option Expr)} {vs xs : List Expr} {es : List Ex}, flatE ks vs = some xs → AllPE CA G X W es xs → Ev2 es
  | [], [], xs, es, h, a => by
    simp only [flatE, Option.some.injEq] at h; subst h
    cases es with
    | nil => exact True.intro
    | cons _ _ => exact a.elim
  | some k :: ks, v :: vs, xs, es, h, a => by
    simp only [flatE, Option.map_eq_some_iff] at h
    obtain ⟨r, h1, rfl⟩ := h
    cases es with
    | nil => exact a.elim
    | cons x es =>
      obtain ⟨a1, a2⟩ := a
      cases es with
      | nil => exact a2.elim
      | cons y es => exact ev2_of (es := es) (ks := ks) (vs := vs) h1 a2.2
  | none :: ks, _, xs, es, h, a => by simp [flatE] at h
  | some k :: ks, [], xs, es, h, a => by simp [flatE] at h
  | [], v :: vs, xs, es, h, a => by simp [flatE] at h
theorem pairs_read : ∀ {es : List Ex} {env : Lt.Env} {S : Store} {L : List Addr} {H : Hp} {p : Addr} {Q : List (V × V) → Hp → Prop} {P : List Lt.D → Store → List Addr → Hp → Prop}, Ev2 es → Good X.K CA S L H → EnvR X.K G.pin L H env σ → H p = some (.dK []) → p ∉ L →
    Aft X.K CA W σ L H (evs G es env S) P → (∀ ds S1 L1 H1 ps, Step L H L1 H1 → Good X.K CA S1 L1 H1 → P ds S1 L1 H1 → RelPs X.K L1 H1 ds ps → Q ps H1) → tPairs (prs X.K CA G W es) σ H Q
  | [], env, S, L, H, p, Q, P, _, g, er, hp, hn, h, m => by
    simp only [evs] at h
    exact m [] S L H [] Step.refl g (h L H Step.refl g) rfl
  | [_], env, S, L, H, p, Q, P, z, g, er, hp, hn, h, m => z.elim
  | k :: v :: r, env, S, L, H, p, Q, P, z, g, er, hp, hn, h, m => by
    simp only [evs] at h
    refine tE.seq g er h fun d1 S1 L1 H1 v1 st1 g1 er1 r1 q1 => ?_
    refine tE.seq g1 er1 q1.bind fun d2 S2 L2 H2 v2 st2 g2 er2 r2 q2 => ?_
    obtain ⟨hp2, hn2⟩ := (st1.trans st2).side hp hn
    refine pairs_read (es := r) z g2 er2 hp2 hn2 q2.bind fun ds S3 L3 H3 ps st3 g3 hP rel => ?_
    obtain ⟨_, _, h3⟩ := hP
    obtain ⟨_, _, h4⟩ := h3 L3 H3 Step.refl g3
    exact m (d1 :: d2 :: ds) S3 L3 H3 ((v1, v2) :: ps) (st1.trans (st2.trans st3)) g3 (h4 L3 H3 Step.refl g3) ⟨v1, v2, ps, rfl, (r1.step g1 st2).step g2 st3, r2.step g2 st3, rel⟩
theorem s_dsp {ks : List (Option Expr)} {vs xs : List Expr} {es : List Ex} {p : Pos} (hf : flatE ks vs = some xs) (h15 : ks.length ≤ 15) (a : AllPE CA G X W es xs) (h0 : es ≠ []) : PE X (.Dict ks vs p) (tE X.K CA G W (.dsp es)) := by
  obtain ⟨hpp, hall, hl⟩ := pps_of (p := p) hf a
  have hk : ks ≠ [] := by
    intro z
    subst z
    cases vs with
    | nil =>
      simp only [flatE, Option.some.injEq] at hf; subst hf
      cases es with
      | nil => exact h0 rfl
      | cons _ _ => exact a.elim
    | cons _ _ => simp at hl
  refine PE.by_ (pe_disp hpp hall hl hk h15) ?_
  rintro σ H Q ⟨S, L, env, g, er, q⟩
  simp only [ev] at q
  intro pa hpa
  obtain ⟨st0, g0⟩ := g.side (o := .dK []) hpa
  have hn0 := g.fresh hpa
  refine pairs_read (p := pa) (ev2_of hf a) g0 (er.step g st0) upd_same hn0 (Aft.from st0 q.bind0) fun ds S1 L1 H1 ps st1 g1 hP rel => ?_
  have h3 := hP
  obtain ⟨hp1, hn1⟩ := st1.side upd_same hn0
  refine ⟨hp1, ?_⟩
  unfold dspR at h3
  split at h3
  · rename_i kvs hkv
    split at h3
    · rename_i h15'
      obtain ⟨kws, e1, e2, e3⟩ := pairs_rel hkv rel
      refine ⟨kws, e1, by have := congrArg List.length e2; simp at this; omega, ?_⟩
      obtain ⟨m1, m2⟩ := put_merge (acc := []) (acw := []) e2 e3 rfl RelDs.nil
      have g2 := g1.fillK (kvs := mergeD kvs) (vs := mergeK [] kws) hp1 hn1 m1 m2
      have stT := st0.trans st1
      have st2 : Step L H (L1 ++ [pa]) (upd H1 pa (.dK (mergeK [] kws))) := by
        refine ⟨?_, fun x hx => ?_, fun x o ex hx => ?_⟩
        · obtain ⟨M, rfl⟩ := stT.ext
          exact ⟨M ++ [pa], by simp⟩
        · rcases List.mem_append.mp hx with z | z
          · exact stT.fresh x z
          · rw [List.mem_singleton] at z; subst z; exact .inr hpa
        · rw [upd_ne (by intro z; subst z; rw [hpa] at ex; cases ex)]
          exact stT.keep x o ex hx
      refine h3 _ _ st2 g2 (.ref pa) ?_
      simp only [RelD]
      exact ⟨pa, by rw [← g1.len, List.getElem?_append_right (Nat.le_refl _)]; simp, rfl⟩
    · exact h3.elim
  · exact h3.elim
end
end Lt
namespace L2
open PySem PySem.Spec PyProof.Rows
/-- what named clauses wish of an exception of the body, one after the other -/
def wNam (K : PySem.W.Frag) (Wout : WX) (D : Ends) : List (Option Nat × Value × (Addr → Value → Option Addr → TS)) → WX
  | [] => Wout
  | (none, c, ts) :: r => fun cls d σ H => ∃ b, PySem.W.exmOne K cls c = some b ∧ (b = true → ∀ a, H a = none → ts a cls d D σ H) ∧ (b = false → wNam K Wout D r cls d σ H)
  | (some i, c, ts) :: r => fun cls d σ H => ∃ b, PySem.W.exmOne K cls c = some b ∧
      (b = true → ∀ a, H a = none → ts a cls d { nx := fun σ' H' => D.nx (σ'.set i none) H', rt := D.rt, bk := fun σ' H' => D.bk (σ'.set i none) H', ct := fun σ' H' => D.ct (σ'.set i none) H' } (σ.set i (some (.ref a))) H) ∧
      (b = false → wNam K Wout D r cls d σ H)
inductive HdsN (X : Cx) : List ExceptHandler → List (Option Nat × Value × (Addr → Value → Option Addr → TS)) → Prop
  | nil : HdsN X [] []
  | cons {x n : Str} {i : Nat} {c : Value} {ts : Addr → Value → Option Addr → TS} {b₀ : Stmt} {suite : List Stmt} {np pos' : Pos} {hds : List ExceptHandler} {l : List (Option Nat × Value × (Addr → Value → Option Addr → TS))} (hi : X.N[i]? = some n) (hln : X.env.kindOf n = some .local) (hc : Names X x c)
      (hsu : ∀ (a : Addr) (oe : Obj) (cls : Value) (d : Option Addr) (pn : List (Addr × Obj)), Zc cls d oe → (∃ vs, oe.data = .fields vs) → PSs (X.suite a ((a, oe) :: pn)) (b₀ :: suite) (ts a cls d)) (r : HdsN X hds l) :
      HdsN X (.ExceptHandler (some (.Name x np)) (some n) (b₀ :: suite) pos' :: hds) ((some i, c, ts) :: l)
  | consU {x : Str} {c : Value} {ts : Addr → Value → Option Addr → TS} {b₀ : Stmt} {suite : List Stmt} {np pos' : Pos} {hds : List ExceptHandler} {l : List (Option Nat × Value × (Addr → Value → Option Addr → TS))} (hc : Names X x c)
      (hsu : ∀ (a : Addr) (oe : Obj) (cls : Value) (d : Option Addr) (pn : List (Addr × Obj)), Zc cls d oe → (∃ vs, oe.data = .fields vs) → PSs (X.suite a ((a, oe) :: pn)) (b₀ :: suite) (ts a cls d)) (r : HdsN X hds l) :
      HdsN X (.ExceptHandler (some (.Name x np)) none (b₀ :: suite) pos' :: hds) ((none, c, ts) :: l)
section
variable {X : Cx} {body : List Stmt} {h₀ : ExceptHandler} {hds : List ExceptHandler} {l : List (Option Nat × Value × (Addr → Value → Option Addr → TS))} {pos : Pos} {tb : WX → TS} {Wout : WX}
theorem ps_try_nam (hs : X.stack = X.env :: X.outer) (hf : X.env.frame = some X.env.locals) (hN : X.N.Nodup) (tk : Takes X Wout)
    (hb : ∀ (W : WX) (pn : List (Addr × Obj)) (xe : Value → Shared → Prop), Takes (X.tr pn xe) W → PassesOwn (model X.prog X.w) X.A X.env xe → PSs (X.tr pn xe) body (tb W))
    (hh : HdsN X (h₀ :: hds) l) : PS X (.Try body (h₀ :: hds) [] [] pos) (fun D σ H => tb (wNam X.K Wout D l) D σ H) := by
  refine ⟨fun pins s σ H D I h => ?_⟩
  have ok := I.ok
  have hfr : X.A.frames = some (X.env :: X.outer) := by rw [ok.frames, hs]
  refine wpAny_Try_except ?_
  refine wpAny_mono ((hb (wNam X.K Wout D l) (X.pn ++ pins) (fun e s₁ => wpAny (model X.prog X.w) X.A (noteFrame e X.env) (fun _ s₂ => wpAny (model X.prog X.w) X.A (setFlight e none) (fun _ s₃ =>
    wpAny (model X.prog X.w) X.A (handleBy e X.env (h₀ :: hds)) (SP X pins D) X.xe s₃) X.xe s₂) X.xe s₁) (fun u s' xx => ?_) PassesOwn.looking).run [] s σ H D (I.toTry _) h) (fun f s1 hsp => ?_) (fun e s1 he => he)
  · obtain ⟨a, B, sI, pins', σ', H', cls, d, rfl, J', nb, up, sky, na, os, ag, w⟩ := xx
    have J : Inv X pins σ' H' sI := J'.ofTry ok
    have sky' : Sky B (X.env :: X.outer) a (Zc cls d) X.env.locals s'.heap := by rw [← hs]; exact sky
    show wpAny (model X.prog X.w) X.A (noteFrame (.ref a) X.env) _ _ _
    refine Sky.land Zc.steady hfr hf sky' fun h3 fl3 up3 => ?_
    have J3 : Inv X pins σ' H' { s' with heap := h3 } := J.landed nb fl3.1 (up.trans up3) os ag
    obtain ⟨oe3, vs3, he3, hz3, hd3⟩ := fl3.there
    have notFr : ∀ {h : Heap} {o : Obj} {vs : Array Value}, h.FunFrames B (X.env :: X.outer) → h.get? a = some o → o.data = .fields vs → a ∉ frs (X.env :: X.outer) := fun {h o vs} ff e dd hm => by
      obtain ⟨_, o', e', hnf⟩ := ff.mem hm
      rw [e] at e'; cases e'
      exact hnf _ dd
    have nfr := notFr fl3.2.2.1 he3 hd3
    have nL : a ≠ X.env.locals := fun z => nfr (List.mem_filterMap.mpr ⟨X.env, List.mem_cons_self, by rw [hf, z]⟩)
    have nF : a ∉ X.fs := fun hm => by
      obtain ⟨e, he, q⟩ := List.mem_filterMap.mp hm
      exact nfr (List.mem_filterMap.mpr ⟨e, List.mem_cons_of_mem _ he, q⟩)
    have S3 := J3.suite he3 hd3 na nL nF
    have go : ∀ {hds' : List ExceptHandler} {l' : List (Option Nat × Value × (Addr → Value → Option Addr → TS))}, HdsN X hds' l' → wNam X.K Wout D l' cls d σ' H' →
        wpAny (model X.prog X.w) X.A (handleBy (.ref a) X.env hds') (SP X pins D) X.xe { s' with heap := h3 } := by
      intro hds' l' hk
      induction hk with
      | nil =>
        intro w
        refine wpAny_handleBy_nil ?_
        obtain ⟨k1, k2, k3, oe, vs, T, oT, ts', he, hz, hd, h1, hr⟩ := id fl3
        unfold PySem.passOn
        refine wpAny_bind (wpAny_field he hd h1 ?_)
        rw [if_neg (show ¬ ((Value.ref T == Value.none) = true) from by simp)]
        have fin : wpAny (model X.prog X.w) X.A (setFlight (.ref a) X.env.frame) (fun _ s4 => wpAny (model X.prog X.w) X.A (throw (.ref a) : Sem Flow) (SP X pins D) X.xe s4) X.xe { s' with heap := h3 } := by
          rw [hf]
          refine HandSPX.setFlight_upZ fl3 fun h4 hh4 up4 => wpAny_throw (tk _ _ ?_)
          exact ⟨a, B, sI, pins, σ', H', cls, d, rfl, J, nb, (up.trans up3).trans up4, .inr (.inr (by rw [hs]; exact hh4)), na, os, ag, w⟩
        first
          | exact wpAny_bind (wpAny_pure (wpAny_bind fin))
          | exact wpAny_bind fin
      | @cons x n i c ts b₀ suite np pos' hds2 l2 hi hln hc hsu r ih =>
        intro w
        obtain ⟨b, hb1, hyes, hno⟩ := w
        have hloc : Loc X.env.scope n := .inl hln
        refine wpAny_handleBy_cons (codeAny_handlers_test ?_) (by intro q; cases q)
        have LT : PySem.W.Looks (model X.prog X.w) h3 (typeOf (.ref a)) cls := fun A Q E s k q => wpAny_typeOf_ref (k _ _ he3) (by rw [hz3.1]; exact q)
        have LM := PySem.W.exm_one (M := model X.prog X.w) (J3.kIn) LT hb1
        have test : ∀ {Q : Value → Shared → Prop} {E : Value → Shared → Prop}, Q c { s' with heap := h3 } → wpAny (model X.prog X.w) (X.A.mark (some (.ref a))) (eval (.Name x np) X.env) Q E { s' with heap := h3 } := fun {Q E} q => by
          obtain ⟨hg, hdbg, hm | ⟨hm, hv, hnn⟩⟩ := hc
          · exact ld_glob (X := X.suite a ((a, oe3) :: (X.pn ++ pins))) S3 hg hm q hdbg
          · exact ld_blt (X := X.suite a ((a, oe3) :: (X.pn ++ pins))) S3 hg hm hv q hnn hdbg
        refine test (LM.here ?_)
        cases b with
        | true =>
          refine codeAny_handlers_suite_as ?_
          refine HandSPX.lands_againZ fl3 fun h4 fl4 up4 => ?_
          have J4 : Inv X pins σ' H' { s' with heap := h4 } := J.landed nb fl4.1 ((up.trans up3).trans up4) os ag
          obtain ⟨oe4, vs4, he4, hz4, hd4⟩ := fl4.there
          have S4 := J4.suite he4 hd4 na nL nF
          refine store_ok (X := X.suite a ((a, oe4) :: (X.pn ++ pins))) (v := .ref a) S4 hN hi hloc rfl (fun s5 S5 => ?_) (.inr hln)
          refine wpAny_mono ((hsu a oe4 cls d (X.pn ++ pins) hz4 ⟨_, hd4⟩).run [] s5 _ H' _ S5 (hyes rfl a na)) (fun f s6 hsp => ?_) (fun _ _ z => False.elim z)
          have end_ : ∀ {σ6 : St} {H6 : Hp} {Q : Shared → Prop}, Inv (X.suite a ((a, oe4) :: (X.pn ++ pins))) [] σ6 H6 s6 → (∀ s7, Inv X pins (σ6.set i none) H6 s7 → Q s7) →
              wpAny (model X.prog X.w) X.A (do bindName X.env n .none; unbindBehindTheSuite X.env n pos') (fun _ s7 => Q s7) X.xe s6 := fun {σ6 H6 Q} S6 hq => gone_ok (S6.unsuite ok) hN hi hln hq
          cases f with
          | next =>
            obtain ⟨σ6, H6, S6, q6⟩ := hsp
            exact end_ S6 fun s7 J7 => ⟨_, _, J7, q6⟩
          | brk =>
            obtain ⟨σ6, H6, S6, q6⟩ := hsp
            exact end_ S6 fun s7 J7 => ⟨_, _, J7, q6⟩
          | cont =>
            obtain ⟨σ6, H6, S6, q6⟩ := hsp
            exact end_ S6 fun s7 J7 => ⟨_, _, J7, q6⟩
          | ret u =>
            obtain ⟨v6, σ6, H6, S6, r6, q6⟩ := hsp
            exact end_ S6 fun s7 J7 => ⟨_, _, _, J7, r6, q6⟩
        | false =>
          show wpAny _ X.A (handleBy (.ref a) X.env hds2) _ _ _
          exact ih (hno rfl)
      | @consU x c ts b₀ suite np pos' hds2 l2 hc hsu r ih =>
        intro w
        obtain ⟨b, hb1, hyes, hno⟩ := w
        refine wpAny_handleBy_cons (codeAny_handlers_test ?_) (by intro q; cases q)
        have tyOf : PySem.W.Looks (model X.prog X.w) h3 (typeOf (.ref a)) cls := fun A Q E s k q => wpAny_typeOf_ref (k _ _ he3) (by rw [hz3.1]; exact q)
        have isIt := PySem.W.exm_one (M := model X.prog X.w) (J3.kIn) tyOf hb1
        have named : ∀ {Q : Value → Shared → Prop} {E : Value → Shared → Prop}, Q c { s' with heap := h3 } → wpAny (model X.prog X.w) (X.A.mark (some (.ref a))) (eval (.Name x np) X.env) Q E { s' with heap := h3 } := fun {Q E} q => by
          obtain ⟨hg, hdbg, hm | ⟨hm, hv, hnn⟩⟩ := hc
          · exact ld_glob (X := X.suite a ((a, oe3) :: (X.pn ++ pins))) S3 hg hm q hdbg
          · exact ld_blt (X := X.suite a ((a, oe3) :: (X.pn ++ pins))) S3 hg hm hv q hnn hdbg
        refine named (isIt.here ?_)
        cases b with
        | false =>
          show wpAny _ X.A (handleBy (.ref a) X.env hds2) _ _ _
          exact ih (hno rfl)
        | true =>
          refine codeAny_handlers_suite ?_
          refine HandSPX.lands_againZ fl3 fun h5 fl5 up5 => ?_
          have J5 : Inv X pins σ' H' { s' with heap := h5 } := J.landed nb fl5.1 ((up.trans up3).trans up5) os ag
          obtain ⟨oe5, vs5, he5, hz5, hd5⟩ := fl5.there
          have S5 := J5.suite he5 hd5 na nL nF
          refine wpAny_mono ((hsu a oe5 cls d (X.pn ++ pins) hz5 ⟨_, hd5⟩).run [] _ _ H' _ S5 (hyes rfl a na)) (fun f s6 hsp => ?_) (fun _ _ z => False.elim z)
          cases f with
          | ret u =>
            obtain ⟨v6, σ6, H6, S6, r6, q6⟩ := hsp
            exact ⟨_, _, _, S6.unsuite ok, r6, q6⟩
          | next =>
            obtain ⟨σ6, H6, S6, q6⟩ := hsp
            exact ⟨_, _, S6.unsuite ok, q6⟩
          | brk =>
            obtain ⟨σ6, H6, S6, q6⟩ := hsp
            exact ⟨_, _, S6.unsuite ok, q6⟩
          | cont =>
            obtain ⟨σ6, H6, S6, q6⟩ := hsp
            exact ⟨_, _, S6.unsuite ok, q6⟩
    exact go hh w
  · cases f with
    | next =>
      obtain ⟨σ', H', J', q⟩ := hsp
      exact wpAny_execs_nil ⟨σ', H', J'.ofTry ok, q⟩
    | brk =>
      obtain ⟨σ', H', J', q⟩ := hsp
      exact ⟨σ', H', J'.ofTry ok, q⟩
    | cont =>
      obtain ⟨σ', H', J', q⟩ := hsp
      exact ⟨σ', H', J'.ofTry ok, q⟩
    | ret u =>
      obtain ⟨v, σ', H', J', r, q⟩ := hsp
      exact ⟨v, σ', H', J'.ofTry ok, r, q⟩
end
end L2
set_option maxRecDepth 100000
set_option maxHeartbeats 2000000
namespace Lt
open PySem PySem.Spec PyProof.Rows L2
section
variable {X : Cx}
/-- how often an item stands in a list of flat things -/
theorem mt_countF : MtR X "list.count" (fun x xs H Q => ∃ (p : Addr) (ys : List V) (y : V), x = .ref p ∧ xs = [y] ∧ SqL X.K H p ys ∧ flatV y = true ∧ ys.all flatV = true ∧ Q (.int (ys.countP fun z => eqV z y : Nat)) H) := by
  intro pins s σ H x xs v us Q I rx rxs h
  obtain ⟨p, ys, y, rfl, rfl, hs, fy, fys, q⟩ := h
  cases rx
  cases rxs with
  | cons ry rt =>
    rename_i uy ut
    cases rt
    obtain ⟨its, rv, ⟨⟨oc, od, dt, sl⟩, m, hget, hcl, hdn, hdt⟩, _⟩ := I.list hs
    simp only at hcl hdt
    subst hcl hdt
    have cnt : ∀ {zs : List V} {ws : List Value}, Vals zs ws → zs.all flatV = true → ws.countP (eqU y) = zs.countP fun z => eqV z y := by
      intro zs ws r
      induction r with
      | nil => intro _; rfl
      | @cons z w zs ws r1 r2 ih =>
        intro f
        rw [List.all_cons, Bool.and_eq_true] at f
        rw [List.countP_cons, List.countP_cons, ih f.2, eqU_of r1 f.1]
    refine call_meets PySem.F.slot_list_count ⟨_, hget, rfl⟩ PySem.F.entry_list_count (PySem.F.args_list_count_2 _ _)
      (SeqAt.list_countAt p its.toArray m od sl uy (eqU y)) ⟨hget, fun u' hu' => mem_eqAt ry fy rv fys u' (by simpa using hu'), ?_⟩
    refine ⟨.int ((ys.countP fun z => eqV z y : Nat) : Int), H, I.tok _, ⟨s.toks, ?_⟩, q⟩
    rw [← cnt rv fys]
end
section
variable {X : Cx} {CA : Str → Addr} {G : Cxp} {W : WX} {C : MC} {S S' : Store} {L L1 M2 L' : List Addr} {H H1 H2 H' : Hp} {σ : Sl} {e : Expr}
theorem tE.two {k : X2} {o a : Ex} {Q : VK} {R : V → V → Hp → Prop} {P : V → Hp → Prop} (h : tE X.K CA G W (.op2 k o a) σ H Q)
    (hP : ∀ S L H d v, Good X.K CA S L H → RelD X.K L H d v → x2Ok k d S = true → P v H)
    (m : ∀ S L H d1 d2 v1 v2, Good X.K CA S L H → RelD X.K L H d1 v1 → RelD X.K L H d2 v2 → (Aft X.K CA W σ L H (x2R k d1 d2 S) fun d _ L' H' => ∀ v, RelD X.K L' H' d v → Q v H') → R v1 v2 H) :
    tE X.K CA G W o σ H fun v1 H1 => P v1 H1 ∧ tE X.K CA G W a σ H1 fun v2 H2 => R v1 v2 H2 := by
  obtain ⟨S, L, env, g, er, q⟩ := h
  simp only [ev] at q
  refine tE.seq g er q fun d1 S1 L1 H1 v1 st1 g1 er1 r1 q1 => ?_
  split at q1
  · rename_i hk
    refine ⟨hP _ _ _ _ _ g1 r1 hk, tE.seq g1 er1 q1 fun d2 S2 L2 H2 v2 st2 g2 er2 r2 q2 => ?_⟩
    exact m S2 L2 H2 d1 d2 v1 v2 g2 (r1.step g1 st2) r2 q2
  · exact q1.elim
theorem str_rel {d : D} {v : V} {k : X2} (r : RelD X.K L H d v) (hk : (k = .spl ∨ k = .prt ∨ k = .joi) ∧ x2Ok k d S = true) : ∃ a, v = .str a := by
  obtain ⟨h1, h2⟩ := hk
  rcases h1 with rfl | rfl | rfl <;> (unfold x2Ok at h2; simp only at h2; split at h2 <;> first | (cases h2; done) | exact ⟨_, by simpa only [RelD] using r⟩)
theorem strsOf_map : ∀ {ds : List D} {ss : List Str}, strsOf ds = some ss → ds = ss.map .str
  | [], ss, h => by simp only [strsOf, Option.some.injEq] at h; subst h; rfl
  | d :: ds, ss, h => by
    cases d <;> simp only [strsOf] at h <;> try (cases h; done)
    rw [Option.map_eq_some_iff] at h
    obtain ⟨t, h, rfl⟩ := h
    rw [strsOf_map h]; rfl
theorem strs_rel : ∀ {ss : List Str} {vs : List V}, RelDs X.K L H (ss.map .str) vs → vs = ss.map V.str
  | [], vs, r => by simpa [RelDs] using r
  | s :: ss, vs, r => by
    rw [List.map_cons] at r
    simp only [RelDs, RelD] at r
    obtain ⟨v, vr, rfl, rfl, r⟩ := r
    rw [strs_rel r]; rfl
theorem s_spl {o a : Ex} {l r : Expr} {ap cp : Pos} (hc : notCall l = true) (hl : (ap.endLine == cp.line) = true) (hs : notSt r = true) (ho : PE X l (tE X.K CA G W o)) (ha : PE X r (tE X.K CA G W a)) :
    PE X (.Call (.Attribute l "split" ap) [r] [] cp) (tE X.K CA G W (.op2 .spl o a)) := by
  refine PE.by_ (pe_split ho ha (star_of hs [] X.env) (base_of hc _ _) hl) ?_
  intro σ H Q h
  refine h.two (fun S L H d v g r hk => str_rel r ⟨.inl rfl, hk⟩) fun S L H d1 d2 v1 v2 g r1 r2 q => ?_
  simp only [x2R, splR] at q
  split at q
  · rename_i x y
    split at q
    · rename_i hz
      simp only [RelD] at r1 r2
      refine ⟨x, y, r1, by rw [r2], by simpa using hz.1, Nat.le_trans hz.2 (by rw [sizeLine_eq]; decide), fun p hp => ?_⟩
      exact Aft.lst g q RelDs.strs hp
    · exact q.elim
  · exact q.elim
theorem s_prt {o a : Ex} {l r : Expr} {ap cp : Pos} (hc : notCall l = true) (hl : (ap.endLine == cp.line) = true) (hs : notSt r = true) (ho : PE X l (tE X.K CA G W o)) (ha : PE X r (tE X.K CA G W a)) :
    PE X (.Call (.Attribute l "partition" ap) [r] [] cp) (tE X.K CA G W (.op2 .prt o a)) := by
  refine PE.by_ (pe_partition ho ha (star_of hs [] X.env) (base_of hc _ _) hl) ?_
  intro σ H Q h
  refine h.two (fun S L H d v g r hk => str_rel r ⟨.inr (.inl rfl), hk⟩) fun S L H d1 d2 v1 v2 g r1 r2 q => ?_
  simp only [x2R, prtR] at q
  split at q
  · rename_i x y
    split at q
    · rename_i hz
      simp only [RelD] at r1 r2
      refine ⟨x, y, r1, by rw [r2], by simpa using hz.1, Nat.le_trans hz.2 (by rw [sizeLine_eq]; decide), fun p hp => ?_⟩
      obtain ⟨st, g1⟩ := g.side (o := .tup [.str (Txt.partition x y).1, .str (Txt.partition x y).2.1, .str (Txt.partition x y).2.2]) hp
      refine q _ _ st g1 (.ref p) ?_
      simp only [RelD]
      exact ⟨p, _, rfl, upd_same, RelDs.cons (by simp [RelD]) (RelDs.cons (by simp [RelD]) (RelDs.cons (by simp [RelD]) RelDs.nil))⟩
    · exact q.elim
  · exact q.elim
theorem s_joi {o a : Ex} {l r : Expr} {ap cp : Pos} (hc : notCall l = true) (hl : (ap.endLine == cp.line) = true) (hs : notSt r = true) (ho : PE X l (tE X.K CA G W o)) (ha : PE X r (tE X.K CA G W a)) :
    PE X (.Call (.Attribute l "join" ap) [r] [] cp) (tE X.K CA G W (.op2 .joi o a)) := by
  refine PE.by_ (pe_join ho ha (star_of hs [] X.env) (base_of hc _ _) hl) ?_
  intro σ H Q h
  refine h.two (fun S L H d v g r hk => str_rel r ⟨.inr (.inr rfl), hk⟩) fun S L H d1 d2 v1 v2 g r1 r2 q => ?_
  simp only [x2R, joiR] at q
  split at q
  · rename_i x
    split at q
    · rename_i ys hy
      split at q
      · rename_i ss hss
        split at q
        · rename_i hz
          simp only [RelD] at r1
          obtain ⟨p, vs, rfl, sq, rs⟩ := seqOf_rel g hy r2
          have := strsOf_map hss
          subst this
          have := strs_rel rs
          subst this
          exact ⟨x, p, ss, r1, rfl, sq, Nat.le_trans hz (by decide), Aft.now g q (by simp [RelD])⟩
        · exact q.elim
      · exact q.elim
    · exact q.elim
  · exact q.elim
theorem s_cnt {o a : Ex} {l r : Expr} {ap cp : Pos} (hc : notCall l = true) (hl : (ap.endLine == cp.line) = true) (hs : notSt r = true) (ho : PE X l (tE X.K CA G W o)) (ha : PE X r (tE X.K CA G W a)) :
    PE X (.Call (.Attribute l "count" ap) [r] [] cp) (tE X.K CA G W (.op2 .cnt o a)) := by
  refine PE.by_ (pe_bm PySem.F.plainAttrs_list PySem.F.slot_list_count PySem.F.type_list_count mt_countF ho (pa_cons ha pa_nil (star_of hs [] X.env)) (base_of hc _ _) (few_of hs cp X.env) hl (star_of hs [] X.env) rfl) ?_
  intro σ H Q h
  refine h.two (fun S L H d v g r hk => (isLst_rel g hk r).1) fun S L H d1 d2 v1 v2 g r1 r2 q => ?_
  simp only [x2R, cntR] at q
  split at q
  · split at q
    · rename_i n xs hx
      split at q
      · rename_i hf
        simp only [RelD] at r1
        obtain ⟨b, hn, rfl⟩ := r1
        obtain ⟨vs, e1, rs⟩ := getL_rel g hx hn
        refine ⟨b, vs, v2, rfl, rfl, SqL.of e1, by rw [flat_rel r2]; exact hf.1, by rw [flats_rel rs]; exact hf.2, ?_⟩
        have cnt : ∀ {ds : List D} {vs : List V}, RelDs X.K L H ds vs → ds.all flatD = true → (vs.countP fun z => eqV z v2) = ds.countP fun z => eqF z d2 := by
          intro ds
          induction ds with
          | nil => intro vs r _; simp only [RelDs] at r; subst r; rfl
          | cons d ds ih =>
            intro vs r f
            simp only [RelDs] at r
            obtain ⟨w, vr, rfl, ra, rb⟩ := r
            simp only [List.all_cons, Bool.and_eq_true] at f
            rw [List.countP_cons, List.countP_cons, ih rb f.2, eqF_rel ra r2 f.1 hf.1]
        rw [cnt rs hf.2]
        exact Aft.int g q
      · exact q.elim
    · exact q.elim
  · exact q.elim
theorem str_nil (y : Str) : Str.empty ++ y = y := by
  cases y
  show Str.mk (#[] ++ _) = _
  simp
theorem str_len (x y : Str) : (x ++ y).length = x.length + y.length := by
  show (x.cps ++ y.cps).size = _
  simp [Str.length]
theorem s_fs {s : Str} {a b : Ex} {l r : Expr} {c1 c2 : Int} {k : Nat} {q1 q2 q3 p : Pos} (h1 : c1 = -1) (h2 : c2 = -1) (ha : PE X l (tE X.K CA G W a)) (hb : PE X r (tE X.K CA G W b)) :
    PE X (.JoinedStr [.FormattedValue l c1 none q1, .Constant (.str s) k q2, .FormattedValue r c2 none q3] p) (tE X.K CA G W (.op2 (.fs s) a b)) := by
  subst h1 h2
  refine PE.by_ (pe_joined (.cons (pe_fmt ha) (.cons pe_str (.cons (pe_fmt hb) .nil)))) ?_
  rintro σ H Q ⟨S, L, env, g, er, q⟩
  simp only [ev] at q
  refine tE.seq g er q fun d1 S1 L1 H1 v1 st1 g1 er1 r1 q1 => ?_
  split at q1
  · rename_i hi
    unfold x2Ok at hi
    simp only at hi
    split at hi
    · rename_i i
      have hi := of_decide_eq_true hi
      simp only [RelD] at r1; subst r1
      refine .inr ⟨i, rfl, hi.1, toString i, rfl, ?_, s, rfl, ?_, ?_⟩
      · rw [str_nil]
        exact Nat.le_of_lt (small (Nat.le_trans (Nat.le_add_right _ _) hi.2))
      · rw [str_nil, str_len]
        exact Nat.le_of_lt (small hi.2)
      · refine tE.seq g1 er1 q1 fun d2 S2 L2 H2 v2 st2 g2 er2 r2 q2 => ?_
        simp only [x2R, fsR] at q2
        split at q2
        · rename_i i' j e1
          cases e1
          split at q2
          · rename_i hz
            simp only [RelD] at r2; subst r2
            refine .inr ⟨_, rfl, hz.2.1, _, rfl, ?_, ?_⟩
            · rw [str_nil, str_len, str_len]
              exact Nat.le_of_lt (small hz.2.2)
            · show tJs [] _ _ _ _
              unfold tJs
              rw [str_nil]
              exact Aft.now g2 q2 (by simp [RelD])
          · exact q2.elim
        · exact q2.elim
    · cases hi
  · exact q1.elim
theorem s_idS {a i : Ex} {l s : Expr} {p : Pos} (hs : notSl s = true) (ha : PE X l (tE X.K CA G W a)) (hb : PE X s (tE X.K CA G W i)) : PE X (.Subscript l s p) (tE X.K CA G W (.idS a i)) := by
  have hp : PlainIx s := by
    intro o i
    cases s <;> first | rfl | (exact absurd hs Bool.false_ne_true)
  refine ⟨fun pins s σ H Q I q => (pe_ix (ixS_ok (CA := CA) (W := W) σ) ha hb hp).run pins s σ H Q I ?_⟩
  obtain ⟨S, L, env, g, er, q⟩ := q
  simp only [ev] at q
  exact tE.seq g er q fun d1 S1 L1 H1 v1 st1 g1 er1 r1 q1 => tE.seq g1 er1 q1 fun d2 S2 L2 H2 v2 st2 g2 er2 r2 q2 => ⟨S2, L2, d1, d2, g2, r1.step g1 st2, r2, q2⟩
theorem s_lsd (ok : Ok X CA G W C) {o : Ex} {l : Expr} {q p : Pos} (hcd : cold C = true) (h1 : gloB C.sc ("list" : Str) = true) (hs : notSt l = true) (ho : PE X l (tE X.K CA G W o)) :
    PE X (.Call (.Name "list" q) [l] [] p) (tE X.K CA G W (.lsd o)) := by
  refine PE.by_ (pe_callTy (call_list_dK (ok.calm hcd)) (gl_of ok h1) (ok.free _ (by decide +kernel)) (by decide +kernel) (pa_cons ho pa_nil (star_of hs [] X.env)) (by decide +kernel) (by decide +kernel) (star_of hs [] X.env) rfl) ?_
  rintro σ H Q ⟨S, L, env, g, er, q⟩
  simp only [ev] at q
  refine tE.seq g er q fun d S1 L1 H1 v st g1 er1 r1 q1 => ?_
  unfold lsdR at q1
  split at q1
  · rename_i ks hk
    obtain ⟨a, kvs, rfl, e1, e2⟩ := kysO_rel g1 hk r1
    subst e2
    refine ⟨a, kvs, rfl, e1, fun p hp => Aft.lst g1 q1 ?_ hp⟩
    have h := RelDs.keys (X := X) (L := L1) (H := H1) (kvs.map (·.1))
    rw [List.map_map (f := fun kv : Key × V => kv.1) (g := kV)] at h
    exact h
  · exact q1.elim
theorem s_upp {o : Ex} {l : Expr} {ap cp : Pos} (hc : notCall l = true) (hl : (ap.endLine == cp.line) = true) (ho : PE X l (tE X.K CA G W o)) :
    PE X (.Call (.Attribute l "upper" ap) [] [] cp) (tE X.K CA G W (.upp o)) := by
  refine PE.by_ (pe_upper ho (base_of hc _ _) hl) ?_
  rintro σ H Q ⟨S, L, env, g, er, q⟩
  simp only [ev] at q
  refine tE.seq g er q fun d S1 L1 H1 v st g1 er1 r1 q1 => ?_
  unfold uppR at q1
  split at q1
  · rename_i x
    split at q1
    · rename_i hz
      simp only [RelD] at r1
      exact ⟨⟨x, r1⟩, x, r1, rfl, Nat.le_trans hz (by decide), Aft.now g1 q1 (by simp [RelD])⟩
    · exact q1.elim
  · exact q1.elim
theorem isS_at (k : Str) : ∀ {ss : List Str} {us : List Value}, Vals (ss.map V.str) us → ∀ (j : Nat) (h : j < us.length), ∃ z t, us[j] = .str z t ∧ ss[j]? = some z
  | [], us, r, j, h => by cases r; cases h
  | s :: ss, us, r, j, h => by
    rw [List.map_cons] at r
    cases r with
    | cons r1 r2 =>
      obtain ⟨t, rfl⟩ := r1
      cases j with
      | zero => exact ⟨s, t, rfl, rfl⟩
      | succ j =>
        obtain ⟨z, t, e1, e2⟩ := isS_at k r2 j (by simpa using h)
        exact ⟨z, t, by simpa using e1, by simpa using e2⟩
def eqS (k : Str) (v : Value) : Bool := match v with
  | .str z _ => decide (z = k)
  | _ => false
theorem eqS_gives {k : Str} {t : Tok} {ss : List Str} {us : List Value} (r : Vals (ss.map V.str) us) : ∀ y ∈ us, MeetsSeq.EqGives y (.str k t) (eqS k y) := by
  intro y hy
  obtain ⟨j, hj, e⟩ := List.getElem_of_mem hy
  obtain ⟨z, u, e1, _⟩ := isS_at k r j hj
  rw [← e, e1]
  exact fun _ _ _ _ _ _ h => wpAny_eqBool_str h
theorem first_str : ∀ {ss : List Str} {k : Str}, k ∈ ss → ∃ j, j < ss.length ∧ ss[j]? = some k ∧ (∀ i, i < j → ss[i]? ≠ some k) ∧ ss.eraseIdx j = ss.erase k
  | [], k, h => by cases h
  | a :: r, k, h => by
    by_cases e : a = k
    · subst e
      exact ⟨0, by simp, rfl, fun i hi => by omega, by simp⟩
    · have hr : k ∈ r := (List.mem_cons.mp h).resolve_left fun z => e z.symm
      obtain ⟨j, h1, h2, h3, h4⟩ := first_str hr
      refine ⟨j + 1, by simpa using h1, by simpa using h2, fun i hi => ?_, ?_⟩
      · cases i with
        | zero => simpa using e
        | succ i => simpa using h3 i (by omega)
      · have : (a == k) = false := by simpa using e
        simp [List.erase_cons, this, h4]
theorem erase_mapS : ∀ (l : List Str) (j : Nat), (l.map V.str).eraseIdx j = (l.eraseIdx j).map V.str
  | [], j => by simp
  | a :: r, 0 => by simp
  | a :: r, j + 1 => by simp [erase_mapS r j]
theorem mt_removeS : MtM X "list.remove" (fun x xs H Q => ∃ (l : Addr) (ss : List Str) (k : Str), x = .ref l ∧ xs = [.str k] ∧ H l = some (.lst (ss.map V.str)) ∧ k ∈ ss ∧ Q .non (upd H l (.lst ((ss.erase k).map V.str)))) := by
  intro pins s σ H x xs v us Q I rx rxs h
  obtain ⟨l, ss, k, rfl, rfl, hH, hk, q⟩ := h
  cases rx
  obtain ⟨u, rfl, ru⟩ := rxs.one
  obtain ⟨t, rfl⟩ := ru
  obtain ⟨z, its, n, r, hl, e⟩ := I.lstM hH
  obtain ⟨j, hjs, hj, hno, he⟩ := first_str hk
  rw [List.length_map] at hl z
  have hjl : j < its.toArray.size := by rw [List.size_toArray]; omega
  refine call_meets PySem.F.slot_list_remove ⟨_, e, rfl⟩ PySem.F.entry_list_remove (PySem.F.args_list_remove_2 _ _)
    (MeetsSeq.list_remove l its.toArray n (.str k t) (eqS k) (fun y hy => eqS_gives r y (by simpa using hy)) j hjl ?_ ?_ (by rw [List.size_toArray]; omega)) ⟨e, ?_⟩
  · obtain ⟨w, u, e1, e2⟩ := isS_at k r j (by omega)
    rw [hj] at e2; cases e2
    have e3 : its.toArray[j] = .str k u := by simpa using e1
    rw [e3]
    exact decide_eq_true rfl
  · intro m hm hmj
    obtain ⟨w, u, e1, e2⟩ := isS_at k r m (by omega)
    have e3 : its.toArray[m] = .str w u := by simpa using e1
    rw [e3]
    refine decide_eq_false fun z => hno m hmj ?_
    rw [e2, z]
  · have rr := r.eraseIdx j
    rw [erase_mapS] at rr
    rw [← he] at q
    refine ⟨.non, _, I.lset (its' := its.eraseIdx j) (t' := s.toks) hH e ?_ rr ?_, rfl, q⟩
    · show its.toArray.eraseIdxIfInBounds j = (its.eraseIdx j).toArray
      rw [List.eraseIdxIfInBounds_toArray]
    · have := List.length_eraseIdx_le ss j
      rw [List.length_map]
      omega
theorem s_rmv {o a : Ex} {l r : Expr} {ap cp : Pos} (hc : notCall l = true) (hl : (ap.endLine == cp.line) = true) (hs : notSt r = true) (ho : PE X l (tE X.K CA G W o)) (ha : PE X r (tE X.K CA G W a)) :
    PE X (.Call (.Attribute l "remove" ap) [r] [] cp) (tE X.K CA G W (.op2 .rmv o a)) := by
  refine PE.by_ (pe_bm PySem.F.plainAttrs_list PySem.F.slot_list_remove PySem.F.type_list_remove mt_removeS ho (pa_cons ha pa_nil (star_of hs [] X.env)) (base_of hc _ _) (few_of hs cp X.env) hl (star_of hs [] X.env) rfl) ?_
  intro σ H Q h
  refine h.two (fun S L H d v g r hk => (isLst_rel g hk r).1) fun S L H d1 d2 v1 v2 g r1 r2 q => ?_
  simp only [x2R, rmvR] at q
  split at q
  · rename_i n z
    split at q
    · rename_i xs hx
      split at q
      · rename_i ss hss
        split at q
        · rename_i hz
          simp only [RelD] at r1 r2
          obtain ⟨b, hn, rfl⟩ := r1
          obtain ⟨vs, e1, rs⟩ := getL_rel g hx hn
          have := strsOf_map hss
          subst this
          have := strs_rel rs
          subst this
          exact ⟨b, ss, z, rfl, by rw [r2], e1, hz, Aft.set g q hn e1 RelDs.strs fun H' => by simp [RelD]⟩
        · exact q.elim
      · exact q.elim
    · exact q.elim
  · exact q.elim
theorem s_gget (ok : Ok X CA G W C) {x : Str} {k : Ex} {r : Expr} {q ap cp : Pos} (h1 : gloB C.sc x = true) (h2 : nmOk x = true) (h3 : C.gd x = true) (hl : (ap.endLine == cp.line) = true) (hs : notSt r = true) (hk : PE X r (tE X.K CA G W k)) :
    PE X (.Call (.Attribute (.Name x q) "get" ap) [r] [] cp) (tE X.K CA G W (.gget x k)) := by
  obtain ⟨l, hfr, a, es, n, hmg, hlk, hkl, hsm, hval⟩ := ok.gdo x h3
  have m := m1_of (X := X) (o := .Name x q) (e := r) (m := "get") (ap := ap) (cp := cp) rfl hl hs
  refine ⟨fun pins s σ H Q I h => ?_⟩
  have ho : PE X (.Name x q) (tC (.ref a)) := pe_glob (gl_of ok h1) hmg rfl (nm_of h2).1
  refine wpAny_Call_method m.base m.few m.line PySem.F.plainAttrs_dict PySem.F.slot_dict_get PySem.F.type_dict_get (thn (ho.run pins s σ H (fun v H1 => v = .ref a ∧ tE X.K CA G W (.gget x k) σ H1 Q) I ⟨rfl, h⟩) fun u s1 ⟨y, H1, I1, rx, ey, q1⟩ => ?_)
  subst ey
  obtain rfl : u = Value.ref a := rx
  have hm := PySem.W.mapOf_K (prog := X.prog) (w := X.w) I1.kIn hlk hkl
  refine ⟨hm.typeIs, fun b z => by cases z; exact ⟨_, I1.kIn _ _ hlk, rfl⟩, ?_⟩
  rw [m.trees]
  obtain ⟨S, L, env, g, er, q1⟩ := q1
  simp only [ev] at q1
  have key : tE X.K CA G W k σ H1 fun v H2 => ∃ z d, v = .str z ∧ (∃ S L, Good X.K CA S L H2 ∧ l.lookup z = d ∧ Aft X.K CA W σ L H2 (.ok (d.getD .non) S) fun d _ L' H' => ∀ v, RelD X.K L' H' d v → Q v H') :=
    tE.seq g er q1 fun d S1 L1 H2 v st g1 er1 r1 q2 => by
      unfold ggetR at q2
      rw [hfr] at q2
      split at q2
      · rename_i l' z' e1
        cases e1
        simp only [RelD] at r1
        exact ⟨_, _, r1, S1, L1, g1, rfl, q2⟩
      · exact q2.elim
  refine Calls.callWith_builtin rfl (Calls.evalArgs_plain (Calls.spliced_cons (thn (hk.run pins s1 σ H1 _ I1 key) fun iv s2 ⟨y, H2, I2, ry, z, d, ez, S1, L1, g1, e1, q2⟩ => Calls.spliced_nil ?_)))
  subst ez
  obtain ⟨t, rfl⟩ := (show ∃ t, iv = Value.str z t from ry)
  have hm2 := PySem.W.mapOf_K (prog := X.prog) (w := X.w) I2.kIn hlk hkl
  obtain ⟨v1, v2⟩ := hval z
  refine call_meetsIn PySem.F.slot_dict_get hm2.typeIs PySem.F.entry_dict_get (PySem.F.args_dict_get_2 _ _) (meets_dict_get (strKind X.prog X.w) a (strKind_is X.prog X.w z t) hsm) ⟨_, hm2, ?_⟩
  cases d with
  | none =>
    rw [PySem.W.find_K hlk (v1 e1)]
    exact ⟨.non, H2, I2.tok _, rfl, Aft.now g1 q2 (by simp [RelD])⟩
  | some d =>
    obtain ⟨u, v, h5, h6, h7⟩ := v2 d e1
    rw [PySem.W.find_K hlk h5]
    exact ⟨v, H2, I2.tok _, h6, Aft.now g1 q2 (h7 _ _)⟩
end
end Lt
set_option maxHeartbeats 1000000
namespace Lt
open PySem PySem.Spec PyProof.Rows L2
section
variable {CA : Str → Addr} {G : Cxp}
theorem blk_kind {N : List Str} {sc scope : Scope} {own : List (Str × Nat)} (h : blkC N sc scope own = true) : scope.kind = .function := (blkOk_by h).kind
theorem own_snd (C : MC) (own : List Nat) : (ownL C own).map (·.2) = own := by
  unfold ownL
  rw [List.map_map]
  exact List.map_id' own
/-- a form whose truth is its value's -/
def plainT : Expr → Bool
  | .UnaryOp .Not _ _ => false
  | .BoolOp _ _ _ => false
  | .IfExp _ _ _ _ => false
  | .Compare _ _ _ _ => false
  | _ => true
theorem plain_of {e : Expr} (h : plainT e = true) (env : PySem.Env) : ∀ whole, isTrue e env whole = (do let v ← whole; standAt e.pos; PySem.holding [v] (truthy v)) := by
  intro whole
  cases e with
  | UnaryOp op a p => cases op <;> first | rfl | (exact absurd h Bool.false_ne_true)
  | BoolOp _ _ _ => exact absurd h Bool.false_ne_true
  | IfExp _ _ _ _ => exact absurd h Bool.false_ne_true
  | Compare _ _ _ _ => exact absurd h Bool.false_ne_true
  | _ => rfl
/-- as a value and as a test -/
def Both (CA : Str → Addr) (G : Cxp) (X : Cx) (W : WX) (x : Ex) (e : Expr) : Prop := PE X e (tE X.K CA G W x) ∧ (tOk x = true → PT X e (tT X.K CA G W x) ∧ ((∃ op vs p, e = .BoolOp op vs p) → PW X e (tT X.K CA G W x)))
theorem Both.of {X : Cx} {W : WX} {x : Ex} {e : Expr} (h : PE X e (tE X.K CA G W x)) (hp : plainT e = true) : Both CA G X W x e := ⟨h, fun _ => ⟨s_val h (plain_of hp X.env), fun ⟨op, vs, p, z⟩ => by subst z; cases hp⟩⟩
theorem Both.cm {X : Cx} {W : WX} {x : Ex} {l : Expr} {os : List CmpOp} {rs : List Expr} {p : Pos} (h : PE X (.Compare l os rs p) (tE X.K CA G W x) ∧ PT X (.Compare l os rs p) (tT X.K CA G W x)) : Both CA G X W x (.Compare l os rs p) := ⟨h.1, fun _ => ⟨h.2, fun ⟨op, vs, p, z⟩ => by cases z⟩⟩
theorem set_of {e : Expr} (h : notSet e = true) (env : PySem.Env) : ∀ x, foldedSetIterable e env x = pure x := by
  intro x
  cases e <;> first | rfl | (exact absurd h Bool.false_ne_true)
theorem nd_of {x : Lt.It} {tg : Expr} (h : (!itT x || isTupE tg) = true) : itT x = true → isTupE tg = true := fun z => by rw [z] at h; exact h
mutual
theorem sE : ∀ (x : Ex) {X : Cx} {W : WX} {C : MC} (ok : Ok X CA G W C) {e : Expr}, mE x C e = true → Both CA G X W x e
  | .int i, X, W, C, ok, e, h => by
    obtain ⟨j, k, p, rfl, h⟩ := mInt_inv i h
    have h := of_decide_eq_true h
    subst h
    exact Both.of (PE.by_ pe_int fun σ H Q ⟨S, L, env, g, er, q⟩ => Aft.int g (by simpa only [ev] using q)) rfl
  | .str s, X, W, C, ok, e, h => by
    obtain ⟨j, k, p, rfl, h⟩ := mStr_inv s h
    have h := of_decide_eq_true h
    subst h
    exact Both.of (PE.by_ pe_str fun σ H Q ⟨S, L, env, g, er, q⟩ => Aft.now g (by simpa only [ev] using q) (by simp [RelD])) rfl
  | .bl b, X, W, C, ok, e, h => by
    obtain ⟨j, k, p, rfl, h⟩ := mBl_inv b h
    have h := of_decide_eq_true h
    subst h
    exact Both.of (PE.by_ pe_bl fun σ H Q ⟨S, L, env, g, er, q⟩ => Aft.bl g (by simpa only [ev] using q)) rfl
  | .non, X, W, C, ok, e, h => by
    obtain ⟨k, p, rfl, _⟩ := mNon_inv h
    exact Both.of (PE.by_ pe_non fun σ H Q ⟨S, L, env, g, er, q⟩ => Aft.now g (by simpa only [ev] using q) (by simp [RelD])) rfl
  | .var i, X, W, C, ok, e, h => by
    obtain ⟨x, p, rfl, h⟩ := mVar_inv C i h
    obtain ⟨h, h3⟩ := ba h
    obtain ⟨h1, h2⟩ := ba h
    exact Both.of (s_var ok h1 h2 h3) rfl
  | .glo y, X, W, C, ok, e, h => by
    obtain ⟨x, p, rfl, h⟩ := mGlo_inv C y h
    obtain ⟨h, h3⟩ := ba h
    obtain ⟨h1, h2⟩ := ba h
    have h1 := of_decide_eq_true h1
    subst h1
    exact Both.of (s_glo ok h2 h3) rfl
  | .bin op a b, X, W, C, ok, e, h => by
    obtain ⟨l, o, r, p, rfl, h⟩ := mBin_inv op _ _ h
    obtain ⟨h, h3⟩ := ba h
    obtain ⟨h1, h2⟩ := ba h
    exact Both.of (s_bin h1 (sE a ok h2).1 (sE b ok h3).1) rfl
  | .neg a, X, W, C, ok, e, h => by
    obtain ⟨l, p, rfl, h⟩ := mNeg_inv _ h
    exact Both.of (s_neg (sE a ok h).1) rfl
  | .not a, X, W, C, ok, e, h => by
    obtain ⟨l, p, rfl, h⟩ := mNot_inv _ h
    have k := sE a ok h
    exact ⟨s_not k.1, fun z => ⟨t_not (k.2 z).1, fun ⟨op, vs, p, z⟩ => by cases z⟩⟩
  | .and a b, X, W, C, ok, e, h => by
    obtain ⟨l, r, rest, p, rfl, h1, h2⟩ := mBool_inv .And _ _ h
    have k := sE a ok h1
    rcases h2 with ⟨rfl, h2⟩ | ⟨_, h2⟩
    · have k2 := sE b ok h2
      refine ⟨s_and k.1 (pe_one k2.1), fun z => ?_⟩
      obtain ⟨z1, z2⟩ := ba z
      have w := t_and (k.2 z1).1 (pw_and1 (pos := p) (k2.2 z2).1)
      exact ⟨w.pt, fun _ => w⟩
    · have k2 := sE b ok h2
      refine ⟨s_and k.1 k2.1, fun z => ?_⟩
      obtain ⟨z1, z2⟩ := ba z
      have w := t_and (k.2 z1).1 ((k2.2 z2).2 ⟨_, _, _, rfl⟩)
      exact ⟨w.pt, fun _ => w⟩
  | .or a b, X, W, C, ok, e, h => by
    obtain ⟨l, r, rest, p, rfl, h1, h2⟩ := mBool_inv .Or _ _ h
    have k := sE a ok h1
    rcases h2 with ⟨rfl, h2⟩ | ⟨_, h2⟩
    · have k2 := sE b ok h2
      refine ⟨s_or k.1 (pe_one k2.1), fun z => ?_⟩
      obtain ⟨z1, z2⟩ := ba z
      have w := t_or (k.2 z1).1 (pw_or1 (pos := p) (k2.2 z2).1)
      exact ⟨w.pt, fun _ => w⟩
    · have k2 := sE b ok h2
      refine ⟨s_or k.1 k2.1, fun z => ?_⟩
      obtain ⟨z1, z2⟩ := ba z
      have w := t_or (k.2 z1).1 ((k2.2 z2).2 ⟨_, _, _, rfl⟩)
      exact ⟨w.pt, fun _ => w⟩
  | .cmp op a b, X, W, C, ok, e, h => by
    obtain ⟨l, o, r, p, rfl, h⟩ := mCmp_inv op _ _ h
    obtain ⟨h, h3⟩ := ba h
    obtain ⟨h, h2⟩ := ba h
    obtain ⟨h1, h0⟩ := ba h
    exact Both.cm (s_cmp ok h1 h0 (sE a ok h2).1 (sE b ok h3).1)
  | .chn o1 o2 a b c, X, W, C, ok, e, h => by
    obtain ⟨l, q1, q2, r1, r2, p, rfl, h⟩ := mChn_inv o1 o2 _ _ _ h
    obtain ⟨h, h5⟩ := ba h
    obtain ⟨h, h4⟩ := ba h
    obtain ⟨h, h3⟩ := ba h
    obtain ⟨h1, h2⟩ := ba h
    exact Both.cm (s_chn ok h1 h2 (sE a ok h3).1 (sE b ok h4).1 (sE c ok h5).1)
  | .isN a, X, W, C, ok, e, h => by
    obtain ⟨l, k, p2, p, rfl, h⟩ := mIsN_inv _ h
    exact Both.cm (s_isN (sE a ok h).1)
  | .ntN a, X, W, C, ok, e, h => by
    obtain ⟨l, k, p2, p, rfl, h⟩ := mNtN_inv _ h
    exact Both.cm (s_ntN (sE a ok h).1)
  | .ife c a b, X, W, C, ok, e, h => by
    obtain ⟨t, l, r, p, rfl, h⟩ := mIfe_inv _ _ _ h
    obtain ⟨h, h3⟩ := ba h
    obtain ⟨h1, h2⟩ := ba h
    obtain ⟨h0, h1⟩ := ba h1
    exact ⟨s_ife ((sE c ok h1).2 h0).1 (sE a ok h2).1 (sE b ok h3).1, fun z => by cases z⟩
  | .tup es, X, W, C, ok, e, h => by
    obtain ⟨xs, k, p, rfl, h⟩ := mTup_inv _ h
    obtain ⟨h1, h2⟩ := ba h
    exact Both.of (s_tup (sEs es ok h2) (of_decide_eq_true h1)) rfl
  | .lst es, X, W, C, ok, e, h => by
    obtain ⟨xs, p, rfl, h⟩ := mLst_inv _ h
    obtain ⟨h1, h2⟩ := ba h
    exact Both.of (s_lst (sEs es ok h2) (of_decide_eq_true h1)) rfl
  | .idx a i, X, W, C, ok, e, h => by
    obtain ⟨l, s, p, rfl, h⟩ := mIdx_inv _ _ h
    obtain ⟨h, h3⟩ := ba h
    obtain ⟨h1, h2⟩ := ba h
    exact Both.of (s_idx h1 (sE a ok h2).1 (sE i ok h3).1) rfl
  | .slT a b, X, W, C, ok, e, h => by
    obtain ⟨l, r, p2, p, rfl, h⟩ := mSlT_inv _ _ h
    obtain ⟨h1, h2⟩ := ba h
    exact Both.of (s_slT (sE a ok h1).1 (sE b ok h2).1) rfl
  | .slF a b, X, W, C, ok, e, h => by
    obtain ⟨l, r, p2, p, rfl, h⟩ := mSlF_inv _ _ h
    obtain ⟨h1, h2⟩ := ba h
    exact Both.of (s_slF (sE a ok h1).1 (sE b ok h2).1) rfl
  | .slB a b c, X, W, C, ok, e, h => by
    obtain ⟨l, r, t, p2, p, rfl, h⟩ := mSlB_inv _ _ _ h
    obtain ⟨h, h3⟩ := ba h
    obtain ⟨h1, h2⟩ := ba h
    exact Both.of (s_slB (sE a ok h1).1 (sE b ok h2).1 (sE c ok h3).1) rfl
  | .lrg a, X, W, C, ok, e, h => by
    obtain ⟨x, q, y, q2, l, p2, p, rfl, h⟩ := mLrg_inv _ _ h
    obtain ⟨h, h7⟩ := ba h
    obtain ⟨h, h6⟩ := ba h
    obtain ⟨h, h5⟩ := ba h
    obtain ⟨h, h4⟩ := ba h
    obtain ⟨h, h3⟩ := ba h
    obtain ⟨h1, h2⟩ := ba h
    have h1 := of_decide_eq_true h1
    have h3 := of_decide_eq_true h3
    subst h1 h3
    exact Both.of (s_lrg ok h2 h4 h5 h6 (sE a ok h7).1) rfl
  | .rev a, X, W, C, ok, e, h => by
    obtain ⟨l, k, p1, p2, p3, p, rfl, h⟩ := mRev_inv _ h
    exact Both.of (s_rev (sE a ok h).1) rfl
  | .call f es, X, W, C, ok, e, h => by
    obtain ⟨x, q, xs, p, rfl, h⟩ := mCall_inv C f _ _ h
    obtain ⟨h, h5⟩ := ba h
    obtain ⟨h, hnr⟩ := ba h
    obtain ⟨h, h4⟩ := ba h
    obtain ⟨h, h3⟩ := ba h
    obtain ⟨h1, h2⟩ := ba h
    have h1 := of_decide_eq_true h1
    subst h1
    exact Both.of (s_call ok h2 h3 h4 hnr (sEs es ok h5) h5) rfl
  | .callK f es a, X, W, C, ok, e, h => by
    obtain ⟨x, q, xs, kn, v, kp, p, rfl, h⟩ := mCallK_inv C f _ _ _ h
    obtain ⟨h, h7⟩ := ba h
    obtain ⟨h, h6⟩ := ba h
    obtain ⟨h, hnr⟩ := ba h
    obtain ⟨h, h5⟩ := ba h
    obtain ⟨h, h4⟩ := ba h
    obtain ⟨h, h3⟩ := ba h
    obtain ⟨h1, h2⟩ := ba h
    have h1 := of_decide_eq_true h1
    subst h1
    exact Both.of (s_callK ok h2 h3 (of_decide_eq_true h4) h5 hnr (sEs es ok h6) h6 (sE a ok h7).1) rfl
  | .bi b es, X, W, C, ok, e, h => by
    obtain ⟨x, q, xs, p, rfl, h⟩ := mBi_inv C _ _ h
    obtain ⟨h, h5⟩ := ba h
    obtain ⟨h1, h2⟩ := ba h
    have h1 := of_decide_eq_true h1
    subst h1
    obtain ⟨hbi, h5⟩ := ba h5
    obtain ⟨h5, h6⟩ := ba h5
    exact Both.of (s_bi ok hbi h2 (sEs es ok h6) h6 (by intro z; subst z; cases h5)) rfl
  | .isI a t, X, W, C, ok, e, h => by
    obtain ⟨x, q, l, z, q2, p, rfl, h⟩ := mIsI_inv C _ _ h
    obtain ⟨h, h6⟩ := ba h
    obtain ⟨h, h5⟩ := ba h
    obtain ⟨h, h4⟩ := ba h
    obtain ⟨h, h3⟩ := ba h
    obtain ⟨h1, h2⟩ := ba h
    have h1 := of_decide_eq_true h1
    have h3 := of_decide_eq_true h3
    subst h1 h3
    exact Both.of (s_isI ok h2 h4 h5 (sE a ok h6).1) rfl
  | .app o a, X, W, C, ok, e, h => by
    obtain ⟨l, m, ap, r, cp, rfl, h⟩ := mMet1_inv _ _ _ h
    obtain ⟨h, h6⟩ := ba h
    obtain ⟨h, h5⟩ := ba h
    obtain ⟨h, h4⟩ := ba h
    obtain ⟨h, h3⟩ := ba h
    obtain ⟨h1, h2⟩ := ba h
    have h1 := of_decide_eq_true h1
    subst h1
    exact Both.of (s_app h2 h3 h4 (sE o ok h5).1 (sE a ok h6).1) rfl
  | .ext o a, X, W, C, ok, e, h => by
    obtain ⟨l, m, ap, r, cp, rfl, h⟩ := mMet1_inv _ _ _ h
    obtain ⟨h, h6⟩ := ba h
    obtain ⟨h, h5⟩ := ba h
    obtain ⟨h, h4⟩ := ba h
    obtain ⟨h, h3⟩ := ba h
    obtain ⟨h1, h2⟩ := ba h
    have h1 := of_decide_eq_true h1
    subst h1
    exact Both.of (s_ext h2 h3 h4 (sE o ok h5).1 (sE a ok h6).1) rfl
  | .clr o, X, W, C, ok, e, h => by
    obtain ⟨l, m, ap, cp, rfl, h⟩ := mMet0_inv _ _ h
    obtain ⟨h, h4⟩ := ba h
    obtain ⟨h, h3⟩ := ba h
    obtain ⟨h1, h2⟩ := ba h
    have h1 := of_decide_eq_true h1
    subst h1
    exact Both.of (s_clr h2 h3 (sE o ok h4).1) rfl
  | .isB a b, X, W, C, ok, e, h => by
    obtain ⟨l, j, k, p2, p, rfl, h⟩ := mIsB_inv b _ h
    obtain ⟨h1, h2⟩ := ba h
    have h1 := of_decide_eq_true h1
    subst h1
    exact Both.cm (s_isB (sE a ok h2).1)
  | .chn4 o1 o2 o3 a b c d, X, W, C, ok, e, h => by
    obtain ⟨l, q1, q2, q3, r1, r2, r3, p, rfl, h⟩ := mChn4_inv o1 o2 o3 _ _ _ _ h
    obtain ⟨h, h7⟩ := ba h
    obtain ⟨h, h6⟩ := ba h
    obtain ⟨h, h5⟩ := ba h
    obtain ⟨h, h4⟩ := ba h
    obtain ⟨h, h3⟩ := ba h
    obtain ⟨h1, h2⟩ := ba h
    exact Both.cm (s_chn4 ok h1 h2 h3 (sE a ok h4).1 (sE b ok h5).1 (sE c ok h6).1 (sE d ok h7).1)
  | .any, X, W, C, ok, e, h => ⟨s_any, fun z => by cases z⟩
  | .chn5 o1 o2 o3 o4 a b c d f, X, W, C, ok, e, h => by
    obtain ⟨l, q1, q2, q3, q4, r1, r2, r3, r4, p, rfl, h⟩ := mChn5_inv o1 o2 o3 o4 _ _ _ _ _ h
    obtain ⟨h, h9⟩ := ba h
    obtain ⟨h, h8⟩ := ba h
    obtain ⟨h, h7⟩ := ba h
    obtain ⟨h, h6⟩ := ba h
    obtain ⟨h, h5⟩ := ba h
    obtain ⟨h, h4⟩ := ba h
    obtain ⟨h, h3⟩ := ba h
    obtain ⟨h1, h2⟩ := ba h
    exact Both.cm (s_chn5 ok h1 h2 h3 h4 (sE a ok h5).1 (sE b ok h6).1 (sE c ok h7).1 (sE d ok h8).1 (sE f ok h9).1)
  | .ntB a b, X, W, C, ok, e, h => by
    obtain ⟨l, j, k, p2, p, rfl, h⟩ := mNtB_inv b _ h
    obtain ⟨h1, h2⟩ := ba h
    have h1 := of_decide_eq_true h1
    subst h1
    exact Both.cm (s_ntB (sE a ok h2).1)
  | .dic t, X, W, C, ok, e, h => by
    obtain ⟨p, rfl, _⟩ := mDic_inv h
    exact Both.of s_dic rfl
  | .dcb, X, W, C, ok, e, h => by
    obtain ⟨p, rfl, _⟩ := mDic_inv h
    exact Both.of s_dcb rfl
  | .dgt o k, X, W, C, ok, e, h => by
    obtain ⟨l, s, p, rfl, h⟩ := mIdx_inv _ _ h
    obtain ⟨h, h3⟩ := ba h
    obtain ⟨h1, h2⟩ := ba h
    exact Both.of (s_dgt ok h1 (sE o ok h2).1 (sE k ok h3).1) rfl
  | .din n k o, X, W, C, ok, e, h => by
    obtain ⟨l, op, r, p, rfl, h⟩ := mDin_inv n _ _ h
    obtain ⟨h, h4⟩ := ba h
    obtain ⟨h, h3⟩ := ba h
    obtain ⟨h1, h2⟩ := ba h
    exact Both.cm (s_din ok h1 h2 (sE k ok h3).1 (sE o ok h4).1)
  | .get1 o a, X, W, C, ok, e, h => by
    obtain ⟨l, m, ap, r, cp, rfl, h⟩ := mMet1_inv _ _ _ h
    obtain ⟨h, h6⟩ := ba h
    obtain ⟨h, h5⟩ := ba h
    obtain ⟨h, h4⟩ := ba h
    obtain ⟨h, h3⟩ := ba h
    obtain ⟨h1, h2⟩ := ba h
    have h1 := of_decide_eq_true h1
    subst h1
    exact Both.of (s_get1 ok h2 h3 h4 (sE o ok h5).1 (sE a ok h6).1) rfl
  | .get2 o a b, X, W, C, ok, e, h => by
    obtain ⟨l, m, ap, r, t, cp, rfl, h⟩ := mMet2_inv _ _ _ _ h
    obtain ⟨h, h8⟩ := ba h
    obtain ⟨h, h7⟩ := ba h
    obtain ⟨h, h6⟩ := ba h
    obtain ⟨h, h5⟩ := ba h
    obtain ⟨h, h4⟩ := ba h
    obtain ⟨h, h3⟩ := ba h
    obtain ⟨h1, h2⟩ := ba h
    have h1 := of_decide_eq_true h1
    subst h1
    exact Both.of (s_get2 ok h2 h3 h4 h5 (sE o ok h6).1 (sE a ok h7).1 (sE b ok h8).1) rfl
  | .dpop o a, X, W, C, ok, e, h => by
    obtain ⟨l, m, ap, r, cp, rfl, h⟩ := mMet1_inv _ _ _ h
    obtain ⟨h, h6⟩ := ba h
    obtain ⟨h, h5⟩ := ba h
    obtain ⟨h, h4⟩ := ba h
    obtain ⟨h, h3⟩ := ba h
    obtain ⟨h1, h2⟩ := ba h
    have h1 := of_decide_eq_true h1
    subst h1
    exact Both.of (s_dpop ok h2 h3 h4 (sE o ok h5).1 (sE a ok h6).1) rfl
  | .ixo o a, X, W, C, ok, e, h => by
    obtain ⟨l, m, ap, r, cp, rfl, h⟩ := mMet1_inv _ _ _ h
    obtain ⟨h, h6⟩ := ba h
    obtain ⟨h, h5⟩ := ba h
    obtain ⟨h, h4⟩ := ba h
    obtain ⟨h, h3⟩ := ba h
    obtain ⟨h1, h2⟩ := ba h
    have h1 := of_decide_eq_true h1
    subst h1
    exact Both.of (s_ixo ok h2 h3 h4 (sE o ok h5).1 (sE a ok h6).1) rfl
  | .ins o a b, X, W, C, ok, e, h => by
    obtain ⟨l, m, ap, r, t, cp, rfl, h⟩ := mMet2_inv _ _ _ _ h
    obtain ⟨h, h8⟩ := ba h
    obtain ⟨h, h7⟩ := ba h
    obtain ⟨h, h6⟩ := ba h
    obtain ⟨h, h5⟩ := ba h
    obtain ⟨h, h4⟩ := ba h
    obtain ⟨h, h3⟩ := ba h
    obtain ⟨h1, h2⟩ := ba h
    have h1 := of_decide_eq_true h1
    subst h1
    exact Both.of (s_ins h2 h3 h4 h5 (sE o ok h6).1 (sE a ok h7).1 (sE b ok h8).1) rfl
  | .pop0 o, X, W, C, ok, e, h => by
    obtain ⟨l, m, ap, cp, rfl, h⟩ := mMet0_inv _ _ h
    obtain ⟨h, h4⟩ := ba h
    obtain ⟨h, h3⟩ := ba h
    obtain ⟨h1, h2⟩ := ba h
    have h1 := of_decide_eq_true h1
    subst h1
    exact Both.of (s_pop0 h2 h3 (sE o ok h4).1) rfl
  | .pop1 o a, X, W, C, ok, e, h => by
    obtain ⟨l, m, ap, r, cp, rfl, h⟩ := mMet1_inv _ _ _ h
    obtain ⟨h, h6⟩ := ba h
    obtain ⟨h, h5⟩ := ba h
    obtain ⟨h, h4⟩ := ba h
    obtain ⟨h, h3⟩ := ba h
    obtain ⟨h1, h2⟩ := ba h
    have h1 := of_decide_eq_true h1
    subst h1
    exact Both.of (s_pop1 h2 h3 h4 (sE o ok h5).1 (sE a ok h6).1) rfl
  | .fld a y f, X, W, C, ok, e, h => by
    obtain ⟨l, m, p, rfl, h⟩ := mFld_inv C y f _ h
    obtain ⟨h, h4⟩ := ba h
    obtain ⟨h, h3⟩ := ba h
    obtain ⟨h1, h2⟩ := ba h
    have h1 := of_decide_eq_true h1
    subst h1
    exact Both.of (s_fld ok h2 h3 (sE a ok h4).1) rfl
  | .mth o y m key es, X, W, C, ok, e, h => by
    obtain ⟨x, q, w, ap, xs, cp, rfl, h⟩ := mMth_inv C y m key _ _ _ h
    obtain ⟨h, h6⟩ := ba h
    obtain ⟨h, h5⟩ := ba h
    obtain ⟨h, hnr⟩ := ba h
    obtain ⟨h, h4⟩ := ba h
    obtain ⟨h, h3⟩ := ba h
    obtain ⟨h1, h2⟩ := ba h
    have h1 := of_decide_eq_true h1
    subst h1
    exact Both.of (s_mth ok h2 (of_decide_eq_true h3) h4 hnr (sE o ok h5).1 (sEs es ok h6) h6) rfl
  | .mk y key es, X, W, C, ok, e, h => by
    obtain ⟨x, q, xs, p, rfl, h⟩ := mMk_inv C y key _ _ h
    obtain ⟨h, h5⟩ := ba h
    obtain ⟨h, hnr⟩ := ba h
    obtain ⟨h, h4⟩ := ba h
    obtain ⟨h, h3⟩ := ba h
    obtain ⟨h1, h2⟩ := ba h
    have h1 := of_decide_eq_true h1
    subst h1
    exact Both.of (s_mk ok h2 h3 h4 hnr (sEs es ok h5) h5) rfl
  | .xis i y, X, W, C, ok, e, h => by
    obtain ⟨x, q, n, q1, z, q2, p, rfl, h⟩ := mXis_inv C i y h
    obtain ⟨h, h9⟩ := ba h
    obtain ⟨h, h8⟩ := ba h
    obtain ⟨h, h7⟩ := ba h
    obtain ⟨h, h6⟩ := ba h
    obtain ⟨h, h5⟩ := ba h
    obtain ⟨h, h4⟩ := ba h
    obtain ⟨h, h3⟩ := ba h
    obtain ⟨h1, h2⟩ := ba h
    have h1 := of_decide_eq_true h1
    have h3 := of_decide_eq_true h3
    subst h1 h3
    exact Both.of (s_xis ok h2 h4 h5 h6 h7 h8 h9) rfl
  | .xcl i f, X, W, C, ok, e, h => by
    obtain ⟨x, q, n, q1, p, rfl, h⟩ := mXcl_inv C i f h
    obtain ⟨h, h8⟩ := ba h
    obtain ⟨h, h7⟩ := ba h
    obtain ⟨h, h6⟩ := ba h
    obtain ⟨h, h5⟩ := ba h
    obtain ⟨h, h4⟩ := ba h
    obtain ⟨h, h3⟩ := ba h
    obtain ⟨h1, h2⟩ := ba h
    have h1 := of_decide_eq_true h1
    subst h1
    exact Both.of (s_xcl ok h2 h3 h4 h5 h6 h7 h8) rfl
  | .xat i, X, W, C, ok, e, h => by
    obtain ⟨n, q, m, p, rfl, h⟩ := mXat_inv C i h
    obtain ⟨h, h5⟩ := ba h
    obtain ⟨h, h4⟩ := ba h
    obtain ⟨h, h3⟩ := ba h
    obtain ⟨h1, h2⟩ := ba h
    have h1 := of_decide_eq_true h1
    subst h1
    exact Both.of (s_xat ok h2 h3 h4 h5) rfl
  | .dsp es, X, W, C, ok, e, h => by
    obtain ⟨ks, vs, p, xs, rfl, hf, h15, h⟩ := mDsp_inv _ h
    obtain ⟨h1, h2⟩ := ba h
    exact Both.of (s_dsp hf h15 (sAll es ok h2) (by intro z; subst z; cases h1)) rfl
  | .op2 k o a, X, W, C, ok, e, h => by
    have met : ∀ {m : Str}, mMet1 m (mE o C) (mE a C) e = true → ∃ l ap r cp, e = .Call (.Attribute l m ap) [r] [] cp ∧ notCall l = true ∧ (ap.endLine == cp.line) = true ∧ notSt r = true ∧ mE o C l = true ∧ mE a C r = true := by
      intro m h
      obtain ⟨l, w, ap, r, cp, rfl, h⟩ := mMet1_inv _ _ _ h
      obtain ⟨h, h6⟩ := ba h
      obtain ⟨h, h5⟩ := ba h
      obtain ⟨h, h4⟩ := ba h
      obtain ⟨h, h3⟩ := ba h
      obtain ⟨h1, h2⟩ := ba h
      have h1 := of_decide_eq_true h1
      subst h1
      exact ⟨l, ap, r, cp, rfl, h2, h3, h4, h5, h6⟩
    cases k with
    | spl =>
      obtain ⟨l, ap, r, cp, rfl, h2, h3, h4, h5, h6⟩ := met (m := "split") h
      exact Both.of (s_spl h2 h3 h4 (sE o ok h5).1 (sE a ok h6).1) rfl
    | prt =>
      obtain ⟨l, ap, r, cp, rfl, h2, h3, h4, h5, h6⟩ := met (m := "partition") h
      exact Both.of (s_prt h2 h3 h4 (sE o ok h5).1 (sE a ok h6).1) rfl
    | joi =>
      obtain ⟨l, ap, r, cp, rfl, h2, h3, h4, h5, h6⟩ := met (m := "join") h
      exact Both.of (s_joi h2 h3 h4 (sE o ok h5).1 (sE a ok h6).1) rfl
    | cnt =>
      obtain ⟨l, ap, r, cp, rfl, h2, h3, h4, h5, h6⟩ := met (m := "count") h
      exact Both.of (s_cnt h2 h3 h4 (sE o ok h5).1 (sE a ok h6).1) rfl
    | rmv =>
      obtain ⟨l, ap, r, cp, rfl, h2, h3, h4, h5, h6⟩ := met (m := "remove") h
      exact Both.of (s_rmv h2 h3 h4 (sE o ok h5).1 (sE a ok h6).1) rfl
    | fs s =>
      obtain ⟨l, c1, q1, j, k, q2, r, c2, q3, p, rfl, h⟩ := mFs_inv s _ _ (show mFs s (mE o C) (mE a C) e = true from h)
      obtain ⟨h, h5⟩ := ba h
      obtain ⟨h, h4⟩ := ba h
      obtain ⟨h, h3⟩ := ba h
      obtain ⟨h1, h2⟩ := ba h
      have h3 := of_decide_eq_true h3
      subst h3
      exact Both.of (s_fs (of_decide_eq_true h1) (of_decide_eq_true h2) (sE o ok h4).1 (sE a ok h5).1) rfl
  | .idS a i, X, W, C, ok, e, h => by
    obtain ⟨l, s, p, rfl, h⟩ := mIdx_inv _ _ h
    obtain ⟨h, h3⟩ := ba h
    obtain ⟨h1, h2⟩ := ba h
    exact Both.of (s_idS h1 (sE a ok h2).1 (sE i ok h3).1) rfl
  | .lsd o, X, W, C, ok, e, h => by
    obtain ⟨hcd, h⟩ := ba (show (cold C && mCl1 C "list" (mE o C) e) = true from h)
    obtain ⟨x, q, l, p, rfl, h⟩ := mCl1_inv C _ _ h
    obtain ⟨h, h4⟩ := ba h
    obtain ⟨h, h3⟩ := ba h
    obtain ⟨h1, h2⟩ := ba h
    have h1 := of_decide_eq_true h1
    subst h1
    exact Both.of (s_lsd ok hcd h2 h3 (sE o ok h4).1) rfl
  | .upp o, X, W, C, ok, e, h => by
    obtain ⟨l, m, ap, cp, rfl, h⟩ := mMet0_inv _ _ h
    obtain ⟨h, h4⟩ := ba h
    obtain ⟨h, h3⟩ := ba h
    obtain ⟨h1, h2⟩ := ba h
    have h1 := of_decide_eq_true h1
    subst h1
    exact Both.of (s_upp h2 h3 (sE o ok h4).1) rfl
  | .gget x k, X, W, C, ok, e, h => by
    obtain ⟨y, q, m, ap, r, cp, rfl, h⟩ := mGg_inv C x _ h
    obtain ⟨h, h8⟩ := ba h
    obtain ⟨h, h7⟩ := ba h
    obtain ⟨h, h6⟩ := ba h
    obtain ⟨h, h5⟩ := ba h
    obtain ⟨h, h4⟩ := ba h
    obtain ⟨h, h3⟩ := ba h
    obtain ⟨h1, h2⟩ := ba h
    have h1 := of_decide_eq_true h1
    have h2 := of_decide_eq_true h2
    subst h1 h2
    exact Both.of (s_gget ok h3 h4 h5 h6 h7 (sE k ok h8).1) rfl
  | .lc own t it el, X, W, C, ok, e, h => by
    obtain ⟨x, tg, i, sc, p, rfl, h⟩ := mLc_inv C own _ _ _ _ _ h
    obtain ⟨h, h6⟩ := ba h
    obtain ⟨h, h5⟩ := ba h
    obtain ⟨h, h4⟩ := ba h
    obtain ⟨h, h3⟩ := ba h
    obtain ⟨h, h2⟩ := ba h
    obtain ⟨h, h1⟩ := ba h
    obtain ⟨hcd, h0⟩ := ba h
    have hk := blk_kind h3
    refine Both.of (PE.by_ (pe_lc (own := ownL C own) (g := tG X.K CA G.pin t) (tt := tYes) (te := tE X.K CA G W0 el) (ok.calm hcd) (by rw [ok.nm]; exact ok.nd) (sI it ok (nd_of h2) h4) (by rw [ok.nm, ok.sc]; exact blkOk_by h3)
      (fun s H cd cl fp => g_ok (ok.blk hcd sc hk s H cd cl fp) h5) (fun s H cd cl fp => pts_nil) (fun s H cd cl fp => (sE el (ok.blk hcd sc hk s H cd cl fp) h6).1) (set_of h0 X.env)) ?_) rfl
    rintro σ H Q ⟨S, L, env, g, er, q⟩
    simp only [ev] at q
    rw [own_snd]
    exact lc_read (ok.nopin hcd) (c := none) (fun i hi => by have := List.all_eq_true.mp h1 i hi; simpa using this) g er q
  | .lcI own t it c el, X, W, C, ok, e, h => by
    obtain ⟨x, tg, i, f, sc, p, rfl, h⟩ := mLcI_inv C own _ _ _ _ _ _ h
    obtain ⟨h, h7⟩ := ba h
    obtain ⟨h, h6⟩ := ba h
    obtain ⟨h, h5⟩ := ba h
    obtain ⟨h, h4⟩ := ba h
    obtain ⟨h, h3⟩ := ba h
    obtain ⟨h, h2⟩ := ba h
    obtain ⟨h, h1⟩ := ba h
    obtain ⟨hcd, h0⟩ := ba h
    obtain ⟨ht, h6⟩ := ba h6
    have hk := blk_kind h3
    refine Both.of (PE.by_ (pe_lc (own := ownL C own) (g := tG X.K CA G.pin t) (tt := tT X.K CA G W0 c) (te := tE X.K CA G W0 el) (ok.calm hcd) (by rw [ok.nm]; exact ok.nd) (sI it ok (nd_of h2) h4) (by rw [ok.nm, ok.sc]; exact blkOk_by h3)
      (fun s H cd cl fp => g_ok (ok.blk hcd sc hk s H cd cl fp) h5) (fun s H cd cl fp => pts_one ((sE c (ok.blk hcd sc hk s H cd cl fp) h6).2 ht).1) (fun s H cd cl fp => (sE el (ok.blk hcd sc hk s H cd cl fp) h7).1) (set_of h0 X.env)) ?_) rfl
    rintro σ H Q ⟨S, L, env, g, er, q⟩
    simp only [ev] at q
    rw [own_snd]
    exact lc_read (ok.nopin hcd) (c := some c) (fun i hi => by have := List.all_eq_true.mp h1 i hi; simpa using this) g er q
theorem sEs : ∀ (xs : List Ex) {X : Cx} {W : WX} {C : MC} (ok : Ok X CA G W C) {es : List Expr}, mEs xs C es = true → PA X es (tEs X.K CA G W xs)
  | [], X, W, C, ok, es, h => by
    rw [mEs_nil h]
    exact s_nil
  | x :: xs, X, W, C, ok, es, h => by
    obtain ⟨e, r, rfl, h1, h2, h3⟩ := mEs_cons h
    exact s_cons (sE x ok h2).1 (sEs xs ok h3) (star_of h1 r X.env)
theorem sAll : ∀ (xs : List Ex) {X : Cx} {W : WX} {C : MC} (ok : Ok X CA G W C) {es : List Expr}, mEs xs C es = true → AllPE CA G X W xs es
  | [], X, W, C, ok, es, h => by
    rw [mEs_nil h]
    exact True.intro
  | x :: xs, X, W, C, ok, es, h => by
    obtain ⟨e, r, rfl, h1, h2, h3⟩ := mEs_cons h
    exact ⟨(sE x ok h2).1, sAll xs ok h3⟩
theorem sI : ∀ (x : Lt.It) {X : Cx} {W : WX} {C : MC} (ok : Ok X CA G W C) {tg e : Expr}, (itT x = true → isTupE tg = true) → mI x C e = true → PI X tg e (tI X.K CA G W x)
  | .seq a, X, W, C, ok, tg, e, ht, h => i_seq (sE a ok h).1
  | .rng a, X, W, C, ok, tg, e, ht, h => by
    obtain ⟨x, q, l, p, rfl, h⟩ := mCl1_inv C _ _ h
    obtain ⟨h, h4⟩ := ba h
    obtain ⟨h, h3⟩ := ba h
    obtain ⟨h1, h2⟩ := ba h
    have h1 := of_decide_eq_true h1
    subst h1
    exact i_rng ok h2 h3 (sE a ok h4).1
  | .rng2 a b, X, W, C, ok, tg, e, ht, h => by
    obtain ⟨x, q, l, r, p, rfl, h⟩ := mCl2_inv C _ _ _ h
    obtain ⟨h, h6⟩ := ba h
    obtain ⟨h, h5⟩ := ba h
    obtain ⟨h, h4⟩ := ba h
    obtain ⟨h, h3⟩ := ba h
    obtain ⟨h1, h2⟩ := ba h
    have h1 := of_decide_eq_true h1
    subst h1
    exact i_rng2 ok h2 h3 h4 (sE a ok h5).1 (sE b ok h6).1
  | .enm a, X, W, C, ok, tg, e, ht, h => by
    obtain ⟨x, q, l, p, rfl, h⟩ := mCl1_inv C _ _ h
    obtain ⟨h, h4⟩ := ba h
    obtain ⟨h, h3⟩ := ba h
    obtain ⟨h1, h2⟩ := ba h
    have h1 := of_decide_eq_true h1
    subst h1
    exact i_enm ok (ht rfl) h2 h3 (sE a ok h4).1
  | .zip a b, X, W, C, ok, tg, e, ht, h => by
    obtain ⟨x, q, l, r, p, rfl, h⟩ := mCl2_inv C _ _ _ h
    obtain ⟨h, h6⟩ := ba h
    obtain ⟨h, h5⟩ := ba h
    obtain ⟨h, h4⟩ := ba h
    obtain ⟨h, h3⟩ := ba h
    obtain ⟨h1, h2⟩ := ba h
    have h1 := of_decide_eq_true h1
    subst h1
    exact i_zip ok (ht rfl) h2 h3 h4 (sE a ok h5).1 (sE b ok h6).1
  | .rvd a, X, W, C, ok, tg, e, ht, h => by
    obtain ⟨x, q, l, p, rfl, h⟩ := mCl1_inv C _ _ h
    obtain ⟨h, h4⟩ := ba h
    obtain ⟨h, h3⟩ := ba h
    obtain ⟨h1, h2⟩ := ba h
    have h1 := of_decide_eq_true h1
    subst h1
    exact i_rvd ok h2 h3 (sE a ok h4).1
end
end
end Lt
set_option maxHeartbeats 1000000
namespace Lt
open PySem PySem.Spec PyProof.Rows L2
section
variable {X : Cx} {CA : Str → Addr} {G : Cxp} {W : WX} {C : MC} {S S' : Store} {L L1 M2 L' : List Addr} {H H1 H2 H' : Hp} {σ σ' : Sl} {e : Expr}
def isLcX : Ex → Bool
  | .lc _ _ _ _ => true
  | .lcI _ _ _ _ _ => true
  | _ => false
theorem mE_lc {x : Ex} {a : Expr} {gs : List Comprehension} {sc : Scope} {p : Pos} (h : mE x C (.ListComp a gs sc p) = true) : isLcX x = true := by
  cases x <;> first | rfl | (exact absurd h Bool.false_ne_true) | (rename_i k _ _; cases k <;> exact absurd h Bool.false_ne_true) | (exact absurd (ba (show (cold C && _) = true from h)).2 Bool.false_ne_true)
/-- a comprehension that stores its list itself -/
def lcSelf (C : MC) (y : Str) (py : Pos) (sc : Scope) (p : Pos) : Bool := locB C.sc y && (py.line == p.line) && !(sc.names.any fun (n, k) => n == y && (k == .local || k == .cell))
theorem locB_eq (sc : Scope) (y : Str) : (sc.names.lookup y == some NameKind.local) = locB sc y := by
  unfold locB
  cases h : sc.names.lookup y with
  | none => rfl
  | some k => cases k <;> rfl
theorem sw_lc (ok : Ok X CA G W C) {elt : Expr} {gs : List Comprehension} {sc : Scope} {p py : Pos} {y : Str} {l : Nat} : swapsWith (.ListComp elt gs sc p) (some (.Name y py)) l X.env = pure (lcSelf C y py sc p) := by
  have hb : X.env.blockKind = .function := by unfold Env.blockKind; rw [ok.sc, ok.kind]; rfl
  have hk : (X.env.kindOf y == some NameKind.local) = locB C.sc y := by
    show (X.env.scope.names.lookup y == _) = _
    rw [ok.sc]; exact locB_eq _ _
  unfold swapsWith lcSelf
  simp only [hb, hk, Expr.pos]
  rfl
theorem sw_no {v : Expr} (h : notLc v = true) (h2 : ∀ a gs sc p, v ≠ .SetComp a gs sc p) (h3 : ∀ a b gs sc p, v ≠ .DictComp a b gs sc p) (t : Option Expr) (l : Nat) (env : PySem.Env) : swapsWith v t l env = pure false := by
  cases v <;> first | rfl | (exact absurd h Bool.false_ne_true) | (exact absurd rfl (h2 _ _ _ _)) | (exact absurd rfl (h3 _ _ _ _ _))
theorem mE_set {x : Ex} {a : Expr} {gs : List Comprehension} {sc : Scope} {p : Pos} : mE x C (.SetComp a gs sc p) = false := by
  cases x <;> first | rfl | (rename_i k _ _; cases k <;> rfl) | exact Bool.and_false _
theorem mE_dict {x : Ex} {a b : Expr} {gs : List Comprehension} {sc : Scope} {p : Pos} : mE x C (.DictComp a b gs sc p) = false := by
  cases x <;> first | rfl | (rename_i k _ _; cases k <;> rfl) | exact Bool.and_false _
theorem sw_of {x : Ex} {v : Expr} (h : notLc v = true) (hm : mE x C v = true) (t : Option Expr) (l : Nat) (env : PySem.Env) : swapsWith v t l env = pure false :=
  sw_no h (by rintro a gs sc p rfl; rw [mE_set] at hm; cases hm) (by rintro a b gs sc p rfl; rw [mE_dict] at hm; cases hm) t l env
/-- what an assignment reads -/
def tA (K : PySem.W.Frag) (CA : Str → Addr) (G : Cxp) (W : WX) (t : Tg) (x : Ex) : TS := tAsg (tE K CA G W x) (tG K CA G.pin t)
theorem asg_read {t : Tg} {x : Ex} {Z : Ends} (h : tS X.K CA G W (.asg t x) Z σ H) : tA X.K CA G W t x Z σ H := by
  obtain ⟨S, L, env, g, er, q⟩ := h
  simp only [exS] at q
  refine ⟨S, L, env, g, er, (AftS.toS er g q).mono fun d S1 L1 H1 ⟨st, g1, q1⟩ v r => ?_⟩
  split at q1
  · rename_i e1 hb
    exact ⟨S1, L1, env, d, e1, g1, er.step g st, r, hb, fun σ' er' _ => q1 σ' L1 H1 Step.refl g1 er'⟩
  · exact q1.elim
theorem filterMap_lt {α β : Type} {f : α → Option β} : ∀ {l : List α}, (∃ a ∈ l, f a = none) → (l.filterMap f).length < l.length
  | [], h => by obtain ⟨a, ha, _⟩ := h; cases ha
  | x :: r, h => by
    obtain ⟨a, ha, he⟩ := h
    have le := List.length_filterMap_le f r
    cases hx : f x with
    | none =>
      rw [List.filterMap_cons_none hx, List.length_cons]; omega
    | some y =>
      rw [List.filterMap_cons_some hx, List.length_cons, List.length_cons]
      rcases List.mem_cons.mp ha with z | z
      · subst z; rw [hx] at he; cases he
      · have := filterMap_lt (f := f) ⟨a, z, he⟩
        omega
/-- the stores of a written tuple, where they are not exchanged -/
theorem no_swap (ok : Ok X CA G W C) {t v : Expr} {tg : Tg} (hn : noSwapE C v t = true) (ht : mT C tg t = true) : swappedStores [t] v X.env = pure none := by
  cases t with
  | Tuple ts k2 p2 =>
    cases v with
    | Tuple vs k p =>
      have hn : (noSwap ts vs || ts.any fun
        | .Name x _ => celB C.sc x
        | _ => false) = true := hn
      rw [Bool.or_eq_true] at hn
      rcases hn with hn | hn
      · have hf : vs.all (foldedForSure 8) = true := (ba (show (vs.all (foldedForSure 8) && _) = true from hn)).1
        unfold swappedStores
        simp only [hf, if_true]
        repeat (first | rfl | split)
      · obtain ⟨e, he, hc⟩ := List.any_eq_true.mp hn
        have hlt : (ts.filterMap fun x => match x with
          | .Name id pos => if (X.env.kindOf id == some NameKind.local && pos.line == (Option.map (fun x => x.pos.line) ts.head?).getD 0) = true then some id else none
          | _ => none).length < ts.length := by
          refine filterMap_lt ⟨e, he, ?_⟩
          cases e with
          | Name x p =>
            have hc : celB C.sc x = true := hc
            have hk : X.env.kindOf x = some .cell := by show X.env.scope.names.lookup x = _; rw [ok.sc]; exact cel_of hc
            simp only [hk]
            rfl
          | _ => cases hc
        unfold swappedStores
        simp only
        split
        · rfl
        · split
          · rfl
          · rw [if_pos]
            rw [Bool.or_eq_true]
            refine .inl ?_
            rw [bne_iff_ne]
            exact Nat.ne_of_lt hlt
    | _ => rfl
  | List ts p => cases tg <;> exact absurd ht Bool.false_ne_true
  | _ => cases v <;> rfl
theorem swap2 (ok : Ok X CA G W C) {x y : Str} {px py pt pt2 : Pos} {kt k2 : Nat} {a b : Expr} (h : swapOk C x y px py a b = true) (h1 : notSt a = true) (h2 : notSt b = true) :
    swappedStores [.Tuple [.Name x px, .Name y py] kt pt] (.Tuple [a, b] k2 pt2) X.env = pure (some [x, y]) := by
  unfold swapOk at h
  obtain ⟨h, c6⟩ := ba h
  obtain ⟨h, c5⟩ := ba h
  obtain ⟨h, c4⟩ := ba h
  obtain ⟨h, c3⟩ := ba h
  obtain ⟨c1, c2⟩ := ba h
  have hb : X.env.blockKind = .function := by unfold Env.blockKind; rw [ok.sc, ok.kind]; rfl
  have hx : X.env.kindOf x = some .local := by show X.env.scope.names.lookup x = _; rw [ok.sc]; exact loc_of c1
  have hy : X.env.kindOf y = some .local := by show X.env.scope.names.lookup y = _; rw [ok.sc]; exact loc_of c2
  have hxy : ¬ x = y := by simpa using c4
  have hxy2 : ¬ y = x := fun e => hxy e.symm
  have c5' : ([a, b].all (foldedForSure 8)) = false := by
    cases z : ([a, b].all (foldedForSure 8)) with
    | false => rfl
    | true => rw [z] at c5; cases c5
  have c6' : ([a, b].all (constantsAlone 8)) = false := by
    cases z : ([a, b].all (constantsAlone 8)) with
    | false => rfl
    | true => rw [z] at c6; cases c6
  unfold swappedStores
  simp [hb, hx, hy, c5', c6', c3, Expr.pos, List.filterMap, List.eraseDups, hxy, hxy2]
  rw [if_neg (by
    intro h
    rcases h with h | h
    · cases a <;> first | (exact absurd h Bool.false_ne_true) | (exact absurd h1 Bool.false_ne_true)
    · cases b <;> first | (exact absurd h Bool.false_ne_true) | (exact absurd h2 Bool.false_ne_true))]
  have hz : (y == x) = false := by simpa using hxy2
  rw [if_pos (by simp [List.eraseDupsBy, List.eraseDupsBy.loop, hz])]
theorem p_asg (ok : Ok X CA G W C) {t : Tg} {x : Ex} {tg v : Expr} {p : Pos} (ht : mT C t tg = true) (hm : mE x C v = true) (hn : noSwapE C v tg = true) : PS X (.Assign [tg] v p) (tS X.K CA G W (.asg t x)) := by
  have gen : swapsWithSole [tg] v p.line X.env = pure false → PS X (.Assign [tg] v p) (tS X.K CA G W (.asg t x)) := fun hs =>
    PS.by_ (ps_asg (sE x ok hm).1 (g_ok ok ht) hs (no_swap ok hn ht) (by cases tg <;> first | rfl | (cases t <;> exact absurd ht Bool.false_ne_true))) fun Z σ H q => asg_read q
  cases hl : notLc v with
  | true => exact gen (sw_of hl hm _ _ _)
  | false =>
    cases v with
    | ListComp elt gs sc p2 =>
      cases tg with
      | Name y py =>
        cases t with
        | tup is => exact absurd ht Bool.false_ne_true
        | name i =>
          cases hq : lcSelf C y py sc p2 with
          | false => exact gen ((sw_lc (l := p.line) ok).trans (by rw [hq]))
          | true =>
            have hx := mE_lc hm
            have sw : swapsWith (.ListComp elt gs sc p2) (some (.Name y py)) p.line X.env = pure true := (sw_lc ok).trans (by rw [hq])
            have hy : X.N[i]? = some y := by rw [ok.nm]; exact slot_of (ba (ba (show (hsNe C i && (slotB C i y && stB C y)) = true from ht)).2).1
            have hyl : X.env.scope.names.lookup y = some .local := by rw [ok.sc]; exact loc_of (ba (ba hq).1).1
            have nd : X.N.Nodup := by rw [ok.nm]; exact ok.nd
            have key : ∀ (Z : Ends) (σ : Sl) (H : Hp), tS X.K CA G W (.asg (.name i) x) Z σ H → tE X.K CA G W x σ H fun v H1 => gName i v σ H1 Z.nx := fun Z σ H q => by
              obtain ⟨S, L, env, g, er, q⟩ := asg_read q
              refine ⟨S, L, env, g, er, q.mono fun d S1 L1 H1 q1 v r => ?_⟩
              obtain ⟨S, L, e, d, e1, g, er, r, hb, q⟩ := q1 v r
              simp only [bindT] at hb
              split at hb
              · cases hb
                exact q _ (er.set r (ok.hsne (ba (show (hsNe C i && (slotB C i y && stB C y)) = true from ht)).1)) (SameOut.one _ _ _)
              · cases hb
            cases x with
            | lc own t it el =>
              obtain ⟨x, tg, i2, sc2, p3, z, h⟩ := mLc_inv C own _ _ _ _ _ hm
              cases z
              obtain ⟨h, h6⟩ := ba h
              obtain ⟨h, h5⟩ := ba h
              obtain ⟨h, h4⟩ := ba h
              obtain ⟨h, h3⟩ := ba h
              obtain ⟨h, h2⟩ := ba h
              obtain ⟨h, h1⟩ := ba h
              obtain ⟨hcd, h0⟩ := ba h
              have hk := blk_kind h3
              refine PS.by_ (ps_setLc (i := i) (own := ownL C own) (g := tG X.K CA G.pin t) (tt := tYes) (te := tE X.K CA G W0 el) (ok.calm hcd) nd hy hyl sw (sI it ok (nd_of h2) h4) (by rw [ok.nm, ok.sc]; exact blkOk_by h3)
                (fun s H cd cl fp => g_ok (ok.blk hcd sc hk s H cd cl fp) h5) (fun s H cd cl fp => pts_nil) (fun s H cd cl fp => (sE el (ok.blk hcd sc hk s H cd cl fp) h6).1) (set_of h0 X.env)) ?_
              intro Z σ H q
              obtain ⟨S, L, env, g, er, q⟩ := key Z σ H q
              simp only [ev] at q
              rw [own_snd]
              exact lc_read (ok.nopin hcd) (c := none) (fun i hi => by have := List.all_eq_true.mp h1 i hi; simpa using this) g er q
            | lcI own t it c el =>
              obtain ⟨x, tg, i2, f, sc2, p3, z, h⟩ := mLcI_inv C own _ _ _ _ _ _ hm
              cases z
              obtain ⟨h, h7⟩ := ba h
              obtain ⟨h, h6⟩ := ba h
              obtain ⟨h, h5⟩ := ba h
              obtain ⟨h, h4⟩ := ba h
              obtain ⟨h, h3⟩ := ba h
              obtain ⟨h, h2⟩ := ba h
              obtain ⟨h, h1⟩ := ba h
              obtain ⟨hcd, h0⟩ := ba h
              obtain ⟨htk, h6⟩ := ba h6
              have hk := blk_kind h3
              refine PS.by_ (ps_setLc (i := i) (own := ownL C own) (g := tG X.K CA G.pin t) (tt := tT X.K CA G W0 c) (te := tE X.K CA G W0 el) (ok.calm hcd) nd hy hyl sw (sI it ok (nd_of h2) h4) (by rw [ok.nm, ok.sc]; exact blkOk_by h3)
                (fun s H cd cl fp => g_ok (ok.blk hcd sc hk s H cd cl fp) h5) (fun s H cd cl fp => pts_one ((sE c (ok.blk hcd sc hk s H cd cl fp) h6).2 htk).1) (fun s H cd cl fp => (sE el (ok.blk hcd sc hk s H cd cl fp) h7).1) (set_of h0 X.env)) ?_
              intro Z σ H q
              obtain ⟨S, L, env, g, er, q⟩ := key Z σ H q
              simp only [ev] at q
              rw [own_snd]
              exact lc_read (ok.nopin hcd) (c := some c) (fun i hi => by have := List.all_eq_true.mp h1 i hi; simpa using this) g er q
            | _ => exact absurd hx Bool.false_ne_true
      | _ => exact gen rfl
    | _ => cases hl
theorem p_par (ok : Ok X CA G W C) (hcd : cold C = true) {i j : Nat} {a b : Ex} {x y : Str} {px py pt pt2 p : Pos} {kt k2 : Nat} {l r : Expr} (h1 : slotB C i x = true) (h2 : slotB C j y = true) (hij : i ≠ j) (hs : swapOk C x y px py l r = true)
    (n1 : notSt l = true) (n2 : notSt r = true) (ha : mE a C l = true) (hb : mE b C r = true) :
    PS X (.Assign [.Tuple [.Name x px, .Name y py] kt pt] (.Tuple [l, r] k2 pt2) p) (tS X.K CA G W (.par i j a b)) := by
  have c := hs
  unfold swapOk at c
  obtain ⟨c, _⟩ := ba c
  obtain ⟨c, _⟩ := ba c
  obtain ⟨c, _⟩ := ba c
  obtain ⟨c, _⟩ := ba c
  obtain ⟨c1, c2⟩ := ba c
  refine PS.by_ (ps_par (i := i) (j := j) (ok.calm hcd) (by rw [ok.nm]; exact ok.nd) (by rw [ok.nm]; exact slot_of h1) (by rw [ok.nm]; exact slot_of h2) hij (by rw [ok.sc]; exact loc_of c1) (by rw [ok.sc]; exact loc_of c2)
    (pa_cons (sE a ok ha).1 (pa_cons (sE b ok hb).1 pa_nil (star_of n2 [] X.env)) (star_of n1 _ X.env)) (swap2 ok hs n1 n2) rfl) ?_
  rintro Z σ H ⟨S, L, env, g, er, q⟩
  simp only [exS] at q
  refine ⟨S, L, env, g, er, (AftS.toS er g q).mono fun d S1 L1 H1 ⟨st, g1, q1⟩ v r => ⟨S1, L1, env, g1, er.step g st, (AftS.toS (er.step g st) g1 q1).mono fun d2 S2 L2 H2 ⟨st2, g2, q2⟩ v2 r2 => ⟨v, v2, rfl, ?_⟩⟩⟩
  split at q2
  · exact q2 _ L2 H2 Step.refl g2 (((er.step g st).step g1 st2).set (r.step g1 st2) (ok.cold_ne hcd _) |>.set r2 (ok.cold_ne hcd _))
  · exact q2.elim
theorem swap3 (ok : Ok X CA G W C) {x y z : Str} {px py pz pt pt2 : Pos} {kt k2 : Nat} {a b c : Expr} (h : swapOk3 C x y z px py pz a b c = true) (h1 : notSt a = true) (h2 : notSt b = true) (h3 : notSt c = true) :
    swappedStores [.Tuple [.Name x px, .Name y py, .Name z pz] kt pt] (.Tuple [a, b, c] k2 pt2) X.env = pure (some [x, y, z]) := by
  unfold swapOk3 at h
  obtain ⟨h, c10⟩ := ba h
  obtain ⟨h, c9⟩ := ba h
  obtain ⟨h, c8⟩ := ba h
  obtain ⟨h, c7⟩ := ba h
  obtain ⟨h, c6⟩ := ba h
  obtain ⟨h, c5⟩ := ba h
  obtain ⟨h, c4⟩ := ba h
  obtain ⟨h, c3⟩ := ba h
  obtain ⟨c1, c2⟩ := ba h
  have hb : X.env.blockKind = .function := by unfold Env.blockKind; rw [ok.sc, ok.kind]; rfl
  have hx : X.env.kindOf x = some .local := by show X.env.scope.names.lookup x = _; rw [ok.sc]; exact loc_of c1
  have hy : X.env.kindOf y = some .local := by show X.env.scope.names.lookup y = _; rw [ok.sc]; exact loc_of c2
  have hz : X.env.kindOf z = some .local := by show X.env.scope.names.lookup z = _; rw [ok.sc]; exact loc_of c3
  have hxy : ¬ x = y := by simpa using c6
  have hxz : ¬ x = z := by simpa using c7
  have hyz : ¬ y = z := by simpa using c8
  have hyx : ¬ y = x := fun e => hxy e.symm
  have hzx : ¬ z = x := fun e => hxz e.symm
  have hzy : ¬ z = y := fun e => hyz e.symm
  have c9' : ([a, b, c].all (foldedForSure 8)) = false := by
    cases z : ([a, b, c].all (foldedForSure 8)) with
    | false => rfl
    | true => rw [z] at c9; cases c9
  have c10' : ([a, b, c].all (constantsAlone 8)) = false := by
    cases z : ([a, b, c].all (constantsAlone 8)) with
    | false => rfl
    | true => rw [z] at c10; cases c10
  unfold swappedStores
  simp [hb, hx, hy, hz, c9', c10', c4, c5, Expr.pos, List.filterMap, List.eraseDups, hxy, hyx, hxz, hzx, hyz, hzy]
  rw [if_neg (by
    intro h
    rcases h with h | h | h
    · cases a <;> first | (exact absurd h Bool.false_ne_true) | (exact absurd h1 Bool.false_ne_true)
    · cases b <;> first | (exact absurd h Bool.false_ne_true) | (exact absurd h2 Bool.false_ne_true)
    · cases c <;> first | (exact absurd h Bool.false_ne_true) | (exact absurd h3 Bool.false_ne_true))]
  have k1 : (y == x) = false := by simpa using hyx
  have k2 : (z == x) = false := by simpa using hzx
  have k3 : (z == y) = false := by simpa using hzy
  rw [if_pos (by simp [List.eraseDupsBy, List.eraseDupsBy.loop, k1, k2, k3])]
theorem p_par3 (ok : Ok X CA G W C) (hcd : cold C = true) {i j k : Nat} {a b c : Ex} {x y z : Str} {px py pz pt pt2 p : Pos} {kt k2 : Nat} {l r m : Expr} (h1 : slotB C i x = true) (h2 : slotB C j y = true) (h3 : slotB C k z = true) (hij : i ≠ j) (hik : i ≠ k) (hjk : j ≠ k) (hs : swapOk3 C x y z px py pz l r m = true)
    (n1 : notSt l = true) (n2 : notSt r = true) (n3 : notSt m = true) (ha : mE a C l = true) (hb : mE b C r = true) (hc : mE c C m = true) :
    PS X (.Assign [.Tuple [.Name x px, .Name y py, .Name z pz] kt pt] (.Tuple [l, r, m] k2 pt2) p) (tS X.K CA G W (.par3 i j k a b c)) := by
  have q := hs
  unfold swapOk3 at q
  obtain ⟨q, _⟩ := ba q
  obtain ⟨q, _⟩ := ba q
  obtain ⟨q, _⟩ := ba q
  obtain ⟨q, _⟩ := ba q
  obtain ⟨q, _⟩ := ba q
  obtain ⟨q, _⟩ := ba q
  obtain ⟨q, _⟩ := ba q
  obtain ⟨q, c3⟩ := ba q
  obtain ⟨c1, c2⟩ := ba q
  refine PS.by_ (ps_par3 (i := i) (j := j) (l := k) (ok.calm hcd) (by rw [ok.nm]; exact ok.nd) (by rw [ok.nm]; exact slot_of h1) (by rw [ok.nm]; exact slot_of h2) (by rw [ok.nm]; exact slot_of h3) hij hik hjk (by rw [ok.sc]; exact loc_of c1) (by rw [ok.sc]; exact loc_of c2) (by rw [ok.sc]; exact loc_of c3)
    (pa_cons (sE a ok ha).1 (pa_cons (sE b ok hb).1 (pa_cons (sE c ok hc).1 pa_nil (star_of n3 [] X.env)) (star_of n2 _ X.env)) (star_of n1 _ X.env)) (swap3 ok hs n1 n2 n3) rfl) ?_
  rintro Z σ H ⟨S, L, env, g, er, q⟩
  simp only [exS] at q
  refine ⟨S, L, env, g, er, (AftS.toS er g q).mono fun d S1 L1 H1 ⟨st, g1, q1⟩ v r => ⟨S1, L1, env, g1, er.step g st, (AftS.toS (er.step g st) g1 q1).mono fun d2 S2 L2 H2 ⟨st2, g2, q2⟩ v2 r2 => ⟨S2, L2, env, g2, (er.step g st).step g1 st2, (AftS.toS ((er.step g st).step g1 st2) g2 q2).mono fun d3 S3 L3 H3 ⟨st3, g3, q3⟩ v3 r3 => ⟨v, v2, v3, rfl, ?_⟩⟩⟩⟩
  split at q3
  · exact q3 _ L3 H3 Step.refl g3 (((((er.step g st).step g1 st2).step g2 st3).set ((r.step g1 st2).step g2 st3) (ok.cold_ne hcd _) |>.set (r2.step g2 st3) (ok.cold_ne hcd _)).set r3 (ok.cold_ne hcd _))
  · exact q3.elim
theorem p_sub (ok : Ok X CA G W C) {o i x : Ex} {l k v : Expr} {p p2 : Pos} (hs : notSl k = true) (ho : mE o C l = true) (hi : mE i C k = true) (hx : mE x C v = true) : PS X (.Assign [.Subscript l k p2] v p) (tS X.K CA G W (.sub o i x)) := by
  have sw : swapsWithSole [.Subscript l k p2] v p.line X.env = pure false := by
    cases hl : notLc v with
    | true => exact sw_of hl hx (some (.Subscript l k p2)) p.line X.env
    | false =>
      cases v with
      | ListComp _ _ _ _ => rfl
      | _ => cases hl
  refine PS.by_ (ps_asg (sE x ok hx).1 (pg_sub (sE o ok ho).1 (sE i ok hi).1 set_list (by intro _; cases k <;> first | rfl | exact absurd hs Bool.false_ne_true)) sw (by cases v <;> rfl) rfl) ?_
  rintro Z σ H ⟨S, L, env, g, er, q⟩
  simp only [exS] at q
  refine ⟨S, L, env, g, er, (AftS.toS er g q).mono fun d S1 L1 H1 ⟨st, g1, q1⟩ v r => ⟨S1, L1, env, g1, er.step g st, (AftS.toS (er.step g st) g1 q1).mono fun d2 S2 L2 H2 ⟨st2, g2, q2⟩ v2 r2 =>
    ⟨S2, L2, env, g2, (er.step g st).step g1 st2, (AftS.toS ((er.step g st).step g1 st2) g2 q2).mono fun d3 S3 L3 H3 ⟨st3, g3, q3⟩ v3 r3 => ?_⟩⟩⟩
  have er3 := ((er.step g st).step g1 st2).step g2 st3
  unfold setItem at q3
  split at q3
  · skip
    split at q3
    · rename_i xs hxs
      split at q3
      · rename_i j hj
        have r2' := r2.step g2 st3
        simp only [RelD] at r2' r3
        obtain ⟨b, hn, rfl⟩ := r2'
        subst r3
        obtain ⟨vs, e1, rs⟩ := getL_rel g3 hxs hn
        refine ⟨b, vs, _, j, rfl, rfl, e1, by rw [rs.length]; exact hj, ?_⟩
        have rd : RelD X.K L3 H3 d v := (r.step g1 st2).step g2 st3
        have m : Mon L3 H3 L3 (upd H3 b (.lst (vs.set j v))) := ⟨fun _ _ h => h, fun c o eb pb => by
          rw [upd_ne (by intro z; subst z; rw [e1] at eb; cases eb; exact pb)]; exact eb⟩
        obtain ⟨st4, g4⟩ := g3.write (c := .lst (xs.set j d)) (o := .lst (vs.set j v)) hn ⟨_, upd_same, RelDs.mon m _ _ (rs.set j rd)⟩
        exact q3 σ _ _ st4 g4 (er3.step g3 st4)
      · exact q3.elim
    · exact q3.elim
  · exact q3.elim
/-- a dict is written, in a statement -/
theorem p_dst (ok : Ok X CA G W C) {o i x : Ex} {l k v : Expr} {p p2 : Pos} (hs : notSl k = true) (ho : mE o C l = true) (hi : mE i C k = true) (hx : mE x C v = true) : PS X (.Assign [.Subscript l k p2] v p) (tS X.K CA G W (.dst o i x)) := by
  have hu : X.A.units + 1 < cLine := by have := ok.un; omega
  have sw : swapsWithSole [.Subscript l k p2] v p.line X.env = pure false := by
    cases hl : notLc v with
    | true => exact sw_of hl hx (some (.Subscript l k p2)) p.line X.env
    | false =>
      cases v with
      | ListComp _ _ _ _ => rfl
      | _ => cases hl
  refine PS.by_ (ps_dputX hu (sE o ok ho).1 (sE i ok hi).1 (sE x ok hx).1 sw) ?_
  rintro Z σ H ⟨S, L, env, g, er, q⟩
  simp only [exS] at q
  refine ⟨S, L, env, g, er, (AftS.toS er g q).mono fun d S1 L1 H1 ⟨st, g1, q1⟩ v r => ⟨S1, L1, env, g1, er.step g st, (AftS.toS (er.step g st) g1 q1).mono fun d2 S2 L2 H2 ⟨st2, g2, q2⟩ v2 r2 =>
    ⟨S2, L2, env, g2, (er.step g st).step g1 st2, (AftS.toS ((er.step g st).step g1 st2) g2 q2).mono fun d3 S3 L3 H3 ⟨st3, g3, q3⟩ v3 r3 => ?_⟩⟩⟩
  have er3 := ((er.step g st).step g1 st2).step g2 st3
  have rd : RelD X.K L3 H3 d v := (r.step g1 st2).step g2 st3
  have r2' := r2.step g2 st3
  unfold dstR at q3
  cases d2 with
  | ref n =>
    dsimp only at q3
    simp only [RelD] at r2'
    obtain ⟨a, hn, rfl⟩ := r2'
    split at q3
    · rename_i kvs e
      obtain ⟨vs, e1, e2, e3⟩ := g3.cell n _ a e hn
      split at q3
      · rename_i kk hk
        split at q3
        · rename_i hz
          rw [key_rel hk r3]
          refine ⟨a, _, rfl, .inl (DPut.k e1 (by have := congrArg List.length e2; simp at this; rw [this]; exact small (Nat.le_of_lt hz))), ?_⟩
          obtain ⟨k1, k2⟩ := put_rel kk rd e2 e3
          have m : Mon L3 H3 L3 (upd H3 a (.dK (putK vs kk v))) := ⟨fun _ _ h => h, fun c o eb pb => by
            rw [upd_ne (by intro z; subst z; rw [e1] at eb; cases eb; exact pb)]; exact eb⟩
          obtain ⟨st4, g4⟩ := g3.write (c := .dK (putKD kvs kk d)) (o := .dK (putK vs kk v)) hn ⟨_, upd_same, k1, RelDs.mon m _ _ k2⟩
          exact q3 σ _ _ st4 g4 (er3.step g3 st4)
        · exact q3.elim
      · exact q3.elim
    · rename_i kvs e
      obtain ⟨vs, e1, e2, e3⟩ := g3.cell n _ a e hn
      split at q3
      · rename_i kk hk
        split at q3
        · rename_i hz
          obtain ⟨b, rfl, eb⟩ := keys_rel hk r3
          refine ⟨a, _, rfl, .inl (DPut.t e1 eb (by have := congrArg List.length e2; simp at this; rw [this]; exact small (Nat.le_of_lt hz))), ?_⟩
          obtain ⟨k1, k2⟩ := put_rel kk rd e2 e3
          have m : Mon L3 H3 L3 (upd H3 a (.dT (putK vs kk v))) := ⟨fun _ _ h => h, fun c o eb pb => by
            rw [upd_ne (by intro z; subst z; rw [e1] at eb; cases eb; exact pb)]; exact eb⟩
          obtain ⟨st4, g4⟩ := g3.write (c := .dT (putKD kvs kk d)) (o := .dT (putK vs kk v)) hn ⟨_, upd_same, k1, RelDs.mon m _ _ k2⟩
          exact q3 σ _ _ st4 g4 (er3.step g3 st4)
        · exact q3.elim
      · exact q3.elim
    · rename_i kvs e
      obtain ⟨vs, e1, e2, e3⟩ := g3.cell n _ a e hn
      split at q3
      · rename_i kk hk
        split at q3
        · rename_i hz
          have hu3 : v3 = .bl kk := by
            cases d3 <;> simp only [keyBo, Option.some.injEq] at hk <;> first | (cases hk; done) | skip
            subst hk
            simpa only [RelD] using r3
          refine ⟨a, _, rfl, .inr ⟨vs, kk, e1, hu3, (by have := congrArg List.length e2; simp at this; rw [this]; exact small (Nat.le_of_lt hz)), rfl⟩, ?_⟩
          obtain ⟨k1, k2⟩ := put_rel kk rd e2 e3
          have m : Mon L3 H3 L3 (upd H3 a (DBo a (putK vs kk v))) := ⟨fun _ _ h => h, fun c o eb pb => by
            rw [upd_ne (by intro z; subst z; rw [e1] at eb; cases eb; exact pb)]; exact eb⟩
          obtain ⟨st4, g4⟩ := g3.write (c := .dB (putKD kvs kk d)) (o := DBo a (putK vs kk v)) hn ⟨_, upd_same, k1, RelDs.mon m _ _ k2⟩
          exact q3 σ _ _ st4 g4 (er3.step g3 st4)
        · exact q3.elim
      · exact q3.elim
    · exact q3.elim
  | _ => exact q3.elim
end
end Lt
set_option maxHeartbeats 1000000
namespace Lt
open PySem PySem.Spec PyProof.Rows L2
section
variable {CA : Str → Addr} {G : Cxp} {W : WX} {S S' : Store} {L L1 M2 L' : List Addr} {H H1 H2 H' : Hp} {σ σ' : Sl} {e : Expr}
theorem p_for {X : Cx} {C : MC} (ok : Ok X CA G W C) (hcd : cold C = true) {t : Tg} {it : Lt.It} {b : List Lt.St} {tg i : Expr} {l : List Stmt} {p : Pos} (h0 : notSet i = true) (ht : mT C t tg = true) (hi : PI X tg i (tI X.K CA G W it)) (hb : PSs X l (tB X.K CA G W b)) :
    PS X (.For tg i l [] p) (tS X.K CA G W (.forS t it b)) := by
  refine PS.by_ (ps_for (ok.pass hcd) (ok.calm hcd) hi (g_ok ok ht) hb (set_of h0 X.env)) ?_
  rintro Z σ H ⟨S, L, env, g, er, q⟩
  simp only [exS] at q
  refine ⟨S, L, env, g, er, (AftS.toS er g q).mono fun j S1 L1 H1 ⟨st, g1, q1⟩ J P io p1 => ?_⟩
  have er1 := er.step g st
  let Wf : Nat → Nat → Sl → Hp → Prop := fun i m σ H => ∃ S L e, Good X.K CA S L H ∧ P L H ∧ EnvR X.K G.pin L H e σ ∧ i + m = j.n ∧ AftS X.K CA G.pin W L H (forGo t j (exB G b) m i e S) Z
  refine ⟨Wf, ⟨j.n, S1, L1, env, g1, p1, er1, by omega, q1⟩, ?_⟩
  rintro i m σ Hc ⟨S, L, env, g, p, er, em, q⟩
  cases m with
  | zero =>
    left
    simp only [forGo] at q
    split at q
    · rename_i hf
      have ei : i = j.n := by omega
      subst ei
      exact ⟨io.stop S L Hc g p hf, q σ L Hc Step.refl g er⟩
    · exact q.elim
  | succ k =>
    right
    simp only [forGo] at q
    split at q
    · exact q.elim
    · rename_i d hat
      split at q
      · exact q.elim
      · rename_i e1 hb1
        obtain ⟨hgo, hy⟩ := io.go i S L Hc d g p hat (by omega)
        refine ⟨hgo, Wf (i + 1) k, fun σ' H' w => ⟨k, Nat.lt_succ_self k, w⟩, fun x H' y => ?_⟩
        obtain ⟨st1, g1, rd⟩ := hy x H' y
        refine ⟨S, L, env, d, e1, g1, er.step g st1, rd, hb1, fun σ2 er2 so => ⟨S, L, e1, g1, er2, ?_⟩⟩
        have pm : ∀ {L2 : List Addr} {H2 : Hp}, Step L H' L2 H2 → P L2 H2 := fun {L2 H2} s2 => io.mon _ _ _ _ (io.mon _ _ _ _ p (st1.mon g)) (s2.mon g1)
        cases hr : exB G b e1 S with
        | nx e2 S2 =>
          rw [hr] at q
          exact fun σ' L2 H2 s2 g2 er3 => ⟨S2, L2, e2, g2, pm s2, er3, by omega, AftS.from (st1.trans s2) q⟩
        | brk e2 S2 =>
          rw [hr] at q
          exact fun σ' L2 H2 s2 g2 er3 => q σ' L2 H2 (st1.trans s2) g2 er3
        | ret d2 S2 =>
          rw [hr] at q
          exact fun v L2 H2 s2 g2 r => q v L2 H2 (st1.trans s2) g2 r
        | exc c e2 S2 =>
          rw [hr] at q
          exact fun σ' cls dd L2 H2 s2 g2 er3 x => q σ' cls dd L2 H2 (st1.trans s2) g2 er3 x
        | bad =>
          rw [hr] at q
          exact q
theorem p_whl {X : Cx} {C : MC} (ok : Ok X CA G W C) (hcd : cold C = true) {c : Ex} {b : List Lt.St} {t : Expr} {l : List Stmt} {p : Pos} (hc : PT X t (tT X.K CA G W c)) (hb : PSs X l (tB X.K CA G W b)) : PS X (.While t l [] p) (tS X.K CA G W (.whl c b)) := by
  refine PS.by_ (ps_while (ok.pass hcd) hc hb) ?_
  rintro Z σ H ⟨S, L, env, g, er, q⟩
  simp only [exS] at q
  let Wf : Nat → Sl → Hp → Prop := fun m σ H => ∃ S L e, Good X.K CA S L H ∧ EnvR X.K G.pin L H e σ ∧ AftS X.K CA G.pin W L H (whGo (ev G c) (exB G b) m e S) Z
  refine ⟨Wf, ⟨G.fuel, S, L, env, g, er, q⟩, ?_⟩
  rintro m σ Hc ⟨S, L, env, g, er, q⟩
  cases m with
  | zero => exact q.elim
  | succ k =>
    simp only [whGo] at q
    refine ⟨S, L, env, g, er, (AftS.toS er g q).mono fun d S1 L1 H1 ⟨st, g1, q1⟩ => ?_⟩
    split at q1
    · refine ⟨true, rfl, iteT ⟨Wf k, fun σ' H' w => ⟨k, Nat.lt_succ_self k, w⟩, S1, L1, env, g1, er.step g st, ?_⟩⟩
      cases hr : exB G b env S1 with
      | nx e2 S2 =>
        rw [hr] at q1
        exact fun σ' L2 H2 s2 g2 er3 => ⟨S2, L2, e2, g2, er3, AftS.from s2 q1⟩
      | brk e2 S2 => rw [hr] at q1; exact q1
      | ret d2 S2 => rw [hr] at q1; exact q1
      | exc c e2 S2 => rw [hr] at q1; exact q1
      | bad => rw [hr] at q1; exact q1
    · exact ⟨false, rfl, iteF (q1 σ L1 H1 Step.refl g1 (er.step g st))⟩
    · exact q1.elim
theorem mB_cons {C : MC} {x : Lt.St} {xs : List Lt.St} {ss : List Stmt} (h : mB (x :: xs) C ss = true) : ∃ s r, ss = s :: r ∧ mS x C s = true ∧ mB xs C r = true := by
  cases ss with
  | nil => simp only [mB] at h; cases h
  | cons s r =>
    simp only [mB, Bool.and_eq_true] at h
    exact ⟨s, r, rfl, h.1, h.2⟩
theorem mB_nil {C : MC} {ss : List Stmt} (h : mB [] C ss = true) : ss = [] := by
  cases ss with
  | nil => rfl
  | cons e r => simp only [mB] at h; cases h
mutual
theorem sK : ∀ (x : Ex) {X : Cx} {W : WX} {e : Expr}, kE x e = true → PE X e (tE X.K CA G W x)
  | .int i, X, W, e, h => by
    simp only [kE] at h
    obtain ⟨j, k, p, rfl, h⟩ := mInt_inv i h
    have h := of_decide_eq_true h
    subst h
    exact PE.by_ pe_int fun σ H Q ⟨S, L, env, g, er, q⟩ => Aft.int g (by simpa only [ev] using q)
  | .str s, X, W, e, h => by
    simp only [kE] at h
    obtain ⟨j, k, p, rfl, h⟩ := mStr_inv s h
    have h := of_decide_eq_true h
    subst h
    exact PE.by_ pe_str fun σ H Q ⟨S, L, env, g, er, q⟩ => Aft.now g (by simpa only [ev] using q) (by simp [RelD])
  | .bl b, X, W, e, h => by
    simp only [kE] at h
    obtain ⟨j, k, p, rfl, h⟩ := mBl_inv b h
    have h := of_decide_eq_true h
    subst h
    exact PE.by_ pe_bl fun σ H Q ⟨S, L, env, g, er, q⟩ => Aft.bl g (by simpa only [ev] using q)
  | .non, X, W, e, h => by
    simp only [kE] at h
    obtain ⟨k, p, rfl, _⟩ := mNon_inv h
    exact PE.by_ pe_non fun σ H Q ⟨S, L, env, g, er, q⟩ => Aft.now g (by simpa only [ev] using q) (by simp [RelD])
  | .tup es, X, W, e, h => by
    simp only [kE] at h
    obtain ⟨xs, k, p, rfl, h⟩ := mTup_inv _ h
    obtain ⟨h1, h2⟩ := ba h
    exact s_tup (sKs es h2) (of_decide_eq_true h1)
  | .lst es, X, W, e, h => by
    simp only [kE] at h
    obtain ⟨xs, p, rfl, h⟩ := mLst_inv _ h
    obtain ⟨h1, h2⟩ := ba h
    exact s_lst (sKs es h2) (of_decide_eq_true h1)
  | .var _, _, _, _, h => by simp only [kE] at h; cases h
  | .glo _, _, _, _, h => by simp only [kE] at h; cases h
  | .bin _ _ _, _, _, _, h => by simp only [kE] at h; cases h
  | .neg _, _, _, _, h => by simp only [kE] at h; cases h
  | .not _, _, _, _, h => by simp only [kE] at h; cases h
  | .and _ _, _, _, _, h => by simp only [kE] at h; cases h
  | .or _ _, _, _, _, h => by simp only [kE] at h; cases h
  | .cmp _ _ _, _, _, _, h => by simp only [kE] at h; cases h
  | .chn _ _ _ _ _, _, _, _, h => by simp only [kE] at h; cases h
  | .isN _, _, _, _, h => by simp only [kE] at h; cases h
  | .ntN _, _, _, _, h => by simp only [kE] at h; cases h
  | .ife _ _ _, _, _, _, h => by simp only [kE] at h; cases h
  | .idx _ _, _, _, _, h => by simp only [kE] at h; cases h
  | .slT _ _, _, _, _, h => by simp only [kE] at h; cases h
  | .slF _ _, _, _, _, h => by simp only [kE] at h; cases h
  | .slB _ _ _, _, _, _, h => by simp only [kE] at h; cases h
  | .rev _, _, _, _, h => by simp only [kE] at h; cases h
  | .call _ _, _, _, _, h => by simp only [kE] at h; cases h
  | .bi _ _, _, _, _, h => by simp only [kE] at h; cases h
  | .isI _ _, _, _, _, h => by simp only [kE] at h; cases h
  | .app _ _, _, _, _, h => by simp only [kE] at h; cases h
  | .ext _ _, _, _, _, h => by simp only [kE] at h; cases h
  | .clr _, _, _, _, h => by simp only [kE] at h; cases h
  | .isB _ _, _, _, _, h => by simp only [kE] at h; cases h
  | .chn4 _ _ _ _ _ _ _, _, _, _, h => by simp only [kE] at h; cases h
  | .any, _, _, _, h => by simp only [kE] at h; cases h
  | .chn5 _ _ _ _ _ _ _ _ _, _, _, _, h => by simp only [kE] at h; cases h
  | .ntB _ _, _, _, _, h => by simp only [kE] at h; cases h
  | .dic _, _, _, _, h => by simp only [kE] at h; cases h
  | .dcb, _, _, _, h => by simp only [kE] at h; cases h
  | .dgt _ _, _, _, _, h => by simp only [kE] at h; cases h
  | .din _ _ _, _, _, _, h => by simp only [kE] at h; cases h
  | .get1 _ _, _, _, _, h => by simp only [kE] at h; cases h
  | .get2 _ _ _, _, _, _, h => by simp only [kE] at h; cases h
  | .dpop _ _, _, _, _, h => by simp only [kE] at h; cases h
  | .ixo _ _, _, _, _, h => by simp only [kE] at h; cases h
  | .ins _ _ _, _, _, _, h => by simp only [kE] at h; cases h
  | .pop0 _, _, _, _, h => by simp only [kE] at h; cases h
  | .pop1 _ _, _, _, _, h => by simp only [kE] at h; cases h
  | .fld _ _ _, _, _, _, h => by simp only [kE] at h; cases h
  | .mth _ _ _ _ _, _, _, _, h => by simp only [kE] at h; cases h
  | .mk _ _ _, _, _, _, h => by simp only [kE] at h; cases h
  | .xis _ _, _, _, _, h => by simp only [kE] at h; cases h
  | .xat _, _, _, _, h => by simp only [kE] at h; cases h
  | .xcl _ _, _, _, _, h => by simp only [kE] at h; cases h
  | .dsp _, _, _, _, h => by simp only [kE] at h; cases h
  | .lrg _, _, _, _, h => by simp only [kE] at h; cases h
  | .op2 _ _ _, _, _, _, h => by simp only [kE] at h; cases h
  | .upp _, _, _, _, h => by simp only [kE] at h; cases h
  | .idS _ _, _, _, _, h => by simp only [kE] at h; cases h
  | .lsd _, _, _, _, h => by simp only [kE] at h; cases h
  | .gget _ _, _, _, _, h => by simp only [kE] at h; cases h
  | .callK _ _ _, _, _, _, h => by simp only [kE] at h; cases h
  | .lc _ _ _ _, _, _, _, h => by simp only [kE] at h; cases h
  | .lcI _ _ _ _ _, _, _, _, h => by simp only [kE] at h; cases h
theorem sKs : ∀ (xs : List Ex) {X : Cx} {W : WX} {es : List Expr}, kEs xs es = true → PA X es (tEs X.K CA G W xs)
  | [], X, W, es, h => by
    simp only [kEs] at h
    rw [List.isEmpty_iff.mp h]
    exact s_nil
  | x :: xs, X, W, es, h => by
    cases es with
    | nil => simp only [kEs] at h; cases h
    | cons e r =>
      simp only [kEs, Bool.and_eq_true] at h
      obtain ⟨⟨h1, h2⟩, h3⟩ := h
      exact s_cons (sK x h2) (sKs xs h3) (star_of h1 r X.env)
end
theorem Ok.suite {X : Cx} {C : MC} (ok : Ok X CA G W C) (i : Nat) (a : Addr) (oe : Obj) (pn : List (Addr × Obj)) (c : Exc) (o : Option (Addr × D)) (hz : Zc (.ref (CA c.cls)) (o.map (·.1)) oe) (hf : ∃ vs, oe.data = .fields vs) (hat : c.at_ = o.map (·.2)) :
    Ok (X.suite a ((a, oe) :: pn)) CA ⟨{ G.toCxt with exc := some c }, some (i, a, o)⟩ W0 (C.suite i) where
  cal := fun h => by cases h
  nm := ok.nm
  nd := ok.nd
  sc := ok.sc
  kind := ok.kind
  tk := takesM0
  gdo := ok.gdo
  pah := fun h => by cases h
  xoh := fun x h => by cases h
  un := ok.un
  pas := fun h => by cases h
  free := ok.free
  fn := fun h => by cases h
  glo := ok.glo
  call := fun f n h => by cases h
  callK := fun f n y h => by cases h
  fl := fun y f h => by cases h
  ms := fun y m key n h => by cases h
  mks := fun y key n h => by cases h
  xc := fun x h => by cases h
  sb := ok.sb
  fr := fun h => by cases h
  stk := fun h => by cases h
  xo := fun x h => by cases h
  xi := ok.xi
  xf := ok.xf
  tc := fun h => by cases h
  xsc := fun x h => by cases h
  xoc := fun x h => by cases h
  hot := rfl
  xcq := fun f h => by
    obtain ⟨af, fd, ps, kk, sp, F, hr, r⟩ := ok.xcq f h
    exact ⟨af, fd, ps, kk, sp, F, ⟨hr.dp, hr.un⟩, r⟩
  hotx := fun j b o' h => by
    cases h
    exact ⟨X, oe, pn, c, rfl, hz, hf, rfl, hat⟩
theorem Ok.tr {X : Cx} {C : MC} (ok : Ok X CA G W C) {W' : WX} (hc0 : C.hs = none) (hn : (!C.nar) = true) (pn : List (Addr × Obj)) (xe : Value → Shared → Prop) (tk : Takes (X.tr pn xe) W') (pa : PassesOwn (model X.prog X.w) X.A X.env xe) : Ok (X.tr pn xe) CA G W' C.tr where
  cal := ok.cal
  nm := ok.nm
  nd := ok.nd
  sc := ok.sc
  kind := ok.kind
  tk := by
    rw [show C.tr.nar = false by show C.nar = false; simpa using hn]
    exact tk
  gdo := ok.gdo
  pah := fun h => by cases h
  xoh := ok.xoh
  un := ok.un
  pas := fun _ => pa
  free := ok.free
  fn := ok.fn
  glo := ok.glo
  call := ok.call
  callK := ok.callK
  fl := ok.fl
  ms := ok.ms
  mks := ok.mks
  xc := ok.xc
  sb := ok.sb
  fr := ok.fr
  stk := ok.stk
  xo := ok.xo
  xi := ok.xi
  xf := ok.xf
  tc := ok.tc
  xsc := ok.xsc
  xoc := ok.xoc
  hot := ok.hot
  xcq := ok.xcq
  hotx := fun i a o h => by
    have e := ok.hot
    rw [hc0, h] at e; cases e
theorem p_stf {X : Cx} {C : MC} (ok : Ok X CA G W C) {o x : Ex} {y f : Str} {l v : Expr} {p p2 : Pos} (h1 : C.fl y f = true) (ho : mE o C l = true) (hx : mE x C v = true) : PS X (.Assign [.Attribute l f p2] v p) (tS X.K CA G W (.stf o y f x)) := by
  obtain ⟨cl, na⟩ := ok.fl y f h1
  have sw : swapsWithSole [.Attribute l f p2] v p.line X.env = pure false := by
    cases hl : notLc v with
    | true => exact sw_of hl hx (some (.Attribute l f p2)) p.line X.env
    | false =>
      cases v with
      | ListComp _ _ _ _ => rfl
      | _ => cases hl
  refine PS.by_ (ps_fld (sE o ok ho).1 (sE x ok hx).1 sw) ?_
  rintro Z σ H ⟨S, L, env, g, er, q⟩
  simp only [exS] at q
  refine ⟨S, L, env, g, er, (AftS.toS er g q).mono fun d S1 L1 H1 ⟨st, g1, q1⟩ v1 r1 => ?_⟩
  have er1 := er.step g st
  refine ⟨S1, L1, env, g1, er1, (AftS.toS er1 g1 q1).mono fun d2 S2 L2 H2 ⟨st2, g2, q2⟩ v2 r2 => ?_⟩
  have er2 := er1.step g1 st2
  unfold stfR at q2
  split at q2
  · split at q2
    · rename_i n _ y' fs hi
      split at q2
      · rename_i hy
        obtain ⟨hy, hlen⟩ := hy
        subst hy
        simp only [RelD] at r2
        obtain ⟨b, hb, rfl⟩ := r2
        obtain ⟨dx, gs, e1, e2, e3, r3⟩ := getI_rel g2 hi hb
        have hgl : gs.length < 1000 := by
          have := congrArg List.length e3
          simp at this
          omega
        refine ⟨b, _, dx, gs, rfl, e1, cl, na, hgl, ?_⟩
        obtain ⟨k1, k2⟩ := flds_put (X := X) f e3 r3 (r1.step g1 st2)
        have m : Mon L2 H2 L2 (upd H2 b (.ins (CA y') dx (putF f v1 gs))) := ⟨fun _ _ h => h, fun c o ec pc => by
          rw [upd_ne (by intro z; subst z; rw [e1] at ec; cases ec; exact pc)]; exact ec⟩
        have hdb : dx ≠ b := fun z => by rw [z, e1] at e2; cases e2
        obtain ⟨st3, g3⟩ := g2.write (c := .ins y' (putD f d fs)) (o := .ins (CA y') dx (putF f v1 gs)) hb ⟨dx, _, upd_same, by rw [upd_ne hdb]; exact e2, k1, RelDs.mon m _ _ k2⟩
        exact q2 σ L2 _ st3 g3 (er2.step g2 st3)
      · exact q2.elim
    · exact q2.elim
  · exact q2.elim
/-- within the body of a try whose suite raises -/
theorem Ok.trn {X : Cx} {C : MC} (ok : Ok X CA G W C) {W' : WX} (hc0 : C.hs = none) (pn : List (Addr × Obj)) (xe : Value → Shared → Prop) (tk : L2N.Takes (X.tr pn xe) W') (pa : PassesOwn (model X.prog X.w) X.A X.env xe) : Ok (X.tr pn xe) CA G W' C.trn where
  cal := ok.cal
  nm := ok.nm
  nd := ok.nd
  sc := ok.sc
  kind := ok.kind
  tk := tk
  gdo := ok.gdo
  pah := fun h => by cases h
  xoh := fun x h => by cases h
  un := ok.un
  pas := fun _ => pa
  free := ok.free
  fn := ok.fn
  glo := ok.glo
  call := ok.call
  callK := fun f n y h => by cases h
  fl := ok.fl
  ms := fun y m key n h => by cases h
  mks := fun y key n h => by cases h
  xc := ok.xc
  sb := ok.sb
  fr := ok.fr
  stk := ok.stk
  xo := fun x h => by cases h
  xi := ok.xi
  xf := ok.xf
  tc := ok.tc
  xsc := ok.xsc
  xoc := fun x h => by cases h
  hot := ok.hot
  xcq := ok.xcq
  hotx := fun i a o h => by
    have e := ok.hot
    rw [hc0, h] at e; cases e
/-- raise, where nothing is handled -/
theorem ps_raiM {X : Cx} {n : Bool} {bm : List Value} {B newId initId : String} {Cl : Addr} {x m : Str} {j : Nat} {p p2 pos pos' : Pos} (hc : X.calm = true) (tk : TakesM n X W) (F : ExcBaseFacts B newId initId bm) (q : PySem.W.excIn X.K Cl bm newId = true) (gC : X.mg x = some (.ref Cl)) (kC : PySem.W.keepIn X.K (.ref Cl) = true) (r : Raises X (.ref Cl)) (hg : Gl X x) (hdb : (x == ("__debug__" : Str)) = false) :
    PS X (.Raise (some (.Call (.Name x p) [.Constant (.str m) j p2] [] pos)) none pos') (fun _ σ H => W (.ref Cl) none σ H) := by
  cases n with
  | true => exact L2N.ps_raise hc tk.n (L2N.pmk_own F q gC kC r hg hdb)
  | false => exact ps_raise hc tk.w (pmk_own F q gC kC r hg hdb)
theorem p_rai {X : Cx} {C : MC} (ok : Ok X CA G W C) {y m : Str} {q p2 p3 p : Pos} {j : Nat} (h1 : gloB C.sc y = true) (h2 : nmOk y = true) (h3 : C.xs y = true) :
    PS X (.Raise (some (.Call (.Name y q) [.Constant (.str m) j p2] [] p3)) none p) (tS X.K CA G W (.rai y)) := by
  obtain ⟨x1, x2, x3, x4⟩ := ok.xc y h3
  refine PS.by_ (ps_raiM (ok.cal (ok.xsc _ h3)) ok.tk PySem.F.excBase_ValueError x2 x1 x3 x4 (gl_of ok h1) (nm_of h2).1) ?_
  rintro Z σ H ⟨S, L, env, g, er, q⟩
  simp only [exS] at q
  exact q σ _ none L H Step.refl g er ⟨rfl, rfl⟩
theorem p_try {X : Cx} {C : MC} {b : List Lt.St} (ok : Ok X CA G W C) (hb0 : ∀ {X : Cx} {W : WX} {C : MC} (ok : Ok X CA G W C) {ss : List Stmt}, mB b C ss = true → PSs X ss (tB X.K CA G W b)) {y : Str} {a : Ex} {ss : List Stmt} {v : Expr} {np rp p2 p : Pos} (ht : C.top = true) (h1 : gloB C.sc y = true) (h2 : nmOk y = true) (h3 : C.xs y = true) (hn : (!C.nar) = true) (hb : mB b C.tr ss = true) (hv : kE a v = true) :
    PS X (.Try ss [.ExceptHandler (some (.Name y np)) none [.Return (some v) rp] p2] [] [] p) (tS X.K CA G W (.tryC b y a)) := by
  obtain ⟨x1, _, _, _⟩ := ok.xc y h3
  refine PS.by_ (ps_try_only (c := .ref (CA y)) (tb := fun W' => tB X.K CA G W' b) (ts := fun _ _ _ => tB X.K CA G W0 [.ret a]) (Wout := W) (ok.stk ht) (ok.fr ht) ⟨gl_of ok h1, (nm_of h2).1, .inl x1⟩ (ok.tkw hn) (fun W' pn xe tk pa => hb0 (ok.tr (ok.tc ht) hn pn xe tk pa) hb) fun a' oe cls d pn hz hf => ?_) ?_
  · refine PSs.by_ (pss_cons (ps_ret (sK (X := X.suite a' ((a', oe) :: pn)) (W := W0) (G := G) (CA := CA) a hv)) pss_nil) ?_
    rintro Z σ H ⟨S, L, env, g, er, q⟩
    simp only [exB, exS] at q
    refine ⟨S, L, env, g, er, ?_⟩
    cases hr : ev G a env S with
    | ok d S1 =>
      rw [hr] at q
      exact fun L1 H1 st g1 v r => q v L1 H1 st g1 r
    | exc c S1 =>
      rw [hr] at q
      exact fun cls' dd L1 H1 st g1 x => q σ cls' dd L1 H1 st g1 (er.step g st) x
    | bad => rw [hr] at q; exact q
  · rintro Z σ H ⟨S, L, env, g, er, q⟩
    simp only [exS] at q
    refine ⟨S, L, env, g, er, ?_⟩
    cases hr : exB G b env S with
    | nx e2 S2 => rw [hr] at q; exact q
    | ret d S2 => rw [hr] at q; exact q
    | brk e2 S2 => rw [hr] at q; exact q
    | bad => rw [hr] at q; exact q
    | exc c e2 S2 =>
      rw [hr] at q
      simp only at q
      intro σ' cls dd L' H' st g' er' x
      cases hs : G.sub c.cls y with
      | none => rw [hs] at q; exact q.elim
      | some bb =>
        rw [hs] at q
        refine ⟨bb, ?_, fun hbt a' ha' => ?_, fun hbf => ?_⟩
        · rw [x.1]; exact ok.sb _ _ _ hs
        · subst hbt
          simp only at q
          refine ⟨S2, L', e2, g', er', ?_⟩
          simp only [exB, exS]
          cases hv2 : ev G a e2 S2 with
          | ok d S3 =>
            rw [hv2] at q
            exact fun v L2 H2 st2 g2 r => q v L2 H2 (st.trans st2) g2 r
          | exc c S3 => rw [hv2] at q; exact q.elim
          | bad => rw [hv2] at q; exact q.elim
        · subst hbf
          exact q σ' cls dd L' H' st g' er' x
theorem p_raiA {X : Cx} {C : MC} (ok : Ok X CA G W C) {y : Str} {x : Ex} {a : Expr} {q p3 p : Pos} (h1 : gloB C.sc y = true) (h2 : nmOk y = true) (h3 : C.xo y = true) (hn : (!C.nar) = true) (h4 : notSt a = true) (ha : mE x C a = true) :
    PS X (.Raise (some (.Call (.Name y q) [a] [] p3)) none p) (tS X.K CA G W (.raiA y x)) := by
  obtain ⟨fI, k, fd, ps, sp, T, iC, tI, F, hr, hb, hm, hsp⟩ := ok.xo y h3
  refine PS.by_ (ps_raise (ok.cal (ok.xoc _ h3)) (ok.tkw hn) (pmk_oex (dvs := []) T iC tI F hr hb .nil (fun pins σ H s e s' I hc => ?_) (gl_of ok h1) hm (pa_cons (sE x ok ha).1 pa_nil (star_of h4 [] X.env)) (nm_of h2).1 (star_of h4 [] X.env) rfl)) ?_
  · obtain ⟨_, _, _, _, _, _, _, _, _, _, _, _, z⟩ := hc
    exact z.elim
  rintro Z σ H ⟨S, L, env, g, er, q⟩
  simp only [exS] at q
  refine ⟨S, L, env, g, er, (AftS.toS er g q).mono fun d S1 L1 H1 ⟨st, g1, q1⟩ v r => ⟨by simp, fun b hb1 => ?_⟩⟩
  refine hsp b v _ _ _ upd_same fun dx H' hdx hne he => ?_
  subst he
  have hdx1 : H1 dx = none := by rw [upd_ne hne] at hdx; exact hdx
  refine ⟨rfl, dx, _, upd_same, by rw [upd_ne hne]; exact upd_same, hdx1, ?_⟩
  have eH : upd (del (upd (upd (upd H1 b (exo b (CA y) none)) dx (exd dx [("at", v)])) b (exo b (CA y) (some dx))) b) dx (.xd [("at", v)]) = upd H1 dx (.xd [("at", v)]) := by
    funext z
    by_cases z1 : z = dx
    · subst z1; rw [upd_same, upd_same]
    · rw [upd_ne z1, upd_ne z1]
      by_cases z2 : z = b
      · subst z2; rw [del_same, hb1]
      · rw [del_ne z2, upd_ne z2, upd_ne z1, upd_ne z2]
  rw [eH]
  obtain ⟨st2, g2⟩ := g1.side (o := .xd [("at", v)]) hdx1
  exact q1 σ _ _ _ _ st2 g2 ((er.step g st).step g1 st2) ⟨rfl, dx, v, rfl, upd_same, r.step g1 st2⟩
theorem suite_key {X : Cx} {su : List Lt.St} {i : Nat} {c : Exc} {e2 : Lt.Env} {S2 : Store} {cls : Value} {dd : Option Addr} {Z : Ends} (hnop : G.pin = none) (hi : i < e2.length) (st : Step L H L' H') (g' : Good X.K CA S2 L' H') (er' : EnvR X.K G.pin L' H' e2 σ') (x : ExR X.K CA L' H' c cls dd)
    (q : AftS X.K CA G.pin W L H (suR i (exB { G.toCxt with exc := some c } su (e2.set i none) S2)) Z) (a' : Addr) : ∃ (c : Exc) (o : Option (Addr × D)), cls = .ref (CA c.cls) ∧ dd = o.map (·.1) ∧ c.at_ = o.map (·.2) ∧ tB X.K CA ⟨{ G.toCxt with exc := some c }, some (i, a', o)⟩ W0 su { nx := fun σ' H' => Z.nx (σ'.set i none) H', rt := Z.rt, bk := fun σ' H' => Z.bk (σ'.set i none) H', ct := fun σ' H' => Z.ct (σ'.set i none) H' } (σ'.set i (some (.ref a'))) H' := by
  have hl := er'.len
  have key : ∀ o : Option (Addr × D), (∀ x d, o = some (x, d) → ∃ v, H' x = some (.xd [("at", v)]) ∧ RelD X.K L' H' d v) → tB X.K CA ⟨{ G.toCxt with exc := some c }, some (i, a', o)⟩ W0 su { nx := fun σ' H' => Z.nx (σ'.set i none) H', rt := Z.rt, bk := fun σ' H' => Z.bk (σ'.set i none) H', ct := fun σ' H' => Z.ct (σ'.set i none) H' } (σ'.set i (some (.ref a'))) H' := by
    intro o ho
    refine ⟨S2, L', e2.set i none, g', ⟨by simp [hl], fun j d hj => ?_, fun j b o' he => ?_⟩, ?_⟩
    · by_cases hij : j = i
      · subst hij
        rw [List.getElem?_set_self hi] at hj; cases hj
      · rw [List.getElem?_set_ne (Ne.symm hij)] at hj
        obtain ⟨v, e1, r1⟩ := er'.has j d hj
        exact ⟨v, by rw [List.getElem?_set_ne (Ne.symm hij)]; exact e1, r1⟩
    · cases he
      exact ⟨List.getElem?_set_self (by rw [← hl]; exact hi), List.getElem?_set_self hi, ho⟩
    · have gone : ∀ {e3 : Lt.Env} {σ3 : Sl} {L3 : List Addr} {H3 : Hp}, EnvR X.K (some (i, a', o)) L3 H3 e3 σ3 → EnvR X.K G.pin L3 H3 (e3.set i none) (σ3.set i none) := by
        intro e3 σ3 L3 H3 er3
        refine ⟨by simp [er3.len], fun j d hj => ?_, fun j b o' he => by rw [hnop] at he; cases he⟩
        by_cases hij : j = i
        · subst hij
          by_cases hlt : j < e3.length
          · rw [List.getElem?_set_self hlt] at hj; cases hj
          · rw [List.getElem?_eq_none (by simpa using hlt)] at hj; cases hj
        · rw [List.getElem?_set_ne (Ne.symm hij)] at hj
          obtain ⟨v, e1, r1⟩ := er3.has j d hj
          exact ⟨v, by rw [List.getElem?_set_ne (Ne.symm hij)]; exact e1, r1⟩
      revert q
      show AftS X.K CA G.pin W L H (suR i (exB { G.toCxt with exc := some c } su (e2.set i none) S2)) Z → AftS X.K CA _ W0 L' H' (exB { G.toCxt with exc := some c } su (e2.set i none) S2) _
      cases exB { G.toCxt with exc := some c } su (e2.set i none) S2 with
      | nx e3 S3 => exact fun q σ3 L3 H3 st3 g3 er3 => q _ L3 H3 (st.trans st3) g3 (gone er3)
      | ret d S3 => exact fun q v L3 H3 st3 g3 r => q v L3 H3 (st.trans st3) g3 r
      | brk e3 S3 => exact fun q σ3 L3 H3 st3 g3 er3 => q _ L3 H3 (st.trans st3) g3 (gone er3)
      | exc c3 e3 S3 => exact fun q => q.elim
      | bad => exact fun q => q.elim
  obtain ⟨x1', x2⟩ := x
  cases hat : c.at_ with
  | none =>
    rw [hat] at x2
    exact ⟨c, none, x1', x2, hat, key none fun x d h => by cases h⟩
  | some d =>
    rw [hat] at x2
    obtain ⟨xd, v, e1, e2', r⟩ := x2
    exact ⟨c, some (xd, d), x1', e1, hat, key _ fun x' d' h => by cases h; exact ⟨v, e2', r⟩⟩
theorem p_tryA {X : Cx} {C : MC} {b su : List Lt.St} (ok : Ok X CA G W C) (hb0 : ∀ {X : Cx} {W : WX} {C : MC} (ok : Ok X CA G W C) {ss : List Stmt}, mB b C ss = true → PSs X ss (tB X.K CA G W b)) (hs0 : ∀ {X : Cx} {G : Cxp} {W : WX} {C : MC} (ok : Ok X CA G W C) {ss : List Stmt}, mB su C ss = true → PSs X ss (tB X.K CA G W su))
    {y n : Str} {i : Nat} {ss : List Stmt} {b0 : Stmt} {sus : List Stmt} {np p2 p : Pos} (ht : C.top = true) (h1 : gloB C.sc y = true) (h2 : nmOk y = true) (h3 : (C.xs y || C.xo y) = true) (h4 : slotB C i n = true) (h5 : locB C.sc n = true) (hn : (!C.nar) = true) (hb : mB b C.tr ss = true) (hsu : mB su (C.suite i) (b0 :: sus) = true) :
    PS X (.Try ss [.ExceptHandler (some (.Name y np)) (some n) (b0 :: sus) p2] [] [] p) (tS X.K CA G W (.tryA b y i su)) := by
  have x1 : X.mg y = some (.ref (CA y)) := by
    rw [Bool.or_eq_true] at h3
    rcases h3 with h3 | h3
    · exact (ok.xc y h3).1
    · obtain ⟨_, _, _, _, _, _, _, _, _, _, _, hm, _⟩ := ok.xo y h3
      exact hm
  have hnop : G.pin = none := by
    have e := ok.hot
    rw [ok.tc ht] at e
    exact Option.map_eq_none_iff.mp e.symm
  refine PS.by_ (ps_try_as (c := .ref (CA y)) (i := i) (tb := fun W' => tB X.K CA G W' b) (ts := fun a cls d Z σ H => ∃ (c : Exc) (o : Option (Addr × D)), cls = .ref (CA c.cls) ∧ d = o.map (·.1) ∧ c.at_ = o.map (·.2) ∧ tB X.K CA ⟨{ G.toCxt with exc := some c }, some (i, a, o)⟩ W0 su Z σ H) (Wout := W)
    (ok.stk ht) (ok.fr ht) (by rw [ok.nm]; exact ok.nd) (by rw [ok.nm]; exact slot_of h4) (by show X.env.scope.names.lookup n = _; rw [ok.sc]; exact loc_of h5) ⟨gl_of ok h1, (nm_of h2).1, .inl x1⟩ (ok.tkw hn) (fun W' pn xe tk pa => hb0 (ok.tr (ok.tc ht) hn pn xe tk pa) hb) fun a' oe cls d pn hz hf => ?_) ?_
  · refine ⟨fun pins s σ H D I q => ?_⟩
    obtain ⟨c, o, rfl, rfl, hat, q⟩ := q
    exact (hs0 (ok.suite i a' oe pn c o hz hf hat) hsu).run pins s σ H D I q
  · rintro Z σ H ⟨S, L, env, g, er, q⟩
    simp only [exS] at q
    refine ⟨S, L, env, g, er, ?_⟩
    cases hr : exB G b env S with
    | nx e2 S2 => rw [hr] at q; exact q
    | ret d S2 => rw [hr] at q; exact q
    | brk e2 S2 => rw [hr] at q; exact q
    | bad => rw [hr] at q; exact q
    | exc c e2 S2 =>
      rw [hr] at q
      simp only at q
      intro σ' cls dd L' H' st g' er' x
      cases hs : G.sub c.cls y with
      | none => rw [hs] at q; exact q.elim
      | some bb =>
        rw [hs] at q
        refine ⟨bb, ?_, fun hbt a' ha' => ?_, fun hbf => ?_⟩
        · rw [x.1]; exact ok.sb _ _ _ hs
        · subst hbt
          simp only at q
          split at q
          · rename_i hi
            exact suite_key hnop hi st g' er' x q a'
          · exact q.elim
        · subst hbf
          exact q σ' cls dd L' H' st g' er' x
theorem p_try2 {X : Cx} {C : MC} {b su su2 : List Lt.St} (ok : Ok X CA G W C) (hb0 : ∀ {X : Cx} {W : WX} {C : MC} (ok : Ok X CA G W C) {ss : List Stmt}, mB b C ss = true → PSs X ss (tB X.K CA G W b)) (hs0 : ∀ {X : Cx} {G : Cxp} {W : WX} {C : MC} (ok : Ok X CA G W C) {ss : List Stmt}, mB su C ss = true → PSs X ss (tB X.K CA G W su))
    (hs02 : ∀ {X : Cx} {G : Cxp} {W : WX} {C : MC} (ok : Ok X CA G W C) {ss : List Stmt}, mB su2 C ss = true → PSs X ss (tB X.K CA G W su2))
    {y n y2 n2 : Str} {i i2 : Nat} {ss : List Stmt} {b0 b02 : Stmt} {sus sus2 : List Stmt} {np p2 np2 p3 p : Pos} (ht : C.top = true) (h1 : gloB C.sc y = true) (h2 : nmOk y = true) (h3 : (C.xs y || C.xo y) = true) (h4 : slotB C i n = true) (h5 : locB C.sc n = true)
    (k1 : gloB C.sc y2 = true) (k2 : nmOk y2 = true) (k3 : (C.xs y2 || C.xo y2) = true) (k4 : slotB C i2 n2 = true) (k5 : locB C.sc n2 = true) (hn : (!C.nar) = true) (hb : mB b C.tr ss = true) (hsu : mB su (C.suite i) (b0 :: sus) = true) (hsu2 : mB su2 (C.suite i2) (b02 :: sus2) = true) :
    PS X (.Try ss [.ExceptHandler (some (.Name y np)) (some n) (b0 :: sus) p2, .ExceptHandler (some (.Name y2 np2)) (some n2) (b02 :: sus2) p3] [] [] p) (tS X.K CA G W (.try2 b y i su y2 i2 su2)) := by
  have glob : ∀ z, (C.xs z || C.xo z) = true → X.mg z = some (.ref (CA z)) := fun z h => by
    rw [Bool.or_eq_true] at h
    rcases h with h | h
    · exact (ok.xc z h).1
    · obtain ⟨_, _, _, _, _, _, _, _, _, _, _, hm, _⟩ := ok.xo z h
      exact hm
  have hnop : G.pin = none := by
    have e := ok.hot
    rw [ok.tc ht] at e
    exact Option.map_eq_none_iff.mp e.symm
  have suit : ∀ {z : Str} {i : Nat} {su : List Lt.St} {b0 : Stmt} {sus : List Stmt} (hs0 : ∀ {X : Cx} {G : Cxp} {W : WX} {C : MC} (ok : Ok X CA G W C) {ss : List Stmt}, mB su C ss = true → PSs X ss (tB X.K CA G W su)), mB su (C.suite i) (b0 :: sus) = true → ∀ (a : Addr) (oe : Obj) (cls : Value) (d : Option Addr) (pn : List (Addr × Obj)), Zc cls d oe → (∃ vs, oe.data = .fields vs) → PSs (X.suite a ((a, oe) :: pn)) (b0 :: sus) (fun Z σ H => ∃ (c : Exc) (o : Option (Addr × D)), cls = .ref (CA c.cls) ∧ d = o.map (·.1) ∧ c.at_ = o.map (·.2) ∧ tB X.K CA ⟨{ G.toCxt with exc := some c }, some (i, a, o)⟩ W0 su Z σ H) := by
    intro z i su b0 sus hs0 hsu a' oe cls d pn hz hf
    refine ⟨fun pins s σ H D I q => ?_⟩
    obtain ⟨c, o, rfl, rfl, hat, q⟩ := q
    exact (hs0 (ok.suite i a' oe pn c o hz hf hat) hsu).run pins s σ H D I q
  refine PS.by_ (ps_try_nam (tb := fun W' => tB X.K CA G W' b) (l := [(some i, .ref (CA y), fun a cls d Z σ H => ∃ (c : Exc) (o : Option (Addr × D)), cls = .ref (CA c.cls) ∧ d = o.map (·.1) ∧ c.at_ = o.map (·.2) ∧ tB X.K CA ⟨{ G.toCxt with exc := some c }, some (i, a, o)⟩ W0 su Z σ H), (some i2, .ref (CA y2), fun a cls d Z σ H => ∃ (c : Exc) (o : Option (Addr × D)), cls = .ref (CA c.cls) ∧ d = o.map (·.1) ∧ c.at_ = o.map (·.2) ∧ tB X.K CA ⟨{ G.toCxt with exc := some c }, some (i2, a, o)⟩ W0 su2 Z σ H)]) (Wout := W)
    (ok.stk ht) (ok.fr ht) (by rw [ok.nm]; exact ok.nd) (ok.tkw hn) (fun W' pn xe tk pa => hb0 (ok.tr (ok.tc ht) hn pn xe tk pa) hb)
    (.cons (by rw [ok.nm]; exact slot_of h4) (by show X.env.scope.names.lookup n = _; rw [ok.sc]; exact loc_of h5) ⟨gl_of ok h1, (nm_of h2).1, .inl (glob y h3)⟩ (suit (z := y) hs0 hsu)
      (.cons (by rw [ok.nm]; exact slot_of k4) (by show X.env.scope.names.lookup n2 = _; rw [ok.sc]; exact loc_of k5) ⟨gl_of ok k1, (nm_of k2).1, .inl (glob y2 k3)⟩ (suit (z := y2) hs02 hsu2) .nil))) ?_
  rintro Z σ H ⟨S, L, env, g, er, q⟩
  simp only [exS] at q
  refine ⟨S, L, env, g, er, ?_⟩
  cases hr : exB G b env S with
  | nx e2 S2 => rw [hr] at q; exact q
  | ret d S2 => rw [hr] at q; exact q
  | brk e2 S2 => rw [hr] at q; exact q
  | bad => rw [hr] at q; exact q
  | exc c e2 S2 =>
    rw [hr] at q
    simp only at q
    intro σ' cls dd L' H' st g' er' x
    cases hs : G.sub c.cls y with
    | none => rw [hs] at q; exact q.elim
    | some bb =>
      rw [hs] at q
      refine ⟨bb, ?_, fun hbt a' ha' => ?_, fun hbf => ?_⟩
      · rw [x.1]; exact ok.sb _ _ _ hs
      · subst hbt
        simp only at q
        split at q
        · rename_i hi
          exact suite_key hnop hi st g' er' x q a'
        · exact q.elim
      · subst hbf
        simp only at q
        cases hs2 : G.sub c.cls y2 with
        | none => rw [hs2] at q; exact q.elim
        | some b2 =>
          rw [hs2] at q
          refine ⟨b2, ?_, fun hbt a' ha' => ?_, fun hbf => ?_⟩
          · rw [x.1]; exact ok.sb _ _ _ hs2
          · subst hbt
            simp only at q
            split at q
            · rename_i hi
              exact suite_key hnop hi st g' er' x q a'
            · exact q.elim
          · subst hbf
            exact q σ' cls dd L' H' st g' er' x
/-- a suite that only returns a constant -/
theorem suite_kE {X : Cx} {a : Ex} {v : Expr} {rp : Pos} (hv : kE a v = true) (a' : Addr) (pn : List (Addr × Obj)) : PSs (X.suite a' pn) [.Return (some v) rp] (tB X.K CA G W0 [.ret a]) := by
  refine PSs.by_ (pss_cons (ps_ret (sK (X := X.suite a' pn) (W := W0) (G := G) (CA := CA) a hv)) pss_nil) ?_
  rintro Z σ H ⟨S, L, env, g, er, q⟩
  simp only [exB, exS] at q
  refine ⟨S, L, env, g, er, ?_⟩
  cases hr : ev G a env S with
  | ok d S1 =>
    rw [hr] at q
    exact fun L1 H1 st g1 v r => q v L1 H1 st g1 r
  | exc c S1 =>
    rw [hr] at q
    exact fun cls' dd L1 H1 st g1 x => q σ cls' dd L1 H1 st g1 (er.step g st) x
  | bad => rw [hr] at q; exact q
theorem suite_ret {X : Cx} {a : Ex} {e2 : Lt.Env} {S2 : Store} {Z : Ends} (st : Step L H L' H') (g' : Good X.K CA S2 L' H') (er' : EnvR X.K G.pin L' H' e2 σ') (q : AftS X.K CA G.pin W L H (match ev G a e2 S2 with
    | .ok d S3 => .ret d S3
    | _ => .bad) Z) : tB X.K CA G W0 [.ret a] Z σ' H' := by
  refine ⟨S2, L', e2, g', er', ?_⟩
  simp only [exB, exS]
  cases hv2 : ev G a e2 S2 with
  | ok d S3 =>
    rw [hv2] at q
    exact fun v L2 H2 st2 g2 r => q v L2 H2 (st.trans st2) g2 r
  | exc c S3 => rw [hv2] at q; exact q.elim
  | bad => rw [hv2] at q; exact q.elim
theorem Ok.glob {X : Cx} {C : MC} (ok : Ok X CA G W C) {z : Str} (h : (C.xs z || C.xo z) = true) : X.mg z = some (.ref (CA z)) := by
  rw [Bool.or_eq_true] at h
  rcases h with h | h
  · exact (ok.xc z h).1
  · obtain ⟨_, _, _, _, _, _, _, _, _, _, _, hm, _⟩ := ok.xo z h
    exact hm
/-- a try whose suite is never reached -/
theorem p_tryN {X : Cx} {C : MC} {b : List Lt.St} (ok : Ok X CA G W C) (hb0 : ∀ {X : Cx} {W : WX} {C : MC} (ok : Ok X CA G W C) {ss : List Stmt}, mB b C ss = true → PSs X ss (tB X.K CA G W b))
    {y : Str} {ss : List Stmt} {b0 : Stmt} {sus : List Stmt} {np p2 p : Pos} (ht : C.top = true) (hn : (!C.nar) = true) (h1 : gloB C.sc y = true) (h2 : nmOk y = true) (h3 : C.xs y = true) (hb : mB b C.tr ss = true) :
    PS X (.Try ss [.ExceptHandler (some (.Name y np)) none (b0 :: sus) p2] [] [] p) (tS X.K CA G W (.tryN b)) := by
  refine PS.by_ (ps_try_only (c := .ref (CA y)) (tb := fun W' => tB X.K CA G W' b) (ts := fun _ _ _ _ _ _ => False) (Wout := W) (ok.stk ht) (ok.fr ht) ⟨gl_of ok h1, (nm_of h2).1, .inl (ok.xc y h3).1⟩ (ok.tkw hn) (fun W' pn xe tk pa => hb0 (ok.tr (ok.tc ht) hn pn xe tk pa) hb) fun a' oe cls d pn hz hf => ⟨fun pins s σ H D I q => q.elim⟩) ?_
  rintro Z σ H ⟨S, L, env, g, er, q⟩
  simp only [exS] at q
  refine ⟨S, L, env, g, er, ?_⟩
  cases hr : exB G b env S with
  | nx e2 S2 => rw [hr] at q; exact q
  | ret d S2 => rw [hr] at q; exact q
  | brk e2 S2 => rw [hr] at q; exact q
  | bad => rw [hr] at q; exact q
  | exc c e2 S2 => rw [hr] at q; exact q.elim
theorem p_tryCC {X : Cx} {C : MC} {b : List Lt.St} {a a2 : Ex} (ok : Ok X CA G W C) (hb0 : ∀ {X : Cx} {W : WX} {C : MC} (ok : Ok X CA G W C) {ss : List Stmt}, mB b C ss = true → PSs X ss (tB X.K CA G W b))
    {y y2 : Str} {ss : List Stmt} {v v2 : Expr} {np rp p2 np2 rp2 p3 p : Pos} (ht : C.top = true) (hn : (!C.nar) = true) (h1 : gloB C.sc y = true) (h2 : nmOk y = true) (h3 : (C.xs y || C.xo y) = true)
    (k1 : gloB C.sc y2 = true) (k2 : nmOk y2 = true) (k3 : (C.xs y2 || C.xo y2) = true) (hb : mB b C.tr ss = true) (hv : kE a v = true) (hv2 : kE a2 v2 = true) :
    PS X (.Try ss [.ExceptHandler (some (.Name y np)) none [.Return (some v) rp] p2, .ExceptHandler (some (.Name y2 np2)) none [.Return (some v2) rp2] p3] [] [] p) (tS X.K CA G W (.tryCC b y a y2 a2)) := by
  refine PS.by_ (ps_try_many (tb := fun W' => tB X.K CA G W' b) (l := [(.ref (CA y), fun _ _ _ => tB X.K CA G W0 [.ret a]), (.ref (CA y2), fun _ _ _ => tB X.K CA G W0 [.ret a2])]) (Wout := W) (ok.stk ht) (ok.fr ht) (ok.tkw hn) (fun W' pn xe tk pa => hb0 (ok.tr (ok.tc ht) hn pn xe tk pa) hb)
    (.cons ⟨gl_of ok h1, (nm_of h2).1, .inl (ok.glob h3)⟩ (fun a' oe cls d pn hz hf => suite_kE hv a' _) (.cons ⟨gl_of ok k1, (nm_of k2).1, .inl (ok.glob k3)⟩ (fun a' oe cls d pn hz hf => suite_kE hv2 a' _) .nil))) ?_
  rintro Z σ H ⟨S, L, env, g, er, q⟩
  simp only [exS] at q
  refine ⟨S, L, env, g, er, ?_⟩
  cases hr : exB G b env S with
  | nx e2 S2 => rw [hr] at q; exact q
  | ret d S2 => rw [hr] at q; exact q
  | brk e2 S2 => rw [hr] at q; exact q
  | bad => rw [hr] at q; exact q
  | exc c e2 S2 =>
    rw [hr] at q
    simp only at q
    intro σ' cls dd L' H' st g' er' x
    cases hs : G.sub c.cls y with
    | none => rw [hs] at q; exact q.elim
    | some bb =>
      rw [hs] at q
      refine ⟨bb, by rw [x.1]; exact ok.sb _ _ _ hs, fun hbt a' ha' => ?_, fun hbf => ?_⟩
      · subst hbt
        exact suite_ret st g' er' q
      · subst hbf
        simp only at q
        cases hs2 : G.sub c.cls y2 with
        | none => rw [hs2] at q; exact q.elim
        | some b2 =>
          rw [hs2] at q
          refine ⟨b2, by rw [x.1]; exact ok.sb _ _ _ hs2, fun hbt a' ha' => ?_, fun hbf => ?_⟩
          · subst hbt
            exact suite_ret st g' er' q
          · subst hbf
            exact q σ' cls dd L' H' st g' er' x
theorem p_tryAC {X : Cx} {C : MC} {b su : List Lt.St} {a2 : Ex} (ok : Ok X CA G W C) (hb0 : ∀ {X : Cx} {W : WX} {C : MC} (ok : Ok X CA G W C) {ss : List Stmt}, mB b C ss = true → PSs X ss (tB X.K CA G W b)) (hs0 : ∀ {X : Cx} {G : Cxp} {W : WX} {C : MC} (ok : Ok X CA G W C) {ss : List Stmt}, mB su C ss = true → PSs X ss (tB X.K CA G W su))
    {y n y2 : Str} {i : Nat} {ss : List Stmt} {b0 : Stmt} {sus : List Stmt} {v2 : Expr} {np p2 np2 rp2 p3 p : Pos} (ht : C.top = true) (hn : (!C.nar) = true) (h1 : gloB C.sc y = true) (h2 : nmOk y = true) (h3 : (C.xs y || C.xo y) = true) (h4 : slotB C i n = true) (h5 : locB C.sc n = true)
    (k1 : gloB C.sc y2 = true) (k2 : nmOk y2 = true) (k3 : (C.xs y2 || C.xo y2) = true) (hb : mB b C.tr ss = true) (hsu : mB su (C.suite i) (b0 :: sus) = true) (hv2 : kE a2 v2 = true) :
    PS X (.Try ss [.ExceptHandler (some (.Name y np)) (some n) (b0 :: sus) p2, .ExceptHandler (some (.Name y2 np2)) none [.Return (some v2) rp2] p3] [] [] p) (tS X.K CA G W (.tryAC b y i su y2 a2)) := by
  have hnop : G.pin = none := by
    have e := ok.hot
    rw [ok.tc ht] at e
    exact Option.map_eq_none_iff.mp e.symm
  refine PS.by_ (ps_try_nam (tb := fun W' => tB X.K CA G W' b) (l := [(some i, .ref (CA y), fun a cls d Z σ H => ∃ (c : Exc) (o : Option (Addr × D)), cls = .ref (CA c.cls) ∧ d = o.map (·.1) ∧ c.at_ = o.map (·.2) ∧ tB X.K CA ⟨{ G.toCxt with exc := some c }, some (i, a, o)⟩ W0 su Z σ H), (none, .ref (CA y2), fun _ _ _ => tB X.K CA G W0 [.ret a2])]) (Wout := W)
    (ok.stk ht) (ok.fr ht) (by rw [ok.nm]; exact ok.nd) (ok.tkw hn) (fun W' pn xe tk pa => hb0 (ok.tr (ok.tc ht) hn pn xe tk pa) hb)
    (.cons (by rw [ok.nm]; exact slot_of h4) (by show X.env.scope.names.lookup n = _; rw [ok.sc]; exact loc_of h5) ⟨gl_of ok h1, (nm_of h2).1, .inl (ok.glob h3)⟩ (fun a' oe cls d pn hz hf => ⟨fun pins s σ H D I q => by
        obtain ⟨c, o, rfl, rfl, hat, q⟩ := q
        exact (hs0 (ok.suite i a' oe pn c o hz hf hat) hsu).run pins s σ H D I q⟩)
      (.consU ⟨gl_of ok k1, (nm_of k2).1, .inl (ok.glob k3)⟩ (fun a' oe cls d pn hz hf => suite_kE hv2 a' _) .nil))) ?_
  rintro Z σ H ⟨S, L, env, g, er, q⟩
  simp only [exS] at q
  refine ⟨S, L, env, g, er, ?_⟩
  cases hr : exB G b env S with
  | nx e2 S2 => rw [hr] at q; exact q
  | ret d S2 => rw [hr] at q; exact q
  | brk e2 S2 => rw [hr] at q; exact q
  | bad => rw [hr] at q; exact q
  | exc c e2 S2 =>
    rw [hr] at q
    simp only at q
    intro σ' cls dd L' H' st g' er' x
    cases hs : G.sub c.cls y with
    | none => rw [hs] at q; exact q.elim
    | some bb =>
      rw [hs] at q
      refine ⟨bb, by rw [x.1]; exact ok.sb _ _ _ hs, fun hbt a' ha' => ?_, fun hbf => ?_⟩
      · subst hbt
        simp only at q
        split at q
        · rename_i hi
          exact suite_key hnop hi st g' er' x q a'
        · exact q.elim
      · subst hbf
        simp only at q
        cases hs2 : G.sub c.cls y2 with
        | none => rw [hs2] at q; exact q.elim
        | some b2 =>
          rw [hs2] at q
          refine ⟨b2, by rw [x.1]; exact ok.sb _ _ _ hs2, fun hbt a' ha' => ?_, fun hbf => ?_⟩
          · subst hbt
            exact suite_ret st g' er' q
          · subst hbf
            exact q σ' cls dd L' H' st g' er' x
/-- except C: raise C2(x) from None -/
theorem p_tryR {X : Cx} {C : MC} {b : List Lt.St} (ok : Ok X CA G W C) (hb0 : ∀ {X : Cx} {W : WX} {C : MC} (ok : Ok X CA G W C) {ss : List Stmt}, mB b C ss = true → PSs X ss (tB X.K CA G W b))
    {y y2 n : Str} {i j : Nat} {ss : List Stmt} {np q2 q3 p4 cp p3 p2 p : Pos} (ht : C.top = true) (hpl : C.pl = true) (hn : (!C.nar) = true) (h1 : gloB C.sc y = true) (h2 : nmOk y = true) (h3 : C.xs y = true)
    (k1 : gloB C.sc y2 = true) (k2 : nmOk y2 = true) (k3 : C.xo y2 = true) (h4 : slotB C i n = true) (h5 : visB C.sc n = true) (h6 : nmOk n = true) (hb : mB b C.trn ss = true) :
    PS X (.Try ss [.ExceptHandler (some (.Name y np)) none [.Raise (some (.Call (.Name y2 q2) [.Name n q3] [] p4)) (some (.Constant .none j cp)) p3] p2] [] [] p) (tS X.K CA G W (.tryR b y y2 i)) := by
  obtain ⟨fI, k, fd, ps, sp, T, iC, tI, F, hr, hbd, hm, hsp⟩ := ok.xoh y2 k3
  refine PS.by_ (L2H.ps_try_onlyX (c := .ref (CA y)) (tb := fun W' => tB X.K CA G W' b) (ts := fun _ _ _ _ σ H => ∃ v, σ[i]? = some (some v) ∧ ∀ dx H', H dx = none → H' = upd H dx (.xd [("at", v)]) → W (.ref (CA y2)) (some dx) σ H') (Wout := W)
    (ok.stk ht) (ok.fr ht) ⟨gl_of ok h1, (nm_of h2).1, .inl (ok.xc y h3).1⟩ (ok.pah hpl) (ok.tkw hn) (fun W' pn xe tk _ pa => hb0 (ok.trn (ok.tc ht) pn xe tk pa) hb) fun a' oe cls d pn hz hf tkS hot => ?_) ?_
  · obtain ⟨d1, d2⟩ := nm_of h6
    have gl : Gl (L2H.suiteX X a' ((a', oe) :: pn)) y2 := gl_of ok k1
    refine PSs.by_ (pss_cons (L2H.ps_raiseHN hot tkS (L2H.pmk5_oexH (X := L2H.suiteX X a' ((a', oe) :: pn)) T iC tI F ⟨hr.dp, hr.un⟩ hot hbd (fun pins σ H s e s' I z => ?_) gl hm (pa_cons (pe_var (X := L2H.suiteX X a' ((a', oe) :: pn)) (i := i) (by show X.N[i]? = _; rw [ok.nm]; exact slot_of h4) (by show Vis X.env.scope n; rw [ok.sc]; exact vis_of h5) d1 d2) pa_nil (star_of rfl [] _)) (nm_of k2).1 (star_of rfl [] _) rfl)) pss_nil) ?_
    · obtain ⟨_, _, _, _, _, _, _, _, _, _, _, _, z⟩ := z
      exact z.elim
    · rintro Z σ H ⟨v, e1, q⟩
      refine ⟨v, e1, by simp, fun b' hb1 => ?_⟩
      refine hsp b' v _ _ _ upd_same fun dx H' hdx hne he => ?_
      subst he
      have hdx1 : H dx = none := by rw [upd_ne hne] at hdx; exact hdx
      refine ⟨rfl, dx, _, upd_same, by rw [upd_ne hne]; exact upd_same, hdx1, ?_⟩
      have eH : upd (del (upd (upd (upd H b' (exo b' (CA y2) none)) dx (exd dx [("at", v)])) b' (exo b' (CA y2) (some dx))) b') dx (.xd [("at", v)]) = upd H dx (.xd [("at", v)]) := by
        funext z
        by_cases z1 : z = dx
        · subst z1; rw [upd_same, upd_same]
        · rw [upd_ne z1, upd_ne z1]
          by_cases z2 : z = b'
          · subst z2; rw [del_same, hb1]
          · rw [del_ne z2, upd_ne z2, upd_ne z1, upd_ne z2]
      rw [eH]
      exact q dx _ hdx1 rfl
  · rintro Z σ H ⟨S, L, env, g, er, q⟩
    simp only [exS] at q
    refine ⟨S, L, env, g, er, ?_⟩
    cases hr2 : exB G b env S with
    | nx e2 S2 => rw [hr2] at q; exact q
    | ret d S2 => rw [hr2] at q; exact q
    | brk e2 S2 => rw [hr2] at q; exact q
    | bad => rw [hr2] at q; exact q
    | exc c e2 S2 =>
      rw [hr2] at q
      simp only at q
      intro σ' cls dd L' H' st g' er' x
      cases hs : G.sub c.cls y with
      | none => rw [hs] at q; exact q.elim
      | some bb =>
        rw [hs] at q
        refine ⟨bb, by rw [x.1]; exact ok.sb _ _ _ hs, fun hbt a' ha' => ?_, fun hbf => ?_⟩
        · subst hbt
          simp only at q
          split at q
          · rename_i d hd
            obtain ⟨v, e1, r1⟩ := er'.has i d hd
            refine ⟨v, e1, fun dx H2 hdx e2' => ?_⟩
            subst e2'
            obtain ⟨st2, g2⟩ := g'.side (o := .xd [("at", v)]) hdx
            exact q σ' _ _ _ _ (st.trans st2) g2 (er'.step g' st2) ⟨rfl, dx, v, rfl, upd_same, r1.step g' st2⟩
          · exact q.elim
        · subst hbf
          exact q σ' cls dd L' H' st g' er' x
mutual
theorem sS : ∀ (x : Lt.St) {X : Cx} {G : Cxp} {W : WX} {C : MC} (ok : Ok X CA G W C) {s : Stmt}, mS x C s = true → PS X s (tS X.K CA G W x)
  | .asg t x, X, G, W, C, ok, s, h => by
    obtain ⟨tg, v, p, rfl, h⟩ := qAsg_inv C t _ h
    obtain ⟨h, h3⟩ := ba h
    obtain ⟨h1, h2⟩ := ba h
    exact p_asg ok h1 h2 h3
  | .par i j a b, X, G, W, C, ok, s, h => by
    obtain ⟨x, px, y, py, kt, pt, l, r, k2, pt2, p, rfl, h⟩ := qPar_inv C i j _ _ h
    obtain ⟨h, h8⟩ := ba h
    obtain ⟨h, h7⟩ := ba h
    obtain ⟨h, h6⟩ := ba h
    obtain ⟨h, h5⟩ := ba h
    obtain ⟨h, h4⟩ := ba h
    obtain ⟨h, h3⟩ := ba h
    obtain ⟨h, h2⟩ := ba h
    obtain ⟨hcd, h1⟩ := ba h
    exact p_par ok hcd h1 h2 (of_decide_eq_true h3) h4 h5 h6 h7 h8
  | .sub o i x, X, G, W, C, ok, s, h => by
    obtain ⟨l, k, p2, v, p, rfl, h⟩ := qSub_inv _ _ _ h
    obtain ⟨h, h4⟩ := ba h
    obtain ⟨h, h3⟩ := ba h
    obtain ⟨h1, h2⟩ := ba h
    exact p_sub ok h1 h2 h3 h4
  | .exp x, X, G, W, C, ok, s, h => by
    obtain ⟨v, p, rfl, h⟩ := qExp_inv _ h
    obtain ⟨h1, h2⟩ := ba h
    refine PS.by_ (ps_expr (sE x ok h2).1 (sw_of h1 h2 none p.line X.env)) ?_
    rintro Z σ H ⟨S, L, env, g, er, q⟩
    simp only [exS] at q
    exact ⟨S, L, env, g, er, (AftS.toS er g q).mono fun d S1 L1 H1 ⟨st, g1, q1⟩ v r => q1 σ L1 H1 Step.refl g1 (er.step g st)⟩
  | .ite c a b, X, G, W, C, ok, s, h => by
    obtain ⟨t, l, r, p, rfl, h⟩ := qIte_inv _ _ _ h
    obtain ⟨h, h3⟩ := ba h
    obtain ⟨h1, h2⟩ := ba h
    obtain ⟨h0, h1⟩ := ba h1
    refine PS.by_ (ps_if ((sE c ok h1).2 h0).1 (sB a ok h2) (sB b ok h3)) ?_
    rintro Z σ H ⟨S, L, env, g, er, q⟩
    simp only [exS] at q
    refine ⟨S, L, env, g, er, (AftS.toS er g q).mono fun d S1 L1 H1 ⟨st, g1, q1⟩ => ?_⟩
    split at q1
    · exact ⟨true, rfl, iteT ⟨S1, L1, env, g1, er.step g st, q1⟩⟩
    · exact ⟨false, rfl, iteF ⟨S1, L1, env, g1, er.step g st, q1⟩⟩
    · exact q1.elim
  | .forS t it b, X, G, W, C, ok, s, h => by
    obtain ⟨tg, i, l, p, rfl, h⟩ := qFor_inv C t _ _ _ h
    obtain ⟨h, h5⟩ := ba h
    obtain ⟨h, h4⟩ := ba h
    obtain ⟨h, h3⟩ := ba h
    obtain ⟨h, h2⟩ := ba h
    obtain ⟨hcd, h1⟩ := ba h
    exact p_for ok hcd h1 h3 (sI it ok (nd_of h2) h4) (sB b ok h5)
  | .whl c b, X, G, W, C, ok, s, h => by
    obtain ⟨t, l, p, rfl, h⟩ := qWhl_inv _ _ _ h
    obtain ⟨h, h2⟩ := ba h
    obtain ⟨hcd, h1⟩ := ba h
    obtain ⟨h0, h1⟩ := ba h1
    exact p_whl ok hcd ((sE c ok h1).2 h0).1 (sB b ok h2)
  | .ret x, X, G, W, C, ok, s, h => by
    obtain ⟨v, p, rfl, h⟩ := qRet_inv _ h
    refine PS.by_ (ps_ret (sE x ok h).1) ?_
    rintro Z σ H ⟨S, L, env, g, er, q⟩
    simp only [exS] at q
    exact ⟨S, L, env, g, er, (AftS.toS er g q).mono fun d S1 L1 H1 ⟨st, g1, q1⟩ v r => q1 v L1 H1 Step.refl g1 r⟩
  | .retN, X, G, W, C, ok, s, h => by
    obtain ⟨p, rfl, _⟩ := qRetN_inv h
    refine PS.by_ ps_retN ?_
    rintro Z σ H ⟨S, L, env, g, er, q⟩
    simp only [exS] at q
    exact q .non L H Step.refl g (by simp [RelD])
  | .brk, X, G, W, C, ok, s, h => by
    obtain ⟨p, rfl, _⟩ := qBrk_inv h
    refine PS.by_ ps_break ?_
    rintro Z σ H ⟨S, L, env, g, er, q⟩
    simp only [exS] at q
    exact q σ L H Step.refl g er
  | .pass, X, G, W, C, ok, s, h => by
    obtain ⟨p, rfl, _⟩ := qPass_inv h
    refine PS.by_ ps_pass ?_
    rintro Z σ H ⟨S, L, env, g, er, q⟩
    simp only [exS] at q
    exact q σ L H Step.refl g er
  | .stf o y f x, X, G, W, C, ok, s, h => by
    obtain ⟨l, m, p2, v, p, rfl, h⟩ := qStf_inv C y f _ _ h
    obtain ⟨h, h4⟩ := ba h
    obtain ⟨h, h3⟩ := ba h
    obtain ⟨h1, h2⟩ := ba h
    have h1 := of_decide_eq_true h1
    subst h1
    exact p_stf ok h2 h3 h4
  | .any, X, G, W, C, ok, s, h => by
    refine ⟨fun pins s σ H D I ⟨S, L, env, g, er, q⟩ => ?_⟩
    simp only [exS] at q
    exact q.elim
  | .dst o i x, X, G, W, C, ok, s, h => by
    obtain ⟨l, k, p2, v, p, rfl, h⟩ := qSub_inv _ _ _ h
    obtain ⟨h, h4⟩ := ba h
    obtain ⟨h, h3⟩ := ba h
    obtain ⟨h1, h2⟩ := ba h
    exact p_dst ok h1 h2 h3 h4
  | .rai y, X, G, W, C, ok, s, h => by
    obtain ⟨x, q, m, j, p2, p3, p, rfl, h⟩ := qRai_inv C y h
    obtain ⟨h, h4⟩ := ba h
    obtain ⟨h, h3⟩ := ba h
    obtain ⟨h1, h2⟩ := ba h
    have h1 := of_decide_eq_true h1
    subst h1
    exact p_rai ok h2 h3 h4
  | .tryC b y a, X, G, W, C, ok, s, h => by
    obtain ⟨ss, x, np, v, rp, p2, p, rfl, h⟩ := qTry_inv C y _ _ h
    obtain ⟨h, h7⟩ := ba h
    obtain ⟨h, h6⟩ := ba h
    obtain ⟨h, h5⟩ := ba h
    obtain ⟨h, h4⟩ := ba h
    obtain ⟨h, h3⟩ := ba h
    obtain ⟨h, h2⟩ := ba h
    obtain ⟨h1, hn⟩ := ba h
    have h2 := of_decide_eq_true h2
    subst h2
    exact p_try ok (fun {_ _ _} ok {_} h => sB b ok h) h1 h3 h4 h5 hn h6 h7
  | .tryN b, X, G, W, C, ok, s, h => by
    obtain ⟨ss, x, np, b0, sus, p2, p, rfl, h⟩ := qTrN_inv C _ h
    obtain ⟨h, h6⟩ := ba h
    obtain ⟨h, h5⟩ := ba h
    obtain ⟨h, h4⟩ := ba h
    obtain ⟨h, h3⟩ := ba h
    obtain ⟨h1, h2⟩ := ba h
    exact p_tryN ok (fun {_ _ _} ok {_} h => sB b ok h) h1 h2 h3 h4 h5 h6
  | .tryCC b y a y2 a2, X, G, W, C, ok, s, h => by
    obtain ⟨ss, x, np, v, rp, p2, x2, np2, v2, rp2, p3, p, rfl, h⟩ := qTCC_inv C y y2 _ _ _ h
    obtain ⟨h, h13⟩ := ba h
    obtain ⟨h, h12⟩ := ba h
    obtain ⟨h, h11⟩ := ba h
    obtain ⟨h, h10⟩ := ba h
    obtain ⟨h, h9⟩ := ba h
    obtain ⟨h, h8⟩ := ba h
    obtain ⟨h, h7⟩ := ba h
    obtain ⟨h, h6⟩ := ba h
    obtain ⟨h, h5⟩ := ba h
    obtain ⟨h, h4⟩ := ba h
    obtain ⟨h, h3⟩ := ba h
    obtain ⟨h1, h2⟩ := ba h
    have h3 := of_decide_eq_true h3
    have h7 := of_decide_eq_true h7
    subst h3 h7
    exact p_tryCC ok (fun {_ _ _} ok {_} h => sB b ok h) h1 h2 h4 h5 h6 h8 h9 h10 h11 h12 h13
  | .tryAC b y i su y2 a2, X, G, W, C, ok, s, h => by
    obtain ⟨ss, x, np, n, b0, sus, p2, x2, np2, v2, rp2, p3, p, rfl, h⟩ := qTAC_inv C y i y2 _ _ _ h
    obtain ⟨h, h15⟩ := ba h
    obtain ⟨h, h14⟩ := ba h
    obtain ⟨h, h13⟩ := ba h
    obtain ⟨h, h12⟩ := ba h
    obtain ⟨h, h11⟩ := ba h
    obtain ⟨h, h10⟩ := ba h
    obtain ⟨h, h9⟩ := ba h
    obtain ⟨h, h8⟩ := ba h
    obtain ⟨h, h7⟩ := ba h
    obtain ⟨h, h6⟩ := ba h
    obtain ⟨h, h5⟩ := ba h
    obtain ⟨h, h4⟩ := ba h
    obtain ⟨h, h3⟩ := ba h
    obtain ⟨h1, h2⟩ := ba h
    have h3 := of_decide_eq_true h3
    have h9 := of_decide_eq_true h9
    subst h3 h9
    exact p_tryAC ok (fun {_ _ _} ok {_} h => sB b ok h) (fun {_ _ _ _} ok {_} h => sB su ok h) h1 h2 h4 h5 h6 h7 h8 h10 h11 h12 h13 h14 h15
  | .tryR b y y2 i, X, G, W, C, ok, s, h => by
    obtain ⟨ss, x, np, x2, q2, n, q3, p4, j, cp, p3, p2, p, rfl, h⟩ := qTrR_inv C y y2 i _ h
    obtain ⟨h, h15⟩ := ba h
    obtain ⟨h, h14⟩ := ba h
    obtain ⟨h, h13⟩ := ba h
    obtain ⟨h, h12⟩ := ba h
    obtain ⟨h, h11⟩ := ba h
    obtain ⟨h, h10⟩ := ba h
    obtain ⟨h, h9⟩ := ba h
    obtain ⟨h, h8⟩ := ba h
    obtain ⟨h, h7⟩ := ba h
    obtain ⟨h, h6⟩ := ba h
    obtain ⟨h, h5⟩ := ba h
    obtain ⟨h, h4⟩ := ba h
    obtain ⟨h, h3⟩ := ba h
    obtain ⟨h1, h2⟩ := ba h
    have h4 := of_decide_eq_true h4
    have h8 := of_decide_eq_true h8
    subst h4 h8
    exact p_tryR ok (fun {_ _ _} ok {_} h => sB b ok h) h1 h2 h3 h5 h6 h7 h9 h10 h11 h12 h13 h14 h15
  | .raiA y a, X, G, W, C, ok, s, h => by
    obtain ⟨x, q, l, p3, p, rfl, h⟩ := qRaA_inv C y _ h
    obtain ⟨h, h6⟩ := ba h
    obtain ⟨h, h5⟩ := ba h
    obtain ⟨h, hn⟩ := ba h
    obtain ⟨h, h4⟩ := ba h
    obtain ⟨h, h3⟩ := ba h
    obtain ⟨h1, h2⟩ := ba h
    have h1 := of_decide_eq_true h1
    subst h1
    exact p_raiA ok h2 h3 h4 hn h5 h6
  | .tryA b y i su, X, G, W, C, ok, s, h => by
    obtain ⟨ss, x, np, n, b0, sus, p2, p, rfl, h⟩ := qTrA_inv C y i _ _ h
    obtain ⟨h, h9⟩ := ba h
    obtain ⟨h, h8⟩ := ba h
    obtain ⟨h, h7⟩ := ba h
    obtain ⟨h, h6⟩ := ba h
    obtain ⟨h, h5⟩ := ba h
    obtain ⟨h, h4⟩ := ba h
    obtain ⟨h, h3⟩ := ba h
    obtain ⟨h, h2⟩ := ba h
    obtain ⟨h1, hn⟩ := ba h
    have h2 := of_decide_eq_true h2
    subst h2
    exact p_tryA ok (fun {_ _ _} ok {_} h => sB b ok h) (fun {_ _ _ _} ok {_} h => sB su ok h) h1 h3 h4 h5 h6 h7 hn h8 h9
  | .par3 i j k a b c, X, G, W, C, ok, s, h => by
    obtain ⟨x, px, y, py, z, pz, kt, pt, l, r, m, k2, pt2, p, rfl, h⟩ := qPa3_inv C i j k _ _ _ h
    obtain ⟨h, h14⟩ := ba h
    obtain ⟨h, h13⟩ := ba h
    obtain ⟨h, h12⟩ := ba h
    obtain ⟨h, h11⟩ := ba h
    obtain ⟨h, h10⟩ := ba h
    obtain ⟨h, h9⟩ := ba h
    obtain ⟨h, h8⟩ := ba h
    obtain ⟨h, h7⟩ := ba h
    obtain ⟨h, h6⟩ := ba h
    obtain ⟨h, h5⟩ := ba h
    obtain ⟨h, h4⟩ := ba h
    obtain ⟨h, h3⟩ := ba h
    obtain ⟨hcd, h2⟩ := ba h
    exact p_par3 ok hcd h2 h3 h4 (of_decide_eq_true h5) (of_decide_eq_true h6) (of_decide_eq_true h7) h8 h9 h10 h11 h12 h13 h14
  | .try2 b y i su y2 i2 su2, X, G, W, C, ok, s, h => by
    obtain ⟨ss, x, np, n, b0, sus, p2, x2, np2, n2, b02, sus2, p3, p, rfl, h⟩ := qTr2_inv C y i y2 i2 _ _ _ h
    obtain ⟨h, h16⟩ := ba h
    obtain ⟨h, h15⟩ := ba h
    obtain ⟨h, h14⟩ := ba h
    obtain ⟨h, h13⟩ := ba h
    obtain ⟨h, h12⟩ := ba h
    obtain ⟨h, h11⟩ := ba h
    obtain ⟨h, h10⟩ := ba h
    obtain ⟨h, h9⟩ := ba h
    obtain ⟨h, h8⟩ := ba h
    obtain ⟨h, h7⟩ := ba h
    obtain ⟨h, h6⟩ := ba h
    obtain ⟨h, h5⟩ := ba h
    obtain ⟨h, h4⟩ := ba h
    obtain ⟨h, h3⟩ := ba h
    obtain ⟨h, h2⟩ := ba h
    obtain ⟨h1, hn⟩ := ba h
    have h2 := of_decide_eq_true h2
    have h8 := of_decide_eq_true h8
    subst h2 h8
    exact p_try2 ok (fun {_ _ _} ok {_} h => sB b ok h) (fun {_ _ _ _} ok {_} h => sB su ok h) (fun {_ _ _ _} ok {_} h => sB su2 ok h) h1 h3 h4 h5 h6 h7 h9 h10 h11 h12 h13 hn h14 h15 h16
theorem sB : ∀ (xs : List Lt.St) {X : Cx} {G : Cxp} {W : WX} {C : MC} (ok : Ok X CA G W C) {ss : List Stmt}, mB xs C ss = true → PSs X ss (tB X.K CA G W xs)
  | [], X, G, W, C, ok, ss, h => by
    rw [mB_nil h]
    refine PSs.by_ pss_nil ?_
    rintro Z σ H ⟨S, L, env, g, er, q⟩
    simp only [exB] at q
    exact q σ L H Step.refl g er
  | x :: xs, X, G, W, C, ok, ss, h => by
    obtain ⟨s, r, rfl, h1, h2⟩ := mB_cons h
    refine PSs.by_ (pss_cons (sS x ok h1) (sB xs ok h2)) ?_
    rintro Z σ H ⟨S, L, env, g, er, q⟩
    simp only [exB] at q
    refine ⟨S, L, env, g, er, ?_⟩
    cases hr : exS G x env S with
    | nx e2 S2 =>
      rw [hr] at q
      exact fun σ' L2 H2 s2 g2 er3 => ⟨S2, L2, e2, g2, er3, AftS.from s2 q⟩
    | brk e2 S2 => rw [hr] at q; exact q
    | ret d2 S2 => rw [hr] at q; exact q
    | exc c e2 S2 => rw [hr] at q; exact q
    | bad => rw [hr] at q; exact q
end
end
end Lt
set_option maxHeartbeats 1000000
namespace Lt
open PySem PySem.Spec PyProof.Rows L2
def plainA (a : Arguments) (ps : List Str) : Bool := a.posonlyargs.isEmpty && a.vararg.isNone && a.kwonlyargs.isEmpty && a.kwarg.isNone && decide (a.args.map (·.arg) = ps) && decide (ps.length ≤ 9)
def fnKind (k : ScopeKind) : Bool := match k with
  | .function => true
  | _ => false
def parB (sc : Scope) (x : Str) : Bool := match sc.names.lookup x with
  | some .local => true
  | some .cell => true
  | _ => false
def nofB (q : Str × NameKind) : Bool := match q.2 with
  | .free => false
  | _ => true
def ndB : List Str → Bool
  | [] => true
  | x :: r => !(r.any fun y => decide (y = x)) && ndB r
def scB (N ps : List Str) (sc : Scope) : Bool := fnKind sc.kind && !sc.isCoroutine && !sc.isGenerator && ndB N && decide (N.take ps.length = ps) && ps.all (parB sc) && sc.names.all nofB
def xsOf (P : Prog) (x : Str) : Bool := P.subs.any fun p => decide (p.1 = x)
def hasS (l : List Str) (x : Str) : Bool := l.any fun y => decide (y = x)
def xoOf (P : Prog) (x : Str) : Bool := P.sub2.any fun p => decide (p.1 = x)
def flOf (P : Prog) (y f : Str) : Bool := match P.kl.lookup y with
  | some (fs, _) => hasS fs f
  | none => false
/-- so many written arguments are enough -/
def okN (m : Def) (n : Nat) : Bool := decide (n ≤ m.ps.length) && decide (m.ps.length ≤ n + m.dfl.length)
def kwN (m : Def) (n : Nat) (y : Str) : Bool := decide (n + 1 = m.ps.length) && decide (m.ps.getLast? = some y) && decide (m.dfl.length = 1)
def fkOf (P : Prog) (atf : Bool) (f : Str) (n : Nat) (y : Str) : Bool := atf && match P.defs.lookup f with
  | some m => kwN m n y
  | none => false
def arityN (P : Prog) (key : Str) (n : Nat) : Bool := match P.defs.lookup key with
  | some m => okN m n
  | none => false
def arity (P : Prog) (key : Str) (n : Nat) : Bool := match P.defs.lookup key with
  | some m => decide (m.ps.length = n)
  | none => false
def keyOf (P : Prog) (y m : Str) : Option Str := match P.kl.lookup y with
  | some (_, ms) => ms.lookup m
  | none => none
def nrOf (P : Prog) (f : Str) : Bool := hasS P.nar f
def msOf (P : Prog) (y m key : Str) (n : Nat) : Bool := !nrOf P key && (decide (keyOf P y m = some key) && arityN P key (n + 1))
def mksOf (P : Prog) (y key : Str) (n : Nat) : Bool := !nrOf P key && (decide (keyOf P y "__init__" = some key) && arity P key (n + 1))
/-- where a def stands -/
def atIn (key y : Str) : List (Str × Str) → Option (Str × Option Str)
  | [] => none
  | q :: r => if q.2 = key then some (y, some q.1) else atIn key y r
def atKl (key : Str) : List (Str × List Str × List (Str × Str)) → Option (Str × Option Str)
  | [] => none
  | q :: r => match atIn key q.1 q.2.2 with
    | some a => some a
    | none => atKl key r
def atOf (P : Prog) (f : Str) : Str × Option Str := match atKl f P.kl with
  | some a => a
  | none => (f, none)
def eqAt (a b : Str × Option Str) : Bool := decide (a.1 = b.1) && (match a.2, b.2 with
  | none, none => true
  | some x, some y => decide (x = y)
  | _, _ => false)
def atB (a : Str × Option Str) (d : He.DefD) : Bool := eqAt d.at_ a
def fsOf (P : Prog) (f : Str) (n : Nat) : Bool := eqAt (atOf P f) (f, none) && match P.defs.lookup f with
  | some m => okN m n
  | none => false
def dvB : D → He.Dv → Bool
  | .int i, .int j => decide (i = j)
  | .bl b, .bl c => b == c
  | .non, .non => true
  | .str s, .str z => decide (s = z)
  | _, _ => false
def dflM (m : Def) (d : He.DefD) : Bool := match m.dfl, d.dfl with
  | [], [] => true
  | [x], [y] => dvB x y && decide (1 ≤ m.ps.length)
  | _, _ => false
def xqOf (P : Prog) (f : Str) : Bool := (P.xdefs.lookup f).isSome
/-- within a def that looks at a held error -/
def mcX (m : Def) (sc : Scope) : MC := ⟨m.ns, sc, true, fun _ _ => false, fun _ => false, fun _ _ => false, fun _ _ _ _ => false, fun _ _ _ => false, fun _ => false, none, fun _ => false, fun _ _ _ => false, fun _ => false, false, fun _ => false, false⟩
def gdOf (P : Prog) (x : Str) : Bool := (P.frd.lookup x).isSome
/-- within a def of the table -/
def mcD (P : Prog) (n : Bool) (m : Def) (sc : Scope) : MC := ⟨m.ns, sc, true, fsOf P, xsOf P, flOf P, msOf P, mksOf P, xoOf P, none, xqOf P, fun f n y => fkOf P (!nrOf P f && eqAt (atOf P f) (f, none)) f n y, gdOf P, n, nrOf P, true⟩
def xdB1 (m : Def) (d : He.DefD) : Bool := decide (m.ps.length = 1) && d.dfl.isEmpty && d.kwd.isEmpty && plainA d.params m.ps && scB m.ns m.ps d.scope && mB m.body ((mcX m d.scope).suite 0) d.body
def defB (P : Prog) (n : Bool) (m : Def) (d : He.DefD) : Bool := dflM m d && d.kwd.isEmpty && plainA d.params m.ps && scB m.ns m.ps d.scope && mB m.body (mcD P n m d.scope) d.body
def tabB (P : Prog) : List (Str × Def) → List He.DefD → Bool
  | [], _ => true
  | _ :: _, [] => false
  | p :: ps, d :: ds => if atB (atOf P p.1) d = true then defB P (nrOf P p.1) p.2 d && tabB P ps ds else tabB P (p :: ps) ds
def hasGlo (fa : List He.Fa) (x : Str) : Bool := fa.any fun a => match a with
  | .glo y => decide (y = x)
  | _ => false
def hasFree (fa : List He.Fa) (x : Str) : Bool := fa.any fun a => match a with
  | .free y => decide (y = x)
  | _ => false
def hasInt (fa : List He.Fa) (x : Str) (i : Int) : Bool := fa.any fun a => match a with
  | .int y j => decide (y = x) && decide (j = i)
  | _ => false
def hasStr (fa : List He.Fa) (x z : Str) : Bool := fa.any fun a => match a with
  | .str y w => decide (y = x) && decide (w = z)
  | _ => false
def gloB1 (fa : List He.Fa) (q : Str × D) : Bool := match q.2 with
  | .int i => hasInt fa q.1 i
  | .str z => hasStr fa q.1 z
  | .frt _ => hasGlo fa q.1
  | _ => false
def relStr : List D → List Value → Bool
  | [], [] => true
  | .str s :: r, .str z _ :: q => decide (s = z) && relStr r q
  | _, _ => false
def tupB (K : PySem.W.Frag) (a : Addr) (xs : List D) : Bool := match K.lookup a with
  | some ⟨.type c, _, .seq its _, _⟩ => decide (c = "tuple") && (decide (its.size ≤ 1000) && relStr xs its.toList)
  | _ => false
def glP (P : Prog) (K : PySem.W.Frag) : Bool := P.glob.all fun q => match q.2 with
  | .frt xs => tupB K (He.ga K q.1) xs
  | _ => true
def excCB (K : PySem.W.Frag) (D : Addr) : Bool := decide (PySem.W.findIn K (.ref D) "__getattribute__" = some (some (.builtin "BaseException.__getattribute__"))) && (decide (PySem.W.findIn K (.ref D) "__getattr__" = some none) && (decide (PySem.W.subIn K (.ref D) (.type "BaseException") = some true) && (PySem.W.hasDictIn K D && (decide (PySem.W.findIn K (.ref D) "__class__" = some (some (.builtin "object.__class__"))) && (decide (PySem.W.specialIn K (.builtin "object.__class__") "__get__" = some (some (.builtin "getset_descriptor.__get__"))) && (decide (PySem.W.takesIn K (.builtin "object.__class__") = some true) && decide (PySem.W.mroIn K D (.type "object") = some true)))))))
theorem excCB_ok {K : PySem.W.Frag} {D : Addr} (h : excCB K D = true) : ExcC K D := by
  obtain ⟨h1, h⟩ := ba h
  obtain ⟨h2, h⟩ := ba h
  obtain ⟨h3, h⟩ := ba h
  obtain ⟨h4, h⟩ := ba h
  obtain ⟨h5, h⟩ := ba h
  obtain ⟨h6, h⟩ := ba h
  obtain ⟨h7, h8⟩ := ba h
  exact ⟨of_decide_eq_true h1, of_decide_eq_true h2, of_decide_eq_true h3, h4, of_decide_eq_true h5, of_decide_eq_true h6, of_decide_eq_true h7, of_decide_eq_true h8⟩
def clsB (K : PySem.W.Frag) (D : Addr) (q : Str × Bool) : Bool := if q.1 = ("ValueError" : Str) then decide (PySem.W.kitOne K (.ref D) (.type "ValueError") = some q.2) else decide (PySem.W.kitOne K (.ref D) (.ref (He.ga K q.1)) = some q.2)
def isxB (K : PySem.W.Frag) (p : Str × List (Str × Bool)) : Bool := excCB K (He.ga K p.1) && (xfB K (He.ga K p.1) && (decide (PySem.W.findIn K (.ref (He.ga K p.1)) "at" = some none) && p.2.all (clsB K (He.ga K p.1))))
def oexB (K : PySem.W.Frag) (C : Addr) : Bool := match K.lookup C with
  | some ⟨.type "type", _, .cls cd, sl⟩ => (match cd.mro, sl.toList with
    | .ref C' :: bm, [_, _, _, _, some (.builtin n), _] => C' == C && n == "ValueError.__new__" && !cd.hasDel && cd.hasDict && PySem.HandSPX.refsVE bm
    | _, _ => false)
  | _ => false
theorem oexB_ok {K : PySem.W.Frag} {C : Addr} (q : oexB K C = true) : ∃ nm qn N bs bm sn sub ab col dd k0 k1 k2 k3 k5, K.lookup C = some (excClassObj nm qn C N bs bm true sn sub ab col dd k0 k1 k2 k3 k5 "ValueError.__new__") ∧ PySem.HandSPX.refsVE bm = true := by
  unfold oexB at q
  split at q
  · rename_i dd cd sl ho
    split at q
    · rename_i C' bm k0 k1 k2 k3 n k5 hm hs
      simp only [Bool.and_eq_true, beq_iff_eq, Bool.not_eq_true'] at q
      obtain ⟨⟨⟨⟨rfl, rfl⟩, hdel⟩, hdd⟩, ht⟩ := q
      obtain ⟨nm, bs, mro, ns, qn, hd, sn, sub, ab, col, del⟩ := cd
      dsimp only at hm hdel hdd
      subst hm hdel hdd
      have hsl : sl = #[k0, k1, k2, k3, some (.builtin "ValueError.__new__"), k5] := by
        obtain ⟨l⟩ := sl
        simp only at hs
        rw [hs]
      subst hsl
      exact ⟨nm, qn, ns, bs, bm, sn, sub, ab, col, dd, k0, k1, k2, k3, k5, ho, ht⟩
    · cases q
  · cases q
def sub2B (K : PySem.W.Frag) (p : Str × List (Str × Bool)) : Bool := oexB K (He.ga K p.1) && (decide (PySem.W.findIn K (.ref (He.ga K p.1)) "__setattr__" = some (some (.builtin "object.__setattr__"))) && (decide (PySem.W.subIn K (.ref (He.ga K p.1)) (.type "BaseException") = some true) && (decide (PySem.W.typeIn K (.ref (He.ga K p.1)) = some (.type "type")) && (PySem.W.keepIn K (.ref (He.ga K p.1)) && (decide (PySem.W.findIn K (.ref (He.ga K p.1)) "__init__" = some (some (.ref (He.fAd K (p.1, some "__init__"))))) && (decide (PySem.W.typeIn K (.ref (He.fAd K (p.1, some "__init__"))) = some (.type "function")) && (decide (PySem.W.findIn K (.ref (He.ga K p.1)) "at" = some none) && p.2.all fun q => decide (PySem.W.exmOne K (.ref (He.ga K p.1)) (.ref (He.ga K q.1)) = some q.2))))))))
/-- a written dict's values -/
def frdB (K : PySem.W.Frag) (q : Str × List (Str × D)) : Bool := q.2.all fun kv => match PySem.W.nsIn K (He.ga K q.1) kv.1, kv.2 with
  | some (some (.ref b)), .frt xs => tupB K b xs
  | _, _ => false
def exP (P : Prog) (K : PySem.W.Frag) : Bool := (glP P K && P.frd.all (frdB K)) && (P.isx.all (isxB K) && P.sub2.all (sub2B K))
/-- the written dicts, with their keys -/
def tbP (P : Prog) : List (Str × List Str) := P.frd.map fun q => (q.1, q.2.map (·.1))
def tbK (tb : List (Str × List Str)) (K : PySem.W.Frag) : List (Option (List (Option (Str × Int)))) := tb.map fun t => He.dicW K (He.ga K t.1)
def tbV (tb : List (Str × List Str)) (w : World) : List (Option (List (Option (Str × Int)))) := tb.map fun t => some (He.keysIn w.params t.2)
def visS (sc : Scope) (x : Str) : Bool := match sc.names.lookup x with
  | some .local => true
  | some .cell => true
  | some .free => true
  | _ => false
/-- __init__ of an error with a field -/
def initS (sc : Scope) (a b : Str) (l : List Stmt) : Bool := match l with
  | [.Assign [.Attribute (.Name x _) f _] (.Name y _) _] => decide (x = a) && decide (y = b) && decide (f = ("at" : Str)) && visS sc a && visS sc b && nmOk a && nmOk b
  | _ => false
def initB (d : He.DefD) : Bool := d.dfl.isEmpty && d.kwd.isEmpty && (match d.params.args.map (·.arg) with
  | [a, b] => plainA d.params [a, b] && scB [a, b] [a, b] d.scope && initS d.scope a b d.body
  | _ => false)
abbrev AlL : Type := (He.AlD × Bool) × List (Option (List (Option (Str × Int))))
def obsL (n : Nat) (fa : List He.Fa) (fn : List He.DefD) (ex : PySem.W.Frag → Bool) (tb : List (Str × List Str)) (g : Addr → Option Obj) : AlL := ((He.obsD fa fn (He.frG g (He.asD g n)), ex (He.frG g (He.asD g n))), tbK tb (He.frG g (He.asD g n)))
def hookL (n : Nat) (fa : List He.Fa) (fn : List He.DefD) (ex : PySem.W.Frag → Bool) (tb : List (Str × List Str)) : PySem.W.Hook where
  α := AlL
  obs := fun s => obsL n fa fn ex tb s.heap.get?
  val := fun w => ((He.valD fn, true), tbV tb w)
  says := fun w h => ∃ K : PySem.W.Frag, K.In h ∧ He.SaysD fa fn K ∧ ex K = true ∧ tbK tb K = tbV tb w
  of := fun _ _ e => ⟨_, He.frG_in, congrArg (fun z : AlL => z.1.1) e, congrArg (fun z : AlL => z.1.2) e, congrArg (fun z : AlL => z.2) e⟩
  keeps := fun _ _ _ ⟨K, hK, c, d⟩ k => ⟨K, PySem.W.Frag.In.keeps hK k, c, d⟩
theorem obsL_eq {n : Nat} {fa : List He.Fa} {fn : List He.DefD} {ex : PySem.W.Frag → Bool} {tb : List (Str × List Str)} {g : Addr → Option Obj} {s : Shared} (h : ∀ a, g a = s.heap.get? a) : obsL n fa fn ex tb g = (hookL n fa fn ex tb).obs s := by
  have e : g = s.heap.get? := funext h
  rw [e] <;> rfl
theorem relStr_ok {K : PySem.W.Frag} : ∀ {xs : List D} {us : List Value}, relStr xs us = true → ∃ vs, Vals vs us ∧ ∀ L H, RelDs K L H xs vs
  | [], [], _ => ⟨[], .nil, fun _ _ => RelDs.nil⟩
  | [], _ :: _, h => by cases h
  | x :: r, [], h => by cases x <;> cases h
  | x :: r, u :: q, h => by
    unfold relStr at h
    split at h
    · rename_i e _; cases e
    · rename_i s r' z t q' e1 e2
      cases e1; cases e2
      obtain ⟨h1, h2⟩ := ba h
      have := of_decide_eq_true h1
      subst this
      obtain ⟨vs, v1, v2⟩ := relStr_ok (K := K) h2
      exact ⟨.str s :: vs, .cons ⟨t, rfl⟩ v1, fun L H => RelDs.cons (by simp [RelD]) (v2 L H)⟩
    · cases h
theorem tupB_ok {K : PySem.W.Frag} {a : Addr} {xs : List D} (h : tupB K a xs = true) (L : List Addr) (H : Hp) : RelD K L H (.frt xs) (.ref a) := by
  unfold tupB at h
  split at h
  · rename_i c od its n osl e
    obtain ⟨h1, h2⟩ := ba h
    obtain ⟨h2, h3⟩ := ba h2
    have := of_decide_eq_true h1
    subst this
    obtain ⟨vs, v1, v2⟩ := relStr_ok (K := K) h3
    simp only [RelD]
    exact ⟨a, vs, rfl, ⟨_, its, n, e, rfl, rfl, Nat.le_trans (of_decide_eq_true h2) (by rw [sizeLine_eq]; decide), v1⟩, v2 L H⟩
  · cases h
def hasExc (fa : List He.Fa) (x : Str) : Bool := fa.any fun a => match a with
  | .exc y => decide (y = x)
  | _ => false
def hasExm (fa : List He.Fa) (x y : Str) (b : Bool) : Bool := fa.any fun a => match a with
  | .exm z w c => decide (z = x) && decide (w = y) && (c == b)
  | _ => false
def subB (fa : List He.Fa) (p : Str × List (Str × Bool)) : Bool := hasGlo fa p.1 && hasExc fa p.1 && p.2.all fun q => hasExm fa p.1 q.1 q.2
def hasCls (fa : List He.Fa) (x : Str) : Bool := fa.any fun a => match a with
  | .cls y => decide (y = x)
  | _ => false
def hasMkr (fa : List He.Fa) (x : Str) : Bool := fa.any fun a => match a with
  | .mkr y => decide (y = x)
  | _ => false
def hasNoat (fa : List He.Fa) (x f : Str) : Bool := fa.any fun a => match a with
  | .noat y g => decide (y = x) && decide (g = f)
  | _ => false
def hasMeth (fa : List He.Fa) (x f : Str) : Bool := fa.any fun a => match a with
  | .meth y g => decide (y = x) && decide (g = f)
  | _ => false
def klB (P : Prog) (fa : List He.Fa) (q : Str × List Str × List (Str × Str)) : Bool := hasGlo fa q.1 && hasCls fa q.1 && hasMkr fa q.1 && q.2.1.all (hasNoat fa q.1) && q.2.2.all fun r => hasMeth fa q.1 r.1 && eqAt (atOf P r.2) (q.1, some r.1)
def isxF (fa : List He.Fa) (p : Str × List (Str × Bool)) : Bool := p.2.all fun q => if q.1 = ("ValueError" : Str) then hasFree fa q.1 else hasGlo fa q.1
def sub2F (fa : List He.Fa) (fn : List He.DefD) (p : Str × List (Str × Bool)) : Bool := hasGlo fa p.1 && fn.any fun d => eqAt d.at_ (p.1, some "__init__") && initB d
def xdB (fa : List He.Fa) (fn : List He.DefD) (p : Str × Def) : Bool := hasGlo fa p.1 && fn.any fun d => eqAt d.at_ (p.1, none) && xdB1 p.2 d
def allB (P : Prog) (fa : List He.Fa) (fn : List He.DefD) : Bool := (P.isx.all (isxF fa) && (P.sub2.all (sub2F fa fn) && (P.frd.all (fun q => hasGlo fa q.1) && P.xdefs.all (xdB fa fn)))) && (tabB P P.defs fn && P.defs.all (fun p => hasGlo fa p.1 || (atOf P p.1).2.isSome) && P.kl.all (klB P fa) && bltN.all (hasFree fa) && P.glob.all (gloB1 fa) && P.subs.all (subB fa))
section
variable {P : Prog} {fa : List He.Fa} {fn : List He.DefD} {K : PySem.W.Frag} {h : Heap} {mg : Str → Option Value}
theorem lookup_mem {α : Type} {l : List (Str × α)} {x : Str} {a : α} (e : l.lookup x = some a) : (x, a) ∈ l := PySem.mem_of_lookup e
theorem mem_facts (c : He.SaysD fa fn K) {f : He.Fa} (hf : f ∈ fa) : f.ok K = true := by
  obtain ⟨i, hi, e⟩ := List.mem_iff_getElem.mp hf
  exact c.fact i (f := f) (by rw [List.getElem?_eq_getElem hi, e])
theorem mem_defs (c : He.SaysD fa fn K) {d : He.DefD} (hd : d ∈ fn) : ∃ fd, FunD K d.name d.qual d.params d.body d.scope (d.dvs K) (d.kws K) (He.fAd K d.at_) fd := by
  obtain ⟨i, hi, e⟩ := List.mem_iff_getElem.mp hd
  exact c.def_ i (d := d) (by rw [List.getElem?_eq_getElem hi, e])
theorem glo_has (X : K.In h) (G : h.Ns mainGlobals mg) (c : He.SaysD fa fn K) {x : Str} (b : hasGlo fa x = true) : mg x = some (.ref (He.ga K x)) := by
  obtain ⟨f, hf, e⟩ := List.any_eq_true.mp b
  split at e
  · have := of_decide_eq_true e
    subst this
    exact He.glo_ok X G (mem_facts c hf)
  · cases e
theorem free_has (X : K.In h) (G : h.Ns mainGlobals mg) (c : He.SaysD fa fn K) {x : Str} (b : hasFree fa x = true) : mg x = none := by
  obtain ⟨f, hf, e⟩ := List.any_eq_true.mp b
  split at e
  · have := of_decide_eq_true e
    subst this
    exact He.free_ok X G (mem_facts c hf)
  · cases e
theorem gloB1_ok (X : K.In h) (G : h.Ns mainGlobals mg) (c : He.SaysD fa fn K) {q : Str × D} (b : gloB1 fa q = true) (b2 : ∀ xs, q.2 = .frt xs → tupB K (He.ga K q.1) xs = true) : ∃ v u, mg q.1 = some u ∧ RelV v u ∧ ∀ L H, RelD K L H q.2 v := by
  unfold gloB1 at b
  split at b
  · rename_i i e
    obtain ⟨f, hf, e1⟩ := List.any_eq_true.mp b
    split at e1
    · obtain ⟨e2, e3⟩ := ba e1
      have := of_decide_eq_true e2
      have := of_decide_eq_true e3
      subst_vars
      obtain ⟨t, ht⟩ := He.int_ok X G (mem_facts c hf)
      exact ⟨.int _, _, ht, ⟨t, rfl⟩, fun L H => by rw [e]; simp [RelD]⟩
    · cases e1
  · rename_i z e
    obtain ⟨f, hf, e1⟩ := List.any_eq_true.mp b
    split at e1
    · obtain ⟨e2, e3⟩ := ba e1
      have := of_decide_eq_true e2
      have := of_decide_eq_true e3
      subst_vars
      obtain ⟨t, ht⟩ := He.str_ok X G (mem_facts c hf)
      exact ⟨.str _, _, ht, ⟨t, rfl⟩, fun L H => by rw [e]; simp [RelD]⟩
    · cases e1
  · rename_i xs e
    exact ⟨.ref (He.ga K q.1), _, glo_has X G c b, rfl, fun L H => by rw [e]; exact tupB_ok (b2 xs e) L H⟩
  · cases b
theorem exc_has (c : He.SaysD fa fn K) {x : Str} (b : hasExc fa x = true) : (He.Fa.exc x).ok K = true := by
  obtain ⟨f, hf, e⟩ := List.any_eq_true.mp b
  split at e
  · have := of_decide_eq_true e
    subst this
    exact mem_facts c hf
  · cases e
theorem exm_has (c : He.SaysD fa fn K) {x y : Str} {z : Bool} (b : hasExm fa x y z = true) : PySem.W.exmOne K (.ref (He.ga K x)) (.ref (He.ga K y)) = some z := by
  obtain ⟨f, hf, e⟩ := List.any_eq_true.mp b
  split at e
  · obtain ⟨e, e3⟩ := ba e
    obtain ⟨e1, e2⟩ := ba e
    have := of_decide_eq_true e1
    have := of_decide_eq_true e2
    have := eq_of_beq e3
    subst_vars
    exact of_decide_eq_true (mem_facts c hf)
  · cases e
theorem nd_ok : ∀ {N : List Str}, ndB N = true → N.Nodup
  | [], _ => List.nodup_nil
  | x :: r, e => by
    unfold ndB at e
    obtain ⟨e1, e2⟩ := ba e
    refine List.nodup_cons.mpr ⟨fun hm => ?_, nd_ok e2⟩
    have : (r.any fun y => decide (y = x)) = true := List.any_eq_true.mpr ⟨x, hm, by simp⟩
    rw [this] at e1
    cases e1
theorem sc_ok {N ps : List Str} {sc : Scope} (e : scB N ps sc = true) : FnScope N ps sc := by
  unfold scB at e
  obtain ⟨e, e7⟩ := ba e
  obtain ⟨e, e6⟩ := ba e
  obtain ⟨e, e5⟩ := ba e
  obtain ⟨e, e4⟩ := ba e
  obtain ⟨e, e3⟩ := ba e
  obtain ⟨e1, e2⟩ := ba e
  refine ⟨?_, by simpa using e2, by simpa using e3, nd_ok e4, of_decide_eq_true e5, fun x hx => ?_, fun y hy z => ?_⟩
  · unfold fnKind at e1
    split at e1
    · assumption
    · cases e1
  · have := List.all_eq_true.mp e6 x hx
    unfold parB at this
    split at this
    · exact .inl (by assumption)
    · exact .inr (by assumption)
    · cases this
  · have := List.all_eq_true.mp e7 y hy
    unfold nofB at this
    rw [z] at this
    cases this
theorem eqAt_ok {a b : Str × Option Str} (h : eqAt a b = true) : a = b := by
  unfold eqAt at h
  obtain ⟨h1, h2⟩ := ba h
  obtain ⟨a1, a2⟩ := a
  obtain ⟨b1, b2⟩ := b
  have h1 := of_decide_eq_true h1
  simp only at h1 h2
  subst h1
  cases a2 <;> cases b2 <;> first | rfl | (cases h2; done) | (rw [of_decide_eq_true h2])
theorem cls_has (c : He.SaysD fa fn K) {x : Str} (b : hasCls fa x = true) : Cls K (He.ga K x) := by
  obtain ⟨f, hf, e⟩ := List.any_eq_true.mp b
  split at e
  · have := of_decide_eq_true e
    subst this
    exact He.cls_ok (mem_facts c hf)
  · cases e
theorem mkr_has (c : He.SaysD fa fn K) {x : Str} (b : hasMkr fa x = true) : Mk K (He.ga K x) (He.ma K (He.ga K x) "__init__") := by
  obtain ⟨f, hf, e⟩ := List.any_eq_true.mp b
  split at e
  · have := of_decide_eq_true e
    subst this
    exact He.mkr_ok (mem_facts c hf)
  · cases e
theorem noat_has (c : He.SaysD fa fn K) {x g : Str} (b : hasNoat fa x g = true) : NoAttr K (He.ga K x) g := by
  obtain ⟨f, hf, e⟩ := List.any_eq_true.mp b
  split at e
  · obtain ⟨e1, e2⟩ := ba e
    have := of_decide_eq_true e1
    have := of_decide_eq_true e2
    subst_vars
    exact He.noat_ok (mem_facts c hf)
  · cases e
theorem meth_has (c : He.SaysD fa fn K) {x g : Str} (b : hasMeth fa x g = true) : Meth K (He.ga K x) g (He.ma K (He.ga K x) g) := by
  obtain ⟨f, hf, e⟩ := List.any_eq_true.mp b
  split at e
  · obtain ⟨e1, e2⟩ := ba e
    have := of_decide_eq_true e1
    have := of_decide_eq_true e2
    subst_vars
    exact He.meth_ok (mem_facts c hf)
  · cases e
theorem hasS_ok {l : List Str} {x : Str} (h : hasS l x = true) : x ∈ l := by
  obtain ⟨y, hy, e⟩ := List.any_eq_true.mp h
  rw [← of_decide_eq_true e]; exact hy
/-- a method's class -/
theorem key_ok (hk : P.kl.all (klB P fa) = true) {y m key : Str} (h : keyOf P y m = some key) : ∃ fs ms, (y, fs, ms) ∈ P.kl ∧ hasCls fa y = true ∧ hasGlo fa y = true ∧ hasMkr fa y = true ∧ hasMeth fa y m = true ∧ atOf P key = (y, some m) := by
  unfold keyOf at h
  split at h
  · rename_i fs ms e
    have hm := lookup_mem e
    have hb := List.all_eq_true.mp hk _ hm
    unfold klB at hb
    obtain ⟨hb, b5⟩ := ba hb
    obtain ⟨hb, b4⟩ := ba hb
    obtain ⟨hb, b3⟩ := ba hb
    obtain ⟨b1, b2⟩ := ba hb
    obtain ⟨c1, c2⟩ := ba (List.all_eq_true.mp b5 _ (lookup_mem h))
    exact ⟨fs, ms, hm, b2, b1, b3, c1, eqAt_ok c2⟩
  · cases h
theorem tab_ok : ∀ {ps : List (Str × Def)} {ds : List He.DefD}, tabB P ps ds = true → ∀ p ∈ ps, ∃ d ∈ ds, d.at_ = atOf P p.1 ∧ defB P (nrOf P p.1) p.2 d = true
  | [], _, _, p, hp => by cases hp
  | q :: ps, [], e, p, hp => by cases e
  | q :: ps, d :: ds, e, p, hp => by
    unfold tabB at e
    split at e
    · rename_i ha
      obtain ⟨e1, e2⟩ := ba e
      rcases List.mem_cons.mp hp with rfl | hp
      · exact ⟨d, List.mem_cons_self .., eqAt_ok ha, e1⟩
      · obtain ⟨d', hd, r⟩ := tab_ok e2 p hp
        exact ⟨d', List.mem_cons_of_mem _ hd, r⟩
    · obtain ⟨d', hd, r⟩ := tab_ok e p hp
      exact ⟨d', List.mem_cons_of_mem _ hd, r⟩
theorem zip_look : ∀ {ps : List Str} {us : List Value}, ps.Nodup → us.length = ps.length → ∀ n ∈ ps, ∃ u, (ps.zip us).lookup n = some u
  | [], _, _, _, n, h => by cases h
  | p :: ps, [], _, hl, n, h => by simp at hl
  | p :: ps, u :: us, nd, hl, n, h => by
    rw [List.zip_cons_cons, List.lookup_cons]
    by_cases e : n = p
    · subst e; simp
    · have e2 : (n == p) = false := by simpa using e
      rw [e2]
      refine zip_look (List.nodup_cons.mp nd).2 (by simpa using hl) n ?_
      rcases List.mem_cons.mp h with h | h
      · exact absurd h e
      · exact h
theorem fm_congr {α β : Type} {f g : α → Option β} : ∀ {l : List α}, (∀ x ∈ l, f x = g x) → l.filterMap f = l.filterMap g
  | [], _ => rfl
  | x :: l, h => by
    rw [List.filterMap_cons, List.filterMap_cons, h x (List.mem_cons_self ..), fm_congr fun y hy => h y (List.mem_cons_of_mem _ hy)]
theorem zip_all : ∀ {ps : List Str} {us : List Value}, ps.Nodup → us.length = ps.length → ps.filterMap (fun n => ((ps.zip us).lookup n).map (n, ·)) = ps.zip us
  | [], _, _, _ => by simp
  | p :: ps, [], _, hl => by simp at hl
  | p :: ps, u :: us, nd, hl => by
    have nd1 := List.nodup_cons.mp nd
    rw [List.zip_cons_cons, List.filterMap_cons]
    simp only [List.lookup_cons, beq_self_eq_true, Option.map_some]
    congr 1
    refine Eq.trans ?_ (zip_all nd1.2 (by simpa using hl))
    refine fm_congr fun n hn => ?_
    have e2 : (n == p) = false := by
      have : n ≠ p := fun e => nd1.1 (e ▸ hn)
      simpa using this
    show Option.map _ (match n == p with | true => some u | false => _) = _
    rw [e2]
theorem plain_binds {x qual : Str} {params : Arguments} {body : List Stmt} {sc : Scope} {ps : List Str} (e : plainA params ps = true) (nd : ps.Nodup) (kV doc pm : Value) (an : Option Addr) (cdv ct : Value) (us : List Value) (hl : us.length = ps.length) :
    bindArgs (PySem.W.fnOf x qual params body sc .none kV doc pm an cdv ct) ⟨us, []⟩ = pure (ps.zip us) := by
  unfold plainA at e
  obtain ⟨e, e6⟩ := ba e
  obtain ⟨e, e5⟩ := ba e
  obtain ⟨e, e4⟩ := ba e
  obtain ⟨e, e3⟩ := ba e
  obtain ⟨e1, e2⟩ := ba e
  obtain ⟨po, ar, va, ko, kd, ka, df⟩ := params
  have h5 := of_decide_eq_true e5
  have h6 := of_decide_eq_true e6
  clear e5 e6
  simp only at e1 e2 e3 e4 h5
  cases po with
  | cons _ _ => cases e1
  | nil =>
  cases va with
  | some _ => cases e2
  | none =>
  cases ko with
  | cons _ _ => cases e3
  | nil =>
  cases ka with
  | some _ => cases e4
  | none =>
  have hp : (ar.map (·.arg)).Nodup := h5 ▸ nd
  subst h5
  have e0 : seqItems? Value.none = pure none := rfl
  have hz := zip_look hp hl
  have hf := zip_all hp hl
  simp only [List.length_map] at hl
  have hm : ∀ j, ((ar.map (·.arg)).take j).filter (fun n => (((ar.map (·.arg)).zip us).lookup n).isNone) = [] := fun j => by
    rw [List.filter_eq_nil_iff]
    intro n hn
    obtain ⟨u, e⟩ := hz n (List.mem_of_mem_take hn)
    rw [e]
    simp
  rw [List.filterMap_map] at hf
  unfold bindArgs PySem.W.fnOf
  simp [e0, hl]
  rw [if_neg]
  · rw [hf]
  · simp only [List.map_nil, List.nil_append]
    rw [hm]
    simp
theorem zip_look2 : ∀ {ps : List Str} {us : List Value}, ps.Nodup → ∀ (i : Nat) (n : Str), ps[i]? = some n → (ps.zip us).lookup n = us[i]?
  | [], _, _, i, n, h => by simp at h
  | p :: ps, [], _, i, n, h => by simp
  | p :: ps, u :: us, nd, i, n, h => by
    have nd1 := List.nodup_cons.mp nd
    rw [List.zip_cons_cons, List.lookup_cons]
    cases i with
    | zero => simp at h; subst h; simp
    | succ i =>
      simp at h
      have e2 : (n == p) = false := by
        have : n ≠ p := fun e => nd1.1 (e ▸ List.mem_of_getElem? h)
        simpa using this
      rw [e2]
      simpa using zip_look2 nd1.2 i n h
theorem plain_binds1 {x qual : Str} {params : Arguments} {body : List Stmt} {sc : Scope} {ps : List Str} (e : plainA params ps = true) (nd : ps.Nodup) (T : Addr) (kV doc pm : Value) (an : Option Addr) (cdv ct : Value) (us its : List Value) (j : Nat) (hj : j ≤ 1) (hp : 1 ≤ ps.length) (h1 : its.length = 1) (hl : us.length + (1 - j) = ps.length) :
    ∃ k, bindArgs (PySem.W.fnOf x qual params body sc (.ref T) kV doc pm an cdv ct) ⟨us, []⟩ = seqItems? (.ref T) >>= k ∧ k (some its.toArray) = pure (ps.zip (us ++ its.drop j)) := by
  unfold plainA at e
  obtain ⟨e, e6⟩ := ba e
  obtain ⟨e, e5⟩ := ba e
  obtain ⟨e, e4⟩ := ba e
  obtain ⟨e, e3⟩ := ba e
  obtain ⟨e1, e2⟩ := ba e
  obtain ⟨po, ar, va, ko, kd, ka, df⟩ := params
  have h5 := of_decide_eq_true e5
  clear e5 e6
  simp only at e1 e2 e3 e4 h5
  cases po with
  | cons _ _ => cases e1
  | nil =>
  cases va with
  | some _ => cases e2
  | none =>
  cases ko with
  | cons _ _ => cases e3
  | nil =>
  cases ka with
  | some _ => cases e4
  | none =>
  obtain ⟨d, rfl⟩ : ∃ d, its = [d] := by
    cases its with
    | nil => cases h1
    | cons d r => cases r with
      | nil => exact ⟨d, rfl⟩
      | cons _ _ => simp at h1
  clear e1 e2 e3 e4 h1
  subst h5
  unfold bindArgs PySem.W.fnOf
  simp
  refine ⟨_, rfl, ?_⟩
  have hz := zip_look2 (ps := ar.map (·.arg)) (us := us) nd
  have hla : ¬ ar.length < us.length := by simp at hl; omega
  have hg : (ar.map (·.arg)).length - 1 ≤ us.length := by omega
  rw [if_neg hla]
  simp
  simp only [List.length_map] at hp hl hg
  have q1 : 1 - ar.length = 0 := by omega
  have q2 : ar.length - (1 - (1 - ar.length)) = ar.length - 1 := by omega
  have hf : List.filter (fun n => (List.lookup n ((List.map (fun x => x.arg) ar).zip us)).isNone) (List.take (ar.length - 1) (List.map (fun x => x.arg) ar)) = [] := by
    rw [List.filter_eq_nil_iff]
    intro n hn
    obtain ⟨i, hi, e⟩ := List.getElem_of_mem hn
    simp at hi
    have e3 : (List.map (fun x => x.arg) ar)[i]? = some n := by
      rw [← e, List.getElem_take]
      simp [show i < ar.length by omega]
    rw [hz i n e3]
    simp [show i < us.length by omega]
  have hfm : ∀ ws : List Value, ws.length = ar.length → ar.filterMap ((fun n => Option.map (fun x => (n, x)) (List.lookup n ((List.map (fun x => x.arg) ar).zip ws))) ∘ fun x => x.arg) = (List.map (fun x => x.arg) ar).zip ws := fun ws hw => by
    have := zip_all (ps := List.map (fun x => x.arg) ar) (us := ws) nd (by simpa using hw)
    rw [List.filterMap_map] at this
    exact this
  simp only [q1, q2, List.map_nil, List.nil_append, List.length_map, List.length_drop, List.size_toArray, List.length_cons, List.length_nil, Nat.zero_add, List.drop_zero]
  simp only [Nat.sub_zero, hf]
  simp
  obtain ⟨N0, z, hN⟩ : ∃ N0 z, List.map (fun x : Arg => x.arg) ar = N0 ++ [z] := by
    refine ⟨(List.map (fun x : Arg => x.arg) ar).dropLast, (List.map (fun x : Arg => x.arg) ar).getLast (by intro e; simp at e; subst e; simp at hp), ?_⟩
    rw [List.dropLast_concat_getLast]
  have hN0 : N0.length = ar.length - 1 := by
    have := congrArg List.length hN
    simp at this; omega
  have hzl := hz (ar.length - 1) z (by rw [hN, ← hN0]; simp)
  have hd : List.drop (ar.length - 1) (List.map (fun x : Arg => x.arg) ar) = [z] := by
    rw [hN, ← hN0]; simp
  rw [hd]
  simp only [List.zip_cons_cons, List.zip_nil_right, List.forIn_cons, List.forIn_nil, hzl]
  by_cases hj0 : j = 0
  · subst hj0
    have hlu : us.length = ar.length - 1 := by omega
    have e1 : us[ar.length - 1]? = none := by simp; omega
    simp only [e1]
    have e2 : (List.map (fun x : Arg => x.arg) ar).zip us ++ [(z, d)] = (List.map (fun x : Arg => x.arg) ar).zip (us ++ [d]) := by
      rw [hN, List.zip_append (by omega)]
      have : (N0 ++ [z]).zip us = N0.zip us := by
        have h2 := List.zip_append (l₁ := N0) (l₂ := us) (r₁ := [z]) (r₂ := ([] : List Value)) (by omega)
        rw [List.append_nil] at h2
        rw [h2]; simp
      rw [this]; rfl
    simp [e2, hfm (us ++ [d]) (by simp; omega)]
  · have hj1 : j = 1 := by omega
    subst hj1
    have hlu : us.length = ar.length := by omega
    have e1 : us[ar.length - 1]? = some us[ar.length - 1] := by simp
    simp only [e1]
    simp [hfm us hlu]
theorem plain_bindsK {x qual : Str} {params : Arguments} {body : List Stmt} {sc : Scope} {ps : List Str} (e : plainA params ps = true) (nd : ps.Nodup) (T : Addr) (kV doc pm : Value) (an : Option Addr) (cdv ct : Value) (us its : List Value) (y : Str) (w : Value) (h1 : its.length = 1) (hy : ps.getLast? = some y) (hl : us.length + 1 = ps.length) :
    ∃ k, bindArgs (PySem.W.fnOf x qual params body sc (.ref T) kV doc pm an cdv ct) ⟨us, [(y, w)]⟩ = seqItems? (.ref T) >>= k ∧ k (some its.toArray) = pure (ps.zip (us ++ [w])) := by
  unfold plainA at e
  obtain ⟨e, e6⟩ := ba e
  obtain ⟨e, e5⟩ := ba e
  obtain ⟨e, e4⟩ := ba e
  obtain ⟨e, e3⟩ := ba e
  obtain ⟨e1, e2⟩ := ba e
  obtain ⟨po, ar, va, ko, kd, ka, df⟩ := params
  have h5 := of_decide_eq_true e5
  clear e5 e6
  simp only at e1 e2 e3 e4 h5
  cases po with
  | cons _ _ => cases e1
  | nil =>
  cases va with
  | some _ => cases e2
  | none =>
  cases ko with
  | cons _ _ => cases e3
  | nil =>
  cases ka with
  | some _ => cases e4
  | none =>
  obtain ⟨d, rfl⟩ : ∃ d, its = [d] := by
    cases its with
    | nil => cases h1
    | cons d r => cases r with
      | nil => exact ⟨d, rfl⟩
      | cons _ _ => simp at h1
  clear e1 e2 e3 e4 h1
  subst h5
  obtain ⟨N0, hN⟩ : ∃ N0, ar.map (·.arg) = N0 ++ [y] := ⟨(ar.map (·.arg)).dropLast, by
    have hne : ar.map (·.arg) ≠ [] := fun z => by rw [z] at hy; simp at hy
    have := List.dropLast_concat_getLast hne
    rw [List.getLast?_eq_some_getLast hne] at hy
    rw [Option.some.inj hy] at this
    exact this.symm⟩
  have hN0 : N0.length = us.length := by
    have := congrArg List.length hN
    simp at this hl; omega
  have hcon : (ar.map (·.arg)).contains y = true := by rw [hN]; simp
  have hz := zip_look2 (ps := ar.map (·.arg)) (us := us) nd
  have hlk : List.lookup y ((ar.map (·.arg)).zip us) = none := by
    rw [hz us.length y (by rw [hN, ← hN0]; simp)]
    simp
  have e2 : (ar.map (·.arg)).zip us ++ [(y, w)] = (ar.map (·.arg)).zip (us ++ [w]) := by
    rw [hN, List.zip_append (by omega)]
    have : (N0 ++ [y]).zip us = N0.zip us := by
      have h2 := List.zip_append (l₁ := N0) (l₂ := us) (r₁ := [y]) (r₂ := ([] : List Value)) (by omega)
      rw [List.append_nil] at h2
      rw [h2]; simp
    rw [this]; rfl
  have hlen : (us ++ [w]).length = (ar.map (·.arg)).length := by simpa using hl
  have hzA := zip_look nd hlen
  have hfA := zip_all nd hlen
  rw [List.filterMap_map] at hfA
  have hla : ¬ ar.length < us.length := by simp at hl; omega
  unfold bindArgs PySem.W.fnOf
  simp only [List.map_nil, List.nil_append, List.forIn_cons, List.forIn_nil, hcon, hlk, e2, Bool.true_or, if_true, Option.isSome_none, Bool.false_eq_true, if_false, bind_pure_comp, pure_bind]
  simp
  refine ⟨_, rfl, ?_⟩
  rw [if_neg hla]
  simp
  have hg : (ar.map (·.arg)).length - 1 = us.length := by omega
  simp only [List.length_map] at hg hl
  have q1 : 1 - ar.length = 0 := by omega
  have q2 : ar.length - (1 - (1 - ar.length)) = ar.length - 1 := by omega
  have hf : ∀ j, List.filter (fun n => (List.lookup n ((List.map (fun x => x.arg) ar).zip (us ++ [w]))).isNone) (List.take j (List.map (fun x => x.arg) ar)) = [] := fun j => by
    rw [List.filter_eq_nil_iff]
    intro n hn
    obtain ⟨u, e⟩ := hzA n (List.mem_of_mem_take hn)
    rw [e]
    simp
  have hd : List.drop (ar.length - 1) (List.map (fun x : Arg => x.arg) ar) = [y] := by
    rw [hN, hg, ← hN0]; simp
  have hzl : List.lookup y ((List.map (fun x => x.arg) ar).zip (us ++ [w])) = some w := by
    have := zip_look2 (ps := ar.map (·.arg)) (us := us ++ [w]) nd us.length y (by rw [hN, ← hN0]; simp)
    rw [this]
    simp
  simp only [q1, q2, List.map_nil, List.nil_append, List.length_map, List.length_drop, List.size_toArray, List.length_cons, List.length_nil, Nat.zero_add, List.drop_zero]
  simp only [Nat.sub_zero, hf, hd]
  simp [hzl]
  rw [hfA]
theorem dvB_ok {K : PySem.W.Frag} {x : D} {y : He.Dv} (h : dvB x y = true) (L : List Addr) (H : Hp) : RelD K L H x (y.v K) := by
  unfold dvB at h
  split at h
  · have := of_decide_eq_true h; subst this; simp [RelD, He.Dv.v]
  · have := eq_of_beq h; subst this; simp [RelD, He.Dv.v]
  · simp [RelD, He.Dv.v]
  · have := of_decide_eq_true h; subst this; simp [RelD, He.Dv.v]
  · cases h
/-- what stands for the left out arguments -/
theorem binds_of {K : PySem.W.Frag} {m : Def} {d : He.DefD} {f : Addr} {fd : FuncData} (F : FunD K d.name d.qual d.params d.body d.scope (d.dvs K) (d.kws K) f fd) (hd : dflM m d = true) (hp : plainA d.params m.ps = true) (nd : m.ps.Nodup) (n : Nat) (hn : okN m n = true) :
    ∃ (ds : List Value) (dvs : List V), Binds K fd m.ps ds ∧ Vals dvs ds ∧ ∀ L H, RelDs K L H (m.dfl.drop (m.dfl.length - (m.ps.length - n))) dvs := by
  obtain ⟨n1, n2⟩ := ba hn
  have n1 := of_decide_eq_true n1
  have n2 := of_decide_eq_true n2
  unfold dflM at hd
  split at hd
  · rename_i e1 e2
    rw [e1] at n2
    have e3 : d.dvs K = [] := by unfold He.DefD.dvs; rw [e2]; rfl
    rw [e3] at F
    refine ⟨[], [], FunD.bindsN F fun kV doc pm an cdv ct us hl => plain_binds hp nd kV doc pm an cdv ct us hl, .nil, fun L H => ?_⟩
    rw [e1, List.drop_nil]
    exact RelDs.nil
  · rename_i x y e1 e2
    obtain ⟨hd1, hd2⟩ := ba hd
    have hd2 := of_decide_eq_true hd2
    rw [e1] at n2
    simp at n2
    have e3 : d.dvs K = [y.v K] := by unfold He.DefD.dvs; rw [e2]; rfl
    rw [e3] at F
    have key : ∀ j, j ≤ 1 → n + (1 - j) = m.ps.length → ∃ ds, Vals ([y.v K].drop j) ds ∧ Binds K fd m.ps ds := fun j hj hnj => by
      refine FunD.binds1 F n j (by simp) (by simpa using hnj) fun T kV doc pm an cdv ct us its hl1 hl2 => ?_
      exact plain_binds1 hp nd T kV doc pm an cdv ct us its j hj hd2 (by simpa using hl2) (by rw [hl1]; exact hnj)
    rw [e1]
    by_cases hE : n = m.ps.length
    · obtain ⟨ds, v, b⟩ := key 1 (Nat.le_refl _) (by omega)
      refine ⟨ds, _, b, v, fun L H => ?_⟩
      have : [x].length - (m.ps.length - n) = 1 := by simp; omega
      rw [this]
      exact RelDs.nil
    · obtain ⟨ds, v, b⟩ := key 0 (by decide) (by omega)
      refine ⟨ds, _, b, v, fun L H => ?_⟩
      have : [x].length - (m.ps.length - n) = 0 := by simp; omega
      rw [this]
      exact RelDs.cons (dvB_ok hd1 L H) RelDs.nil
  · cases hd
/-- the last parameter is written by its name -/
theorem kbinds_of {K : PySem.W.Frag} {m : Def} {d : He.DefD} {f : Addr} {fd : FuncData} (F : FunD K d.name d.qual d.params d.body d.scope (d.dvs K) (d.kws K) f fd) (hd : dflM m d = true) (hp : plainA d.params m.ps = true) (nd : m.ps.Nodup) (n : Nat) (y : Str) (hn : kwN m n y = true) :
    KBn K fd m.ps n [y] (fun us ws => us ++ ws) (fun vs zs => vs ++ zs) := by
  obtain ⟨hn, n3⟩ := ba hn
  obtain ⟨n1, n2⟩ := ba hn
  have n1 := of_decide_eq_true n1
  have n2 := of_decide_eq_true n2
  have n3 := of_decide_eq_true n3
  unfold dflM at hd
  split at hd
  · rename_i e1 e2
    rw [e1] at n3
    cases n3
  · rename_i x z e1 e2
    have e3 : d.dvs K = [z.v K] := by unfold He.DefD.dvs; rw [e2]; rfl
    rw [e3] at F
    obtain ⟨oc, od, dV, kV, doc, pm, an, cdv, ct, osl, rfl, lk, hcd, hD, hK⟩ := F.ex
    rcases hD with ⟨e, _⟩ | ⟨_, T, o, its, mm, rfl, lT, oT, rT⟩
    · cases e
    · refine ⟨fun s us ws X l1 l2 => ?_, fun r1 r2 => r1.append r2⟩
      obtain ⟨w, rfl⟩ : ∃ w, ws = [w] := by
        cases ws with
        | nil => cases l2
        | cons w r => cases r with
          | nil => exact ⟨w, rfl⟩
          | cons _ _ => simp at l2
      obtain ⟨k, e1', e2'⟩ := plain_bindsK hp nd T kV doc pm an cdv ct us its y w rT.length.symm n2 (by omega)
      refine BindsTo.of_looks fun M => ?_
      show PySem.W.Looks M s.heap (bindArgs _ ⟨us, [(y, w)]⟩) _
      rw [e1']
      exact looks_items X lT oT (.of_pure e2')
  · cases hd
theorem padD_len {m : Def} {xs : List D} (h : okN m xs.length = true) : (padD m xs).length = m.ps.length := by
  obtain ⟨n1, n2⟩ := ba h
  have n1 := of_decide_eq_true n1
  have n2 := of_decide_eq_true n2
  unfold padD
  simp
  omega
theorem callN_pad {P : Prog} {fuel k : Nat} {g : Str} {m : Def} {xs : List D} {S : Store} (e : P.defs.lookup g = some m) (h : okN m xs.length = true) : callN P fuel k g xs S = callN P fuel k g (padD m xs) S := by
  cases k with
  | zero => rfl
  | succ k =>
    have h1 := padD_len h
    have h2 : padD m (padD m xs) = padD m xs := by
      generalize padD m xs = ys at *
      unfold padD
      rw [h1]; simp
    unfold callN
    rw [e]
    simp only [h2]
theorem takes_ofM {X : Cx} {E : XK} {n : Bool} (hs : X.stack = X.env :: X.outer) (hf : X.env.frame = some X.env.locals) (hex : X.ex = []) {E₁ : Value → Shared → Prop}
    (hx : X.xe = fun e s' => wpAny (model X.prog X.w) X.A (leaving X.env e) (fun _ s'' => CXm n X.prog X.w X.outer X.H_0 X.s_0 E e s'') E₁ s') : TakesM n X (fun cls d _ H => E cls d H) := by
  cases n with
  | true => exact L2N.takes_of (E := E) hs hf hex hx
  | false => exact takes_of (E := E) hs hf hex hx
/-- what a def of the table promises at level k -/
def spF (CA : Str → Addr) (K : PySem.W.Frag) (P : Prog) (fuel k : Nat) (f : Str) (n : Nat) : Sp := fun vs H Q E => vs.length = n ∧ ∃ S L ds, Good K CA S L H ∧ RelDs K L H ds vs ∧
  Aft K CA (fun c d _ H' => E c d H') [] L H (callN P fuel k f ds S) fun d _ L' H' => ∀ v, RelD K L' H' d v → Q v H'
theorem envR_start {N : List Str} {ds : List D} {vs : List V} {L : List Addr} {H : Hp} (r : RelDs K L H ds vs) : EnvR K none L H (ds.map some ++ List.replicate (N.length - ds.length) none) (L2.start N vs) := by
  have hl := r.length
  unfold L2.start
  refine ⟨by simp [hl], fun i d hi => ?_, fun j a o h => by cases h⟩
  by_cases h : i < ds.length
  · rw [List.getElem?_append_left (by simpa using h), List.getElem?_map] at hi
    cases e : ds[i]? with
    | none => rw [e] at hi; cases hi
    | some d' =>
      rw [e] at hi
      cases hi
      obtain ⟨v, e1, r1⟩ := r.get e
      exact ⟨v, by rw [List.getElem?_append_left (by rw [List.length_map, hl]; exact h), List.getElem?_map, e1]; rfl, r1⟩
  · rw [List.getElem?_append_right (by simpa using h)] at hi
    rw [List.getElem?_replicate] at hi
    split at hi <;> cases hi
theorem sub2_exm {p : Str × List (Str × Bool)} (h : sub2B K p = true) : ∀ y b, (y, b) ∈ p.2 → PySem.W.exmOne K (.ref (He.ga K p.1)) (.ref (He.ga K y)) = some b := by
  intro y b hm
  obtain ⟨_, h⟩ := ba h
  obtain ⟨_, h⟩ := ba h
  obtain ⟨_, h⟩ := ba h
  obtain ⟨_, h⟩ := ba h
  obtain ⟨_, h⟩ := ba h
  obtain ⟨_, h⟩ := ba h
  obtain ⟨_, h⟩ := ba h
  obtain ⟨_, h⟩ := ba h
  exact of_decide_eq_true (List.all_eq_true.mp h (y, b) hm)
theorem xi_ok {Xc : Cx} (X : K.In h) (G : h.Ns mainGlobals mg) (c : He.SaysD fa fn K) (bx : P.isx.all (isxF fa) = true) (hXi : P.isx.all (isxB K) = true) {x y : Str} {b : Bool} (hx : ((P.isx.lookup x).bind fun l => l.lookup y) = some b) (hK : Xc.K = K := by rfl) (hm : Xc.mg = mg := by rfl) :
    ExcC Xc.K (He.ga K x) ∧ ∃ cv, ClsV Xc (He.ga K) y cv ∧ PySem.W.kitOne Xc.K (.ref (He.ga K x)) cv = some b := by
  subst hK hm
  cases e2 : P.isx.lookup x with
  | none => rw [e2] at hx; cases hx
  | some l =>
    rw [e2] at hx
    have hl := lookup_mem (show l.lookup y = some b from hx)
    have e4 := List.all_eq_true.mp hXi (x, l) (lookup_mem e2)
    have e5 := List.all_eq_true.mp (List.all_eq_true.mp bx (x, l) (lookup_mem e2)) (y, b) hl
    obtain ⟨f1, e4⟩ := ba e4
    obtain ⟨f2, e4⟩ := ba e4
    obtain ⟨f3, f4⟩ := ba e4
    have f5 := List.all_eq_true.mp f4 (y, b) hl
    refine ⟨excCB_ok f1, ?_⟩
    unfold clsB at f5
    by_cases hy : y = ("ValueError" : Str)
    · simp only [hy, if_true] at f5 e5
      exact ⟨_, .inr ⟨by rw [hy]; exact free_has X G c e5, hy, rfl⟩, of_decide_eq_true f5⟩
    · simp only [if_neg hy] at f5 e5
      exact ⟨_, .inl ⟨glo_has X G c e5, rfl⟩, of_decide_eq_true f5⟩
theorem visS_ok {sc : Scope} {x : Str} (h : visS sc x = true) : Vis sc x := by
  unfold visS at h
  split at h
  · exact .inl (by assumption)
  · exact .inr (.inl (by assumption))
  · exact .inr (.inr (by assumption))
  · cases h
theorem xo_ok {Xc : Cx} (X : K.In h) (G : h.Ns mainGlobals mg) (c : He.SaysD fa fn K) {p : Str × List (Str × Bool)} (b1 : sub2F fa fn p = true) (b2 : sub2B K p = true) (hKb : K.In Xc.base) (hGb : Xc.base.Ns mainGlobals mg) (hr : Room 2 Xc.A) (hK : Xc.K = K := by rfl) (hm : Xc.mg = mg := by rfl) : XoOk Xc (He.ga K) p.1 := by
  subst hK hm
  obtain ⟨g1, g2⟩ := ba b1
  obtain ⟨d, hd, g3⟩ := List.any_eq_true.mp g2
  obtain ⟨g4, g5⟩ := ba g3
  have hat := eqAt_ok g4
  obtain ⟨f1, b2⟩ := ba b2
  obtain ⟨f2, b2⟩ := ba b2
  obtain ⟨f3, b2⟩ := ba b2
  obtain ⟨f4, b2⟩ := ba b2
  obtain ⟨f5, b2⟩ := ba b2
  obtain ⟨f6, b2⟩ := ba b2
  obtain ⟨f7, b2⟩ := ba b2
  obtain ⟨f8, f9⟩ := ba b2
  have T : OexC Xc.K (He.ga Xc.K p.1) := ⟨oexB_ok f1, of_decide_eq_true f2, of_decide_eq_true f3, of_decide_eq_true f4, f5⟩
  unfold initB at g5
  obtain ⟨g5, g6⟩ := ba g5
  obtain ⟨g7, g8⟩ := ba g5
  split at g6
  · rename_i a b hab
    obtain ⟨g6, g9⟩ := ba g6
    obtain ⟨g10, g11⟩ := ba g6
    obtain ⟨fd, F⟩ := mem_defs c hd
    rw [hat] at F
    have e1 : d.dvs Xc.K = [] := by unfold He.DefD.dvs; rw [List.isEmpty_iff.mp g7]; rfl
    rw [e1] at F
    have sc := sc_ok g11
    have ndP : [a, b].Nodup := sc.nd
    obtain ⟨ds, dvs, hb1, hv1, hr1⟩ := (⟨[], [], FunD.bindsN F fun kV doc pm an cdv ct us hl => plain_binds g10 ndP kV doc pm an cdv ct us hl, .nil, trivial⟩ : ∃ (ds : List Value) (dvs : List V), Binds Xc.K fd [a, b] [] ∧ Vals dvs ds ∧ True)
    refine ⟨He.fAd Xc.K (p.1, some "__init__"), 1, fd, [a, b], fun vs H Q E => ∃ (q : Addr) (v : V), vs = [.ref q, v] ∧ H q = some (exo q (He.ga Xc.K p.1) none) ∧ ∀ dx H', H dx = none → dx ≠ q → H' = upd (upd H dx (exd dx [("at", v)])) q (exo q (He.ga Xc.K p.1) (some dx)) → Q .non H', T, of_decide_eq_true f6, of_decide_eq_true f7, ?_, hr, hb1, glo_has X G c g1, fun q v H Q E h1 h2 => ⟨q, v, rfl, h1, h2⟩⟩
    refine FunD.ok (k := 0) F sc (fun vs H Q E ⟨q, v, e, _⟩ => by rw [e]; rfl) fun cdv A outer s H vs Q E hr2 ⟨q, v, e, h1, h2⟩ => ?_
    subst e
    unfold initS at g9
    split at g9
    · rename_i x p1 f p2 y p3 p4 hbd
      obtain ⟨g9, i7⟩ := ba g9
      obtain ⟨g9, i6⟩ := ba g9
      obtain ⟨g9, i5⟩ := ba g9
      obtain ⟨g9, i4⟩ := ba g9
      obtain ⟨g9, i3⟩ := ba g9
      obtain ⟨i1, i2⟩ := ba g9
      have i1 := of_decide_eq_true i1
      have i2 := of_decide_eq_true i2
      have i3 := of_decide_eq_true i3
      subst i1 i2 i3
      rw [hbd]
      obtain ⟨j1, j2⟩ := nm_of i6
      obtain ⟨j3, j4⟩ := nm_of i7
      refine ⟨_, pss_cons (ps_ost (pe_var (i := 0) rfl (visS_ok i4) j1 j2) (pe_var (i := 1) rfl (visS_ok i5) j3 j4)) pss_nil, ?_⟩
      exact ⟨v, rfl, .ref q, rfl, q, _, rfl, T, of_decide_eq_true f8, .inl ⟨h1, fun dx n ne => h2 dx _ n ne rfl⟩⟩
    · cases g9
  · cases g6
theorem xoh_ok {Xc : Cx} (X : K.In h) (G : h.Ns mainGlobals mg) (c : He.SaysD fa fn K) {p : Str × List (Str × Bool)} (b1 : sub2F fa fn p = true) (b2 : sub2B K p = true) (hKb : K.In Xc.base) (hGb : Xc.base.Ns mainGlobals mg) (hr : Room 2 Xc.A) (hK : Xc.K = K := by rfl) (hm : Xc.mg = mg := by rfl) : XoHot Xc (He.ga K) p.1 := by
  subst hK hm
  obtain ⟨g1, g2⟩ := ba b1
  obtain ⟨d, hd, g3⟩ := List.any_eq_true.mp g2
  obtain ⟨g4, g5⟩ := ba g3
  have hat := eqAt_ok g4
  obtain ⟨f1, b2⟩ := ba b2
  obtain ⟨f2, b2⟩ := ba b2
  obtain ⟨f3, b2⟩ := ba b2
  obtain ⟨f4, b2⟩ := ba b2
  obtain ⟨f5, b2⟩ := ba b2
  obtain ⟨f6, b2⟩ := ba b2
  obtain ⟨f7, b2⟩ := ba b2
  obtain ⟨f8, f9⟩ := ba b2
  have T : OexC Xc.K (He.ga Xc.K p.1) := ⟨oexB_ok f1, of_decide_eq_true f2, of_decide_eq_true f3, of_decide_eq_true f4, f5⟩
  unfold initB at g5
  obtain ⟨g5, g6⟩ := ba g5
  obtain ⟨g7, g8⟩ := ba g5
  split at g6
  · rename_i a b hab
    obtain ⟨g6, g9⟩ := ba g6
    obtain ⟨g10, g11⟩ := ba g6
    obtain ⟨fd, F⟩ := mem_defs c hd
    rw [hat] at F
    have e1 : d.dvs Xc.K = [] := by unfold He.DefD.dvs; rw [List.isEmpty_iff.mp g7]; rfl
    rw [e1] at F
    have sc := sc_ok g11
    have ndP : [a, b].Nodup := sc.nd
    have hb1 := FunD.bindsN F fun kV doc pm an cdv ct us hl => plain_binds g10 ndP kV doc pm an cdv ct us hl
    obtain ⟨oc, od, dV, kV, doc, pm, an, cdv, ct, osl, rfl, lk, hcd, _, _⟩ := F.ex
    refine ⟨He.fAd Xc.K (p.1, some "__init__"), 1, _, [a, b], fun vs H Q E => ∃ (q : Addr) (v : V), vs = [.ref q, v] ∧ H q = some (exo q (He.ga Xc.K p.1) none) ∧ ∀ dx H', H dx = none → dx ≠ q → H' = upd (upd H dx (exd dx [("at", v)])) q (exo q (He.ga Xc.K p.1) (some dx)) → Q .non H', T, of_decide_eq_true f6, of_decide_eq_true f7, ?_, L2H.roomH_of hr, hb1, glo_has X G c g1, fun q v H Q E h1 h2 => ⟨q, v, rfl, h1, h2⟩⟩
    refine L2H.fn_ofH (k := 0) lk hcd sc (fun vs H Q E ⟨q, v, e, _⟩ => by rw [e]; rfl) fun A outer s H vs Q E pn hot hr2 ⟨q, v, e, h1, h2⟩ => ?_
    subst e
    unfold initS at g9
    split at g9
    · rename_i x p1 f p2 y p3 p4 hbd
      obtain ⟨g9, i7⟩ := ba g9
      obtain ⟨g9, i6⟩ := ba g9
      obtain ⟨g9, i5⟩ := ba g9
      obtain ⟨g9, i4⟩ := ba g9
      obtain ⟨g9, i3⟩ := ba g9
      obtain ⟨i1, i2⟩ := ba g9
      have i1 := of_decide_eq_true i1
      have i2 := of_decide_eq_true i2
      have i3 := of_decide_eq_true i3
      subst i1 i2 i3
      rw [hbd]
      obtain ⟨j1, j2⟩ := nm_of i6
      obtain ⟨j3, j4⟩ := nm_of i7
      refine ⟨_, pss_cons (ps_ost (pe_var (i := 0) rfl (visS_ok i4) j1 j2) (pe_var (i := 1) rfl (visS_ok i5) j3 j4)) pss_nil, ?_⟩
      exact ⟨v, rfl, .ref q, rfl, q, _, rfl, T, of_decide_eq_true f8, .inl ⟨h1, fun dx n ne => h2 dx _ n ne rfl⟩⟩
    · cases g9
  · cases g6
theorem xf_ok (hXi : P.isx.all (isxB K) = true) {x y : Str} {b : Bool} (hx : ((P.isx.lookup x).bind fun l => l.lookup y) = some b) : XfC K (He.ga K x) ∧ PySem.W.findIn K (.ref (He.ga K x)) "at" = some none := by
  cases e2 : P.isx.lookup x with
  | none => rw [e2] at hx; cases hx
  | some l =>
    have e4 := List.all_eq_true.mp hXi (x, l) (lookup_mem e2)
    obtain ⟨f1, e4⟩ := ba e4
    obtain ⟨f2, e4⟩ := ba e4
    obtain ⟨f3, f4⟩ := ba e4
    exact ⟨xfB_ok f2, of_decide_eq_true f3⟩
theorem xcl_ok {Xc : Cx} {fuel : Nat} {cl : Str → List D → Store → R D} (X : K.In h) (G : h.Ns mainGlobals mg) (c : He.SaysD fa fn K) (bx : P.isx.all (isxF fa) = true) (hXi : P.isx.all (isxB K) = true) (b3 : bltN.all (hasFree fa) = true) {f : Str} {m : Def} (b : xdB fa fn (f, m) = true) (e : P.xdefs.lookup f = some m) (hr : Room 1 Xc.A) (hK : Xc.K = K := by rfl) (hm : Xc.mg = mg := by rfl) : XclOk Xc (He.ga K) (P.cx fuel cl) f := by
  subst hK hm
  obtain ⟨g1, g2⟩ := ba b
  obtain ⟨d, hd, g3⟩ := List.any_eq_true.mp g2
  obtain ⟨g4, g5⟩ := ba g3
  have hat := eqAt_ok g4
  unfold xdB1 at g5
  obtain ⟨g5, g11⟩ := ba g5
  obtain ⟨g5, g10⟩ := ba g5
  obtain ⟨g5, g9⟩ := ba g5
  obtain ⟨g5, g8⟩ := ba g5
  obtain ⟨g6, g7⟩ := ba g5
  have g6 : m.ps.length = 1 := of_decide_eq_true g6
  obtain ⟨fd, F⟩ := mem_defs c hd
  rw [hat] at F
  have e1 : d.dvs Xc.K = [] := by unfold He.DefD.dvs; rw [List.isEmpty_iff.mp g7]; rfl
  rw [e1] at F
  have sc : FnScope m.ns m.ps d.scope := sc_ok g10
  have ndP : m.ps.Nodup := by rw [← sc.pre]; exact sc.nd.sublist (List.take_sublist _ _)
  have hb := FunD.bindsN F fun kV doc pm an cdv ct us hl => plain_binds g9 ndP kV doc pm an cdv ct us hl
  have hkp := F.kp
  have hns : 1 ≤ m.ns.length := by
    have := congrArg List.length sc.pre
    rw [List.length_take] at this
    omega
  obtain ⟨oc, od, dV, kV, doc, pm, an, cdv, ct, osl, rfl, lk, hcd, _, _⟩ := F.ex
  refine ⟨He.ga Xc.K f, _, m.ps, 1, fun p vs H Q E => ∃ (c : Exc) (o : Option (Addr × D)) (S : Store) (L : List Addr) (W : WX) (σ : Sl), vs = [.ref p.1] ∧ Zc (.ref (He.ga Xc.K c.cls)) (o.map (·.1)) p.2 ∧ c.at_ = o.map (·.2) ∧ Good Xc.K (He.ga Xc.K) S L H ∧ (∀ x d, o = some (x, d) → ∃ v, H x = some (.xd [("at", v)]) ∧ RelD Xc.K L H d v) ∧ Aft Xc.K (He.ga Xc.K) W σ L H (P.clx f c S) (fun d _ L' H' => ∀ v, RelD Xc.K L' H' d v → Q v H'),
    fn_ofE (k := 0) lk hcd sc (fun p vs H Q E z => ?_) (fun A outer s H vs Q E p hf hr2 z => ?_), L2H.roomH_of hr, glo_has X G c g1, hkp, hb, fun a oe c' o S L H Q E σ W z1 z2 z3 z4 z5 => ⟨c', o, S, L, W, σ, rfl, z1, z2, z3, z4, z5⟩⟩
  · obtain ⟨_, _, _, _, _, _, rfl, _⟩ := z
    exact g6.symm
  · obtain ⟨cx, o, S, L, W, σ, rfl, hz, hat2, g, ho, q⟩ := z
    let X0 := cxOf (L2.CX Xc.prog Xc.w) Xc.prog Xc.w Xc.K Xc.mg Xc.base m.ns d.qual d.scope (He.fAd Xc.K (f, none)) cdv A outer s H E
    let W1 : WX := fun c d _ H' => E c d H'
    have tk : Takes X0 W1 := takes_of rfl rfl rfl rfl
    have ok0 : Ok X0 (He.ga Xc.K) ⟨{ P.xc cx with exc := none }, none⟩ W1 (mcX m d.scope) := by
      refine ⟨fun _ => rfl, rfl, sc.nd, rfl, sc.kind, tk, ?_, fun _ => passes_of rfl, fun x hx => free_has X G c (List.all_eq_true.mp b3 x hx), fun _ _ => rfl, fun x dd hx => ?_, fun g n hg => ?_, fun g n yy hg => ?_, fun y f hy => ?_, fun y m' key n hy => ?_, fun y key n hy => ?_, fun x hx => ?_, fun x y b hx => ?_, fun _ => rfl, fun _ => rfl, fun x hx => ?_, (fun x hx => by cases hx), fun x y b hx => ?_, fun x y b hx => ?_, fun _ => rfl, fun _ _ => rfl, fun _ _ => rfl, rfl, fun f' hf' => ?_, (fun x hx => by cases hx), (fun h => by cases h), fun i a o h => by cases h⟩
      · exact Nat.lt_of_le_of_lt (Nat.add_le_add (Nat.le_add_right _ _) (by decide)) hr2.un
      · cases hx
      · cases hg
      · cases hg
      · cases hy
      · cases hy
      · cases hy
      · cases hx
      · cases hx
      · cases hx
      · exact xi_ok X G c bx hXi hx
      · exact xf_ok hXi hx
      · cases hf'
    have oks := ok0.suite 0 p.1 p.2 [] cx o hz hf hat2
    refine ⟨_, sB m.body oks g11, S, L, List.replicate m.ns.length none, g, ⟨?_, fun i d hi => ?_, fun j a o' hj => ?_⟩, ?_⟩
    · simp [L2.start]; omega
    · rw [List.getElem?_replicate] at hi
      split at hi <;> cases hi
    · cases hj
      refine ⟨rfl, ?_, ho⟩
      rw [List.getElem?_replicate, if_pos (by omega)]
    · unfold Prog.clx at q
      rw [e] at q
      simp only at q
      revert q
      show Aft Xc.K (He.ga Xc.K) _ _ L H (endX (exB (P.xc cx) m.body _ S)) _ → AftS Xc.K (He.ga Xc.K) _ W0 L H (exB (P.xc cx) m.body _ S) _
      cases exB (P.xc cx) m.body (List.replicate m.ns.length none) S with
      | nx e2 S2 => exact fun q σ' L' H' st g' er => q L' H' st g' .non (by simp [RelD])
      | ret d2 S2 => exact fun q v L' H' st g' rv => q L' H' st g' v rv
      | brk e2 S2 => exact fun q => q.elim
      | exc c2 e2 S2 => exact fun q => q.elim
      | bad => exact fun q => q.elim
/-- a written dict, from what the head says of it -/
theorem find_keys {P : Params} {z : Str} : ∀ {es : List DictEntry} {ks : List Str}, es.map He.keyOf = He.keysIn P ks → z ∉ ks → es.find? (·.key.isStr z) = none ∧ es.any (·.refKey) = false
  | [], _, _, _ => ⟨rfl, rfl⟩
  | e :: r, [], h, _ => by cases h
  | e :: r, k :: ks, h, hz => by
    have h1 : He.keyOf e :: r.map He.keyOf = some (k, PyData.keyHash P k) :: He.keysIn P ks := h
    injection h1 with h2 h3
    obtain ⟨a1, a2⟩ := find_keys h3 fun m => hz (List.mem_cons_of_mem _ m)
    unfold He.keyOf at h2
    split at h2
    · rename_i x t q
      obtain ⟨h5, _⟩ := Prod.mk.inj (Option.some.inj h2)
      subst h5
      have n : e.key.isStr z = false := by
        rw [q]
        show decide (x = z) = false
        exact decide_eq_false fun e => hz (by rw [e]; exact List.mem_cons_self ..)
      refine ⟨by rw [List.find?_cons, n]; exact a1, ?_⟩
      rw [List.any_cons, a2]
      show (e.refKey || false) = false
      unfold DictEntry.refKey
      rw [q]; rfl
    · cases h2
theorem frd_ok {Xc : Cx} {w : World} (X : K.In h) (G : h.Ns mainGlobals mg) (c : He.SaysD fa fn K) {q : Str × List (Str × D)} (hg : hasGlo fa q.1 = true) (hb : frdB K q = true) (ht : He.dicW K (He.ga K q.1) = some (He.keysIn w.params (q.2.map (·.1)))) (hK : Xc.K = K := by rfl) (hm : Xc.mg = mg := by rfl) (hw : Xc.w = w := by rfl) : FrdOk Xc q.1 q.2 := by
  subst hK hm hw
  obtain ⟨es, n, kd⟩ := He.dicW_ok ht
  have hkeys : es.toList.map He.keyOf = He.keysIn Xc.w.params (q.2.map (·.1)) := by
    have h2 := ht
    unfold He.dicW at h2
    rw [kd.at_] at h2
    simp only at h2
    split at h2
    · exact Option.some.inj h2
    · cases h2
  refine ⟨He.ga Xc.K q.1, es, n, glo_has X G c hg, kd.at_, kd.lit, kd.low, fun z => ⟨fun hz => ?_, fun d hd => ?_⟩⟩
  · have hz' : z ∉ q.2.map (·.1) := fun hm => by
      obtain ⟨kv, hkv, e⟩ := List.mem_map.mp hm
      obtain ⟨kv1, kv2⟩ := kv
      simp only at e
      subst e
      have : ∀ l : List (Str × D), (kv1, kv2) ∈ l → l.lookup kv1 ≠ none := by
        intro l
        induction l with
        | nil => intro h; cases h
        | cons p r ih =>
          intro h e
          rw [List.lookup_cons] at e
          split at e
          · cases e
          · rename_i hp
            rcases List.mem_cons.mp h with h | h
            · rw [← h] at hp; simp at hp
            · exact ih h e
      exact this _ hkv hz
    obtain ⟨a1, a2⟩ := find_keys hkeys hz'
    unfold PySem.W.nsIn
    rw [kd.at_]
    simp only [a1, a2]
    rfl
  · have hm := lookup_mem hd
    have hv := List.all_eq_true.mp hb _ hm
    simp only at hv
    split at hv
    · rename_i b xs e1
      exact ⟨.ref b, .ref b, e1, rfl, fun L H => tupB_ok hv L H⟩
    · cases hv
/-- all defs of the table keep their promises -/
theorem defs_ok {Pr : Program} {w : World} {fuel : Nat} (hB : allB P fa fn = true) (hX : exP P K = true) (hT : tbK (tbP P) K = tbV (tbP P) w) (X : K.In h) (G : h.Ns mainGlobals mg) (c : He.SaysD fa fn K) :
    ∀ (k : Nat) (f : Str) (m : Def), P.defs.lookup f = some m → ∃ fd : FuncData, (m.dfl = [] → ∀ (s : Shared) (us : List Value), us.length = m.ps.length → BindsTo s fd ⟨us, []⟩ (m.ps.zip us)) ∧ (∀ n, okN m n = true → ∃ (ds : List Value) (dvs : List V), Binds K fd m.ps ds ∧ Vals dvs ds ∧ ∀ L H, RelDs K L H (m.dfl.drop (m.dfl.length - (m.ps.length - n))) dvs) ∧ (∀ n y, kwN m n y = true → KBn K fd m.ps n [y] (fun us ws => us ++ ws) (fun vs zs => vs ++ zs)) ∧ PySem.W.keepIn K (.ref (He.fAd K (atOf P f))) = true ∧ (hasGlo fa f = true → mg f = some (.ref (He.ga K f))) ∧
      ∀ base : Heap, K.In base → base.Ns mainGlobals mg → FnOk Pr w K mg base (CXm (nrOf P f) Pr w) (2 * k + 1) (He.fAd K (atOf P f)) fd m.ps (spF (He.ga K) K P fuel k f m.ps.length) := by
  unfold allB at hB
  obtain ⟨hB0, hB⟩ := ba hB
  obtain ⟨bx, by2⟩ := ba hB0
  obtain ⟨by2, by3⟩ := ba by2
  obtain ⟨by4, by3⟩ := ba by3
  unfold exP at hX
  obtain ⟨hX, hX2⟩ := ba hX
  obtain ⟨hX, hXf⟩ := ba hX
  have hFr : ∀ q ∈ P.frd, He.dicW K (He.ga K q.1) = some (He.keysIn w.params (q.2.map (·.1))) := fun q hq => by
    have h1 : (P.frd.map fun q => He.dicW K (He.ga K q.1)) = P.frd.map fun q => some (He.keysIn w.params (q.2.map (·.1))) := by
      have := hT
      unfold tbK tbV tbP at this
      rw [List.map_map, List.map_map] at this
      exact this
    exact List.map_inj_left.mp h1 q hq
  obtain ⟨hXi, hXs⟩ := ba hX2
  obtain ⟨hB, b5⟩ := ba hB
  obtain ⟨hB, b4⟩ := ba hB
  obtain ⟨hB, b3⟩ := ba hB
  obtain ⟨hB, b6⟩ := ba hB
  obtain ⟨b1, b2⟩ := ba hB
  intro k
  induction k with
  | zero =>
    intro f m e
    obtain ⟨d, hd, ha, hb⟩ := tab_ok b1 (f, m) (lookup_mem e)
    unfold defB at hb
    obtain ⟨hb, c5⟩ := ba hb
    obtain ⟨hb, c4⟩ := ba hb
    obtain ⟨hb, c3⟩ := ba hb
    obtain ⟨c1, c2⟩ := ba hb
    obtain ⟨fd, F⟩ := mem_defs c hd
    rw [ha] at F
    have sc := sc_ok c4
    have ndP : m.ps.Nodup := by rw [← sc.pre]; exact sc.nd.sublist (List.take_sublist _ _)
    refine ⟨fd, fun hm0 => by
      have e1 : d.dvs K = [] := by
        unfold dflM at c1
        rw [hm0] at c1
        split at c1
        · rename_i e2; unfold He.DefD.dvs; rw [e2]; rfl
        · rename_i e2 _; cases e2
        · cases c1
      rw [e1] at F
      exact FunD.bindsA F fun kV doc pm an cdv ct us hl => plain_binds c3 ndP kV doc pm an cdv ct us hl, binds_of F c1 c3 ndP, fun n y hn => kbinds_of F c1 c3 ndP n y hn, F.kp, fun hg => glo_has X G c hg, fun base _ _ => ?_⟩
    refine ⟨fun vs H Q E q => q.1, fun A outer s H args us vs Q E hr he hb' hv q => ?_⟩
    obtain ⟨_, S, L, ds, _, _, q⟩ := q
    exact q.elim
  | succ k ih =>
    intro f m e
    obtain ⟨d, hd, ha, hb⟩ := tab_ok b1 (f, m) (lookup_mem e)
    unfold defB at hb
    obtain ⟨hb, c5⟩ := ba hb
    obtain ⟨hb, c4⟩ := ba hb
    obtain ⟨hb, c3⟩ := ba hb
    obtain ⟨c1, c2⟩ := ba hb
    obtain ⟨fd, F⟩ := mem_defs c hd
    rw [ha] at F
    have sc := sc_ok c4
    have ndP : m.ps.Nodup := by rw [← sc.pre]; exact sc.nd.sublist (List.take_sublist _ _)
    refine ⟨fd, fun hm0 => by
      have e1 : d.dvs K = [] := by
        unfold dflM at c1
        rw [hm0] at c1
        split at c1
        · rename_i e2; unfold He.DefD.dvs; rw [e2]; rfl
        · rename_i e2 _; cases e2
        · cases c1
      rw [e1] at F
      exact FunD.bindsA F fun kV doc pm an cdv ct us hl => plain_binds c3 ndP kV doc pm an cdv ct us hl, binds_of F c1 c3 ndP, fun n y hn => kbinds_of F c1 c3 ndP n y hn, F.kp, fun hg => glo_has X G c hg, fun base hKb hGb => ?_⟩
    refine FunD.ok (k := 2 * k + 2) F sc (fun vs H Q E q => q.1) fun cdv A outer s H vs Q E hr q => ?_
    obtain ⟨hl, S, L, ds, g, r, q⟩ := q
    let Xc := cxOf (CXm (nrOf P f) Pr w) Pr w K mg base m.ns d.qual d.scope (He.fAd K (atOf P f)) cdv A outer s H E
    let W : WX := fun c d _ H' => E c d H'
    have tk : TakesM (nrOf P f) Xc W := takes_ofM rfl rfl rfl rfl
    -- a promise, as the rules want it
    have prom : ∀ (g : Str) (n : Nat) (xs : List D) (vs : List V) (S : Store) (L : List Addr) (H : Hp) (σ : Sl) (Q : VK) (E : XK), Good K (He.ga K) S L H → RelDs K L H xs vs → xs.length = n →
        Aft K (He.ga K) (fun c d _ H' => E c d H') σ L H ((P.cx fuel (callN P fuel k)).cl g xs S) (fun d _ L' H' => ∀ v, RelD K L' H' d v → Q v H') → spF (He.ga K) K P fuel k g n vs H Q E := fun g n xs vs S L H σ Q E g' r' hn' q' => by
      refine ⟨by rw [r'.length]; omega, S, L, xs, g', r', ?_⟩
      revert q'
      show Aft K (He.ga K) _ σ L H (callN P fuel k g xs S) _ → Aft K (He.ga K) _ [] L H (callN P fuel k g xs S) _
      cases callN P fuel k g xs S with
      | ok a S' => exact fun q' => q'
      | exc c S' => exact fun q' => q'
      | bad => exact fun q' => q'
    have ok : Ok Xc (He.ga K) ⟨P.cx fuel (callN P fuel k), none⟩ W (mcD P (nrOf P f) m d.scope) := by
      refine ⟨fun _ => rfl, rfl, sc.nd, rfl, sc.kind, tk, ?_, fun _ => passes_of rfl, fun x hx => free_has X G c (List.all_eq_true.mp b3 x hx), fun _ _ => rfl, fun x dd hx => ?_, fun g n hg => ?_, fun g n yy hg => ?_, fun y f hy => ?_, fun y m' key n hy => ?_, fun y key n hy => ?_, fun x hx => ?_, fun x y b hx => ?_, fun _ => rfl, fun _ => rfl, fun x hx => ?_, fun x hx => ?_, fun x y b hx => ?_, fun x y b hx => ?_, fun _ => rfl, fun _ _ => rfl, fun _ _ => rfl, rfl, fun f' hf' => ?_, fun x hx => ?_, fun _ hd => L2H.passesAt_of (X := Xc) rfl hd, fun i a o h => by cases h⟩
      · exact Nat.lt_of_le_of_lt (Nat.add_le_add (Nat.le_add_right _ _) (by decide)) hr.un
      · refine gloB1_ok X G c (List.all_eq_true.mp b4 (x, dd) (lookup_mem hx)) fun xs e => ?_
        have := List.all_eq_true.mp (show (P.glob.all fun q => match q.2 with
          | .frt xs => tupB K (He.ga K q.1) xs
          | _ => true) = true from hX) (x, dd) (lookup_mem hx)
        simp only at e
        subst e
        exact this
      · have hg : fsOf P g n = true := hg
        unfold fsOf at hg
        obtain ⟨hg0, hg⟩ := ba hg
        split at hg
        · rename_i m' e'
          obtain ⟨fd', hA, hBn, hKn, hkp, hmg, hF⟩ := ih g m' e'
          obtain ⟨dsv, dvs, hb1, hv1, hr1⟩ := hBn n hg
          have hat : atOf P g = (g, none) := eqAt_ok hg0
          rw [hat] at hF hkp
          have hgl : hasGlo fa g = true := by
            have := List.all_eq_true.mp b2 (g, m') (lookup_mem e')
            rw [hat] at this
            simpa using this
          exact ⟨He.ga K g, fd', m'.ps, dsv, dvs, 2 * k + 1, _, hF base hKb hGb, hr.mono (Nat.le_succ _), hmg hgl, hkp, hb1, hv1, fun vs xs S L H σ Q E' g' r' hn' q' => by
            have hok : okN m' xs.length = true := by rw [hn']; exact hg
            refine prom g m'.ps.length (padD m' xs) (vs ++ dvs) S L H σ Q E' g' ?_ (padD_len hok) ?_
            · unfold padD
              rw [hn']
              exact RelDs.append r' (hr1 L H)
            · show Aft K (He.ga K) _ _ L H (callN P fuel k g (padD m' xs) S) _
              rw [← show callN P fuel k g xs S = callN P fuel k g (padD m' xs) S from callN_pad e' hok]
              exact q'⟩
        · cases hg
      · have hg : fkOf P (!nrOf P g && eqAt (atOf P g) (g, none)) g n yy = true := hg
        unfold fkOf at hg
        obtain ⟨hg0, hg⟩ := ba hg
        obtain ⟨hnr, hg0⟩ := ba hg0
        have hnr : nrOf P g = false := by simpa using hnr
        split at hg
        · rename_i m' e'
          obtain ⟨fd', hA, hBn, hKn, hkp, hmg, hF⟩ := ih g m' e'
          have hat : atOf P g = (g, none) := eqAt_ok hg0
          rw [hat] at hF hkp
          rw [hnr] at hF
          have hgl : hasGlo fa g = true := by
            have := List.all_eq_true.mp b2 (g, m') (lookup_mem e')
            rw [hat] at this
            simpa using this
          have hlen : n + 1 = m'.ps.length := by
            unfold kwN at hg
            exact of_decide_eq_true (ba (ba hg).1).1
          exact ⟨He.ga K g, fd', m'.ps, 2 * k + 1, _, hF base hKb hGb, hr.mono (Nat.le_succ _), hmg hgl, hkp, hKn n yy hg, fun vs xs S L H σ Q E' g' r' hn' q' => prom g m'.ps.length xs vs S L H σ Q E' g' r' (by omega) q'⟩
        · cases hg
      · have hy : flOf P y f = true := hy
        unfold flOf at hy
        split at hy
        · rename_i fs ms e'
          have hb := List.all_eq_true.mp b6 _ (lookup_mem e')
          unfold klB at hb
          obtain ⟨hb, d5⟩ := ba hb
          obtain ⟨hb, d4⟩ := ba hb
          obtain ⟨hb, d3⟩ := ba hb
          obtain ⟨d1, d2⟩ := ba hb
          exact ⟨cls_has c d2, noat_has c (List.all_eq_true.mp d4 f (hasS_ok hy))⟩
        · cases hy
      · have hy : msOf P y m' key n = true := hy
        unfold msOf at hy
        obtain ⟨hnr, hy⟩ := ba hy
        have hnr : nrOf P key = false := by simpa using hnr
        obtain ⟨y1, y2⟩ := ba hy
        obtain ⟨fs, ms, hm, k1, k2, k3, k4, k5⟩ := key_ok b6 (of_decide_eq_true y1)
        unfold arityN at y2
        split at y2
        · rename_i m2 e'
          obtain ⟨fd', hA, hBn, hKn, hkp, hmg, hF⟩ := ih key m2 e'
          obtain ⟨dsv, dvs, hb1, hv1, hr1⟩ := hBn (n + 1) y2
          rw [k5, hnr] at hF
          exact ⟨He.ma K (He.ga K y) m', fd', m2.ps, dsv, dvs, 2 * k + 1, _, cls_has c k1, meth_has c k4, hF base hKb hGb, hr.mono (Nat.le_succ _), hb1, hv1, fun vs xs S L H σ Q E' g' r' hn' q' => by
            have hok : okN m2 xs.length = true := by rw [hn']; exact y2
            refine prom key m2.ps.length (padD m2 xs) (vs ++ dvs) S L H σ Q E' g' ?_ (padD_len hok) ?_
            · unfold padD
              rw [hn']
              exact RelDs.append r' (hr1 L H)
            · show Aft K (He.ga K) _ _ L H (callN P fuel k key (padD m2 xs) S) _
              rw [← show callN P fuel k key xs S = callN P fuel k key (padD m2 xs) S from callN_pad e' hok]
              exact q'⟩
        · cases y2
      · have hy : mksOf P y key n = true := hy
        unfold mksOf at hy
        obtain ⟨hnr, hy⟩ := ba hy
        have hnr : nrOf P key = false := by simpa using hnr
        obtain ⟨y1, y2⟩ := ba hy
        obtain ⟨fs, ms, hm, k1, k2, k3, k4, k5⟩ := key_ok b6 (of_decide_eq_true y1)
        unfold arity at y2
        split at y2
        · rename_i m2 e'
          have hn := of_decide_eq_true y2
          obtain ⟨fd', hA, hBn, hKn, hkp, hmg, hF⟩ := ih key m2 e'
          have hok2 : okN m2 m2.ps.length = true := by unfold okN; simp
          obtain ⟨dsv, dvs, hb1, hv1, hr1⟩ := hBn _ hok2
          have ed : dvs = [] := by
            have := (hr1 [] (fun _ => none)).length
            simp at this
            exact this
          subst ed
          have ed2 : dsv = [] := by cases hv1; rfl
          subst ed2
          rw [k5, hnr] at hF
          exact ⟨He.ma K (He.ga K y) "__init__", fd', m2.ps, 2 * k + 1, _, mkr_has c k3, glo_has X G c k2, hF base hKb hGb, hr, hb1, fun vs xs S L H σ Q E' g' r' hn' q' => by rw [hn]; exact prom key (n + 1) xs vs S L H σ Q E' g' r' hn' q'⟩
        · cases y2
      · obtain ⟨p, hp, e2⟩ := List.any_eq_true.mp (show (P.subs.any fun p => decide (p.1 = x)) = true from hx)
        have e3 := of_decide_eq_true e2
        have e4 := List.all_eq_true.mp b5 p hp
        unfold subB at e4
        obtain ⟨e4, e6⟩ := ba e4
        obtain ⟨e4, e5⟩ := ba e4
        rw [e3] at e4 e5
        have q := exc_has c e5
        have q2 : (PySem.W.excIn K (He.ga K x) He.veBase "ValueError.__new__" && (PySem.W.keepIn K (.ref (He.ga K x)) && (decide (PySem.W.subIn K (.ref (He.ga K x)) (.type "BaseException") = some true) && decide (PySem.W.typeIn K (.ref (He.ga K x)) = some (.type "type"))))) = true := q
        obtain ⟨q3, q4⟩ := ba q2
        obtain ⟨q5, q6⟩ := ba q4
        obtain ⟨q7, q8⟩ := ba q6
        exact ⟨glo_has X G c e4, q3, q5, raises_own (of_decide_eq_true q7) (of_decide_eq_true q8)⟩
      · have hx : (((P.subs.lookup x).or (P.sub2.lookup x)).bind fun l => l.lookup y) = some b := hx
        cases e2 : P.subs.lookup x with
        | none =>
          rw [e2] at hx
          cases e3 : P.sub2.lookup x with
          | none => rw [e3] at hx; cases hx
          | some l =>
            rw [e3] at hx
            have e4 := List.all_eq_true.mp hXs (x, l) (lookup_mem e3)
            exact sub2_exm e4 _ _ (lookup_mem hx)
        | some l =>
          rw [e2] at hx
          have e4 := List.all_eq_true.mp b5 (x, l) (lookup_mem e2)
          unfold subB at e4
          obtain ⟨e4, e6⟩ := ba e4
          exact exm_has c (List.all_eq_true.mp e6 (y, b) (lookup_mem hx))
      · obtain ⟨p, hp, e2⟩ := List.any_eq_true.mp (show (P.sub2.any fun p => decide (p.1 = x)) = true from hx)
        have e3 := of_decide_eq_true e2
        subst e3
        exact xo_ok X G c (List.all_eq_true.mp by2 p hp) (List.all_eq_true.mp hXs p hp) hKb hGb (hr.mono (by omega))
      · obtain ⟨p, hp, e2⟩ := List.any_eq_true.mp (show (P.sub2.any fun p => decide (p.1 = x)) = true from hx)
        have e3 := of_decide_eq_true e2
        subst e3
        exact xoh_ok X G c (List.all_eq_true.mp by2 p hp) (List.all_eq_true.mp hXs p hp) hKb hGb (hr.mono (by omega))
      · exact xi_ok X G c bx hXi hx
      · have hx : ((P.isx.lookup x).bind fun l => l.lookup y) = some b := hx
        cases e2 : P.isx.lookup x with
        | none => rw [e2] at hx; cases hx
        | some l =>
          have e4 := List.all_eq_true.mp hXi (x, l) (lookup_mem e2)
          obtain ⟨f1, e4⟩ := ba e4
          obtain ⟨f2, e4⟩ := ba e4
          obtain ⟨f3, f4⟩ := ba e4
          exact ⟨xfB_ok f2, of_decide_eq_true f3⟩
      · have hf' : (P.xdefs.lookup f').isSome = true := hf'
        obtain ⟨m', e'⟩ := Option.isSome_iff_exists.mp hf'
        exact xcl_ok X G c bx hXi b3 (List.all_eq_true.mp by3 (f', m') (lookup_mem e')) e' (hr.mono (by omega))
      · have hx : (P.frd.lookup x).isSome = true := hx
        obtain ⟨l, e'⟩ := Option.isSome_iff_exists.mp hx
        have hm := lookup_mem e'
        exact ⟨l, e', frd_ok X G c (q := (x, l)) (List.all_eq_true.mp by4 _ hm) (List.all_eq_true.mp hXf _ hm) (hFr _ hm)⟩
    refine ⟨_, sB m.body ok c5, S, L, ds.map some ++ List.replicate (m.ns.length - ds.length) none, g, envR_start r, ?_⟩
    unfold callN at q
    rw [e] at q
    simp only at q
    rw [show padD m ds = ds from by unfold padD; rw [show ds.length = m.ps.length by rw [← r.length]; exact hl]; simp] at q
    rw [if_pos (by rw [← r.length]; exact hl)] at q
    revert q
    show Aft K (He.ga K) _ _ L H (endR (exB (P.cx fuel (callN P fuel k)) m.body _ S)) _ → AftS K (He.ga K) none W L H (exB (P.cx fuel (callN P fuel k)) m.body _ S) _
    cases exB (P.cx fuel (callN P fuel k)) m.body (ds.map some ++ List.replicate (m.ns.length - ds.length) none) S with
    | nx e2 S2 => exact fun q σ' L' H' st g' er => q L' H' st g' .non (by simp [RelD])
    | ret d2 S2 => exact fun q v L' H' st g' rv => q L' H' st g' v rv
    | brk e2 S2 => exact fun q => q.elim
    | exc c2 e2 S2 => exact fun q σ' cls dd L' H' st g' er x => q cls dd L' H' st g' x
    | bad => exact fun q => q.elim
theorem sqF_of {H : Hp} {a : Addr} {vs : List V} (o : Only H) (s : SqL K H a vs) : SqF K H a vs := by
  rcases s with (e | ⟨ob, e⟩) | e
  · rcases o a with z | ⟨ob, xs, z⟩
    · rw [z] at e; cases e
    · rw [z] at e; cases e
  · exact .inl ⟨ob, e⟩
  · exact .inr e
/-- a law's end -/
theorem lt_end {l : PySem.W.OpenLaw} {q : Program} {loose : List Str} {XP : (Str → Option Value) → Heap → Prop} {d : DefRec} {x : Str} {k fuel : Nat} {m : Def}
    (hn : l.most = some 63) (hdf : d.params.defaults = []) (hr : Room (2 * k + 1) callerA) (hat : atOf P ("law" : Str) = (("law" : Str), none)) (hglo : hasGlo fa ("law" : Str) = true) (hname : d.name = ("law" : Str)) (hB : allB P fa fn = true) (hnr : nrOf P ("law" : Str) = false) (hlaw : P.defs.lookup ("law" : Str) = some m) (hps : m.ps = [x]) (hdf0 : m.dfl = [])
    (hsp : ∀ ns : List Int, ns.length ≤ 63 → (∀ z ∈ ns, Builtin.Int.intBits z ≤ 1048576) → ∃ S', callN P fuel k "law" [.frl (ns.map .int)] [] = .ok (.bl true) S') :
    PySem.W.WalkO q loose XP (fun w h => ∃ K : PySem.W.Frag, K.In h ∧ He.SaysD fa fn K ∧ exP P K = true ∧ tbK (tbP P) K = tbV (tbP P) w) l.row.toRowW d [] (fun f vs => PySem.call f vs) := by
  refine Att.attach_callB hn hdf fun w s₀ s₁ mg mb fo o pm cd doc a vs ns G Y ho hd hcd hmg hobj hints hlen hbits hg => ?_
  obtain ⟨K, KX, c, cX, cT⟩ := Y
  obtain ⟨fd, hA, _, _, _, hm2, hF⟩ := defs_ok (Pr := l.prog) (w := w) (fuel := fuel) hB cX cT KX G.T.g c k "law" m hlaw
  have hA := hA hdf0
  rw [hname] at hmg
  have e := hmg.symm.trans (hm2 hglo)
  cases e
  rw [hat, hnr] at hF
  rw [hps] at hA hF
  refine law_call (CX := L2.CX l.prog w) KX G.T.g G.T.b G.T.builtins G.T.nolimit hg hobj hints (Nat.le_trans hlen (by rw [sizeLine_eq]; decide)) hr hF (fun s u => hA s [u] rfl) (fun H hO hS => ?_) ?_
  · obtain ⟨S', e'⟩ := hsp ns hlen hbits
    refine ⟨rfl, [], [], [.frl (ns.map .int)], ⟨rfl, List.nodup_nil, fun n c a h _ => by simp at h⟩, RelDs.cons ?_ RelDs.nil, ?_⟩
    · simp only [RelD]
      exact ⟨a, _, rfl, sqF_of hO hS, RelDs.ints⟩
    · rw [e']
      intro L' H' _ _ v r
      simpa [RelD] using r
  · rintro H e s' ⟨_, _, _, _, _, _, _, _, _, _, _, _, z⟩
    exact z
end
end Lt
namespace Lt
open PySem (Str)
end Lt
namespace LawT
open Lt
open PySem (Str)
def a__law_cell : Def := ⟨["_law_script", "_law_place"], ["_law_script", "_law_place", "_law_seed", "_law_cell_here"], [], [
  (.ite (.cmp .lt (.var 1) (.bi .len [(.var 0)])) [(.ret (.idx (.var 0) (.var 1)))] []),
  (.asg (.name 2) (.int 5)),
  (.forS (.name 3) (.seq (.slT (.var 0) (.int 63))) [(.asg (.name 2) (.bin .mod (.bin .add (.bin .add (.bin .mul (.var 2) (.int 48271)) (.bin .mod (.var 3) (.int 1000003))) (.int 1)) (.int 2147483647)))]),
  (.ret (.bin .mod (.bin .add (.var 2) (.bin .mul (.int 7919) (.var 1))) (.int 1000003)))]⟩
def a__law_mix : Def := ⟨["_law_cell_here", "_law_k"], ["_law_cell_here", "_law_k", "_law_one", "_law_two"], [], [
  (.asg (.name 2) (.bin .mod (.bin .pow (.bin .add (.bin .add (.bin .mod (.var 0) (.int 2147483629)) (.bin .mul (.int 1013) (.var 1))) (.int 7919)) (.int 3)) (.int 2147483647))),
  (.asg (.name 3) (.bin .mod (.bin .add (.bin .add (.bin .mul (.var 2) (.int 40699)) (.bin .mul (.bin .mul (.int 3793) (.var 1)) (.var 1))) (.int 11)) (.int 2147483399))),
  (.ret (.bin .fdiv (.var 3) (.int 101)))]⟩
def a__law_row : Def := ⟨["_law_script", "_law_place", "_law_sizes"], ["_law_script", "_law_place", "_law_sizes", "_law_cell_here", "_law_left", "_law_some", "_law_k", "_law_other"], [], [
  (.asg (.name 3) (.call "_law_cell" [(.var 0), (.var 1)])),
  (.asg (.name 4) (.var 3)),
  (.asg (.name 5) (.lst [])),
  (.forS (.name 6) (.rng (.bi .len [(.var 2)])) [(.ite (.cmp .lt (.var 3) (.bin .pow (.int 10) (.int 18))) [(.exp (.app (.var 5) (.bin .mod (.call "_law_mix" [(.var 3), (.var 6)]) (.idx (.var 2) (.var 6)))))] [(.ite (.cmp .gt (.var 4) (.int 0)) [(.exp (.app (.var 5) (.bin .mod (.var 4) (.idx (.var 2) (.var 6))))), (.asg (.name 4) (.bin .fdiv (.var 4) (.idx (.var 2) (.var 6))))] [(.asg (.name 7) (.call "_law_cell" [(.var 0), (.bin .mod (.bin .add (.bin .add (.var 1) (.int 1)) (.var 6)) (.int 63))])), (.exp (.app (.var 5) (.bin .mod (.call "_law_mix" [(.var 7), (.var 6)]) (.idx (.var 2) (.var 6)))))])])]),
  (.ret (.var 5))]⟩
end LawT
namespace LawT
open Lt
open PySem (Str)
def a__law_ratio : Def := ⟨["_law_top", "_law_bottom"], ["_law_top", "_law_bottom", "_law_one", "_law_two"], [], [
  (.par 2 3 (.bi .abs [(.var 0)]) (.var 1)),
  (.whl (.cmp .gt (.var 3) (.int 0)) [(.par 2 3 (.var 3) (.bin .mod (.var 2) (.var 3)))]),
  (.ret (.tup [(.bin .fdiv (.var 0) (.var 2)), (.bin .fdiv (.var 1) (.var 2))]))]⟩
end LawT
namespace LawT
open Lt
open PySem (Str)
end LawT
namespace LawT
open Lt
open PySem (Str)
def a_common : Def := ⟨["one", "other"], ["one", "other"], [], [
  (.par 0 1 (.bi .abs [(.var 0)]) (.bi .abs [(.var 1)])),
  (.whl (.cmp .gt (.var 1) (.int 0)) [(.par 0 1 (.var 1) (.bin .mod (.var 0) (.var 1)))]),
  (.ret (.var 0))]⟩
def a_ratio : Def := ⟨["top", "bottom"], ["top", "bottom", "part"], [], [
  (.ite (.cmp .eq (.var 1) (.int 0)) [(.rai "NoRatio")] []),
  (.asg (.name 2) (.call "common" [(.var 0), (.var 1)])),
  (.ite (.cmp .lt (.var 1) (.int 0)) [(.asg (.name 2) (.neg (.var 2)))] []),
  (.ret (.tup [(.bin .fdiv (.var 0) (.var 2)), (.bin .fdiv (.var 1) (.var 2))]))]⟩
end LawT
namespace LawT
open Lt
open PySem (Str)
end LawT
namespace LawT
open Lt
open PySem (Str)
end LawT
namespace LawT
open Lt
open PySem (Str)
def a__law_entries : Def := ⟨["_law_script", "_law_place", "_law_most"], ["_law_script", "_law_place", "_law_most", "_law_some", "_law_moment", "_law_scale", "_law_row_here", "_law_k", "_law_step", "_law_mark", "_law_top", "_law_bottom"], [], [
  (.asg (.name 3) (.call "_law_row" [(.var 0), (.var 1), (.bin .add (.lst [(.bin .add (.var 2) (.int 1)), (.int 4), (.int 4), (.int 5), (.int 3)]) (.bin .mul (.lst [(.int 3), (.int 9), (.int 25), (.int 12)]) (.var 2)))])),
  (.asg (.name 4) (.idx (.lst [(.int 0), (.neg (.int 5)), (.int 1000003), (.neg (.bin .pow (.int 10) (.int 40)))]) (.idx (.var 3) (.int 1)))),
  (.asg (.name 5) (.idx (.lst [(.int 1), (.int 7), (.bin .pow (.int 10) (.int 6)), (.bin .add (.bin .pow (.int 10) (.int 12)) (.int 39)), (.bin .add (.bin .pow (.int 10) (.int 60)) (.int 7))]) (.idx (.var 3) (.int 3)))),
  (.asg (.name 6) (.lst [])),
  (.forS (.name 7) (.rng (.idx (.var 3) (.int 0))) [(.par 8 9 (.idx (.var 3) (.bin .add (.bin .mul (.int 4) (.var 7)) (.int 5))) (.idx (.var 3) (.bin .add (.bin .mul (.int 4) (.var 7)) (.int 6)))), (.par 10 11 (.idx (.var 3) (.bin .add (.bin .mul (.int 4) (.var 7)) (.int 7))) (.idx (.var 3) (.bin .add (.bin .mul (.int 4) (.var 7)) (.int 8)))), (.asg (.name 4) (.bin .add (.bin .add (.var 4) (.int 1)) (.bin .mul (.var 8) (.idx (.lst [(.int 1), (.int 1), (.int 1009)]) (.idx (.var 3) (.int 4)))))), (.ite (.cmp .lt (.var 9) (.idx (.lst [(.int 0), (.int 1), (.int 3), (.int 8)]) (.idx (.var 3) (.int 2)))) [(.exp (.app (.var 6) (.tup [(.var 4), .non])))] [(.exp (.app (.var 6) (.tup [(.var 4), (.call "_law_ratio" [(.bin .mul (.bin .sub (.var 10) (.int 12)) (.var 5)), (.bin .add (.var 11) (.int 1))])])))])]),
  (.ret (.var 6))]⟩
end LawT
namespace LawT
open Lt
open PySem (Str)
end LawT
namespace LawT
open Lt
open PySem (Str)
end LawT
namespace LawT
open Lt
open PySem (Str)
def b_whole_word : List St := [
  (.ret (.bi .str [(.var 0)]))]
def b_ratio_word : List St := [
  (.ite (.cmp .eq (.idx (.var 0) (.int 1)) (.int 1)) [(.ret (.bi .str [(.idx (.var 0) (.int 0))]))] []),
  (.ret (.op2 (.fs "/") (.idx (.var 0) (.int 0)) (.idx (.var 0) (.int 1))))]
def b_read_whole : List St := [
  (.asg (.name 2) (.var 0)),
  (.ite (.cmp .eq (.slT (.var 0) (.int 1)) (.str "-")) [(.asg (.name 2) (.slF (.var 0) (.int 1)))] []),
  (.ite (.or (.cmp .eq (.var 2) (.str "")) (.cmp .gt (.bi .len [(.var 2)]) (.var 1))) [(.rai "NoWord")] []),
  (.forS (.name 3) (.seq (.var 2)) [(.ite (.cmp .notin (.var 3) (.glo "FIGURES")) [(.rai "NoWord")] [])]),
  (.ite (.and (.cmp .eq (.idS (.var 2) (.int 0)) (.str "0")) (.cmp .ne (.var 0) (.str "0"))) [(.rai "NoWord")] []),
  (.ret (.bi .int [(.var 0)]))]
def b_read_ratio : List St := [
  (.asg (.tup [3, 4, 5]) (.op2 .prt (.var 0) (.str "/"))),
  (.ite (.cmp .eq (.var 4) (.str "")) [(.ret (.tup [(.call "read_whole" [(.var 0), (.var 1)]), (.int 1)]))] []),
  (.asg (.name 2) (.tup [(.call "read_whole" [(.var 3), (.var 1)]), (.call "read_whole" [(.var 5), (.var 1)])])),
  (.ite (.or (.cmp .lt (.idx (.var 2) (.int 1)) (.int 2)) (.cmp .ne (.call "ratio" [(.idx (.var 2) (.int 0)), (.idx (.var 2) (.int 1))]) (.var 2))) [(.rai "NoWord")] []),
  (.ret (.var 2))]
def b_read_entry : List St := [
  (.asg (.name 1) (.op2 .spl (.var 0) (.str " "))),
  (.ite (.cmp .ne (.bi .len [(.var 1)]) (.int 2)) [(.rai "NoWord")] []),
  (.asg (.name 2) (.call "read_whole" [(.idx (.var 1) (.int 0))])),
  (.ite (.cmp .eq (.idx (.var 1) (.int 1)) (.str "gap")) [(.ret (.tup [(.var 2), .non]))] []),
  (.ret (.tup [(.var 2), (.call "read_ratio" [(.idx (.var 1) (.int 1))])]))]
def b_show_row : List St := [
  (.asg (.name 1) (.lst [])),
  (.forS (.tup [2, 3]) (.seq (.var 0)) [(.ite (.isN (.var 3)) [(.exp (.app (.var 1) (.bin .add (.call "whole_word" [(.var 2)]) (.str " gap"))))] [(.exp (.app (.var 1) (.bin .add (.bin .add (.call "whole_word" [(.var 2)]) (.str " ")) (.call "ratio_word" [(.var 3)]))))])]),
  (.ret (.var 1))]
end LawT
set_option maxRecDepth 100000
set_option maxHeartbeats 0
namespace LawT
open Lt
open PySem (Str)
def d_whole_word : Def := ⟨["number"], ["number"], [], b_whole_word⟩
def d_ratio_word : Def := ⟨["one"], ["one"], [], b_ratio_word⟩
def d_read_whole : Def := ⟨["word", "figures"], ["word", "figures", "plain", "sign"], [.int 18], b_read_whole⟩
def d_read_ratio : Def := ⟨["word", "figures"], ["word", "figures", "one", "top", "stroke", "bottom"], [.int 18], b_read_ratio⟩
def d_show_row : Def := ⟨["row"], ["row", "lines", "moment", "value"], [], b_show_row⟩
def d_read_entry : Def := ⟨["line"], ["line", "parts", "moment"], [], b_read_entry⟩
def d_read_row : Def := ⟨["lines"], ["lines", "row", "at", "line", "entry"], [], [
  (.asg (.name 1) (.lst [])),
  (.forS (.tup [2, 3]) (.enm (.var 0)) [(.tryR [(.asg (.name 4) (.call "read_entry" [(.var 3)]))] "NoWord" "NoLine" 2), (.ite (.or (.cmp .ge (.var 2) (.glo "MOST")) (.and (.cmp .gt (.bi .len [(.var 1)]) (.int 0)) (.cmp .le (.idx (.var 4) (.int 0)) (.idx (.idx (.var 1) (.neg (.int 1))) (.int 0))))) [(.raiA "NoLine" (.var 2))] []), (.exp (.app (.var 1) (.var 4)))]),
  (.ret (.var 1))]⟩
def d__law_whole_due : Def := ⟨["_law_word_here", "_law_figures"], ["_law_word_here", "_law_figures", "_law_plain", "_law_sign"], [], [
  (.asg (.name 2) (.var 0)),
  (.ite (.cmp .eq (.slT (.var 0) (.int 1)) (.str "-")) [(.asg (.name 2) (.slF (.var 0) (.int 1)))] []),
  (.ite (.or (.cmp .eq (.var 2) (.str "")) (.cmp .gt (.bi .len [(.var 2)]) (.var 1))) [(.ret .non)] []),
  (.forS (.name 3) (.seq (.var 2)) [(.ite (.cmp .notin (.var 3) (.str "0123456789")) [(.ret .non)] [])]),
  (.ite (.and (.cmp .eq (.idS (.var 2) (.int 0)) (.str "0")) (.cmp .ne (.var 0) (.str "0"))) [(.ret .non)] []),
  (.ret (.bi .int [(.var 0)]))]⟩
def d__law_ratio_due : Def := ⟨["_law_word_here", "_law_figures"], ["_law_word_here", "_law_figures", "_law_up", "_law_down", "_law_top", "_law_stroke", "_law_bottom", "_law_one"], [], [
  (.asg (.tup [4, 5, 6]) (.op2 .prt (.var 0) (.str "/"))),
  (.ite (.cmp .eq (.var 5) (.str "")) [(.asg (.name 7) (.call "_law_whole_due" [(.var 0), (.var 1)])), (.ite (.isN (.var 7)) [(.ret .non)] []), (.ret (.tup [(.var 7), (.int 1)]))] []),
  (.asg (.name 2) (.call "_law_whole_due" [(.var 4), (.var 1)])),
  (.asg (.name 3) (.call "_law_whole_due" [(.var 6), (.var 1)])),
  (.ite (.or (.isN (.var 2)) (.or (.isN (.var 3)) (.or (.cmp .lt (.var 3) (.int 2)) (.cmp .ne (.call "_law_ratio" [(.var 2), (.var 3)]) (.tup [(.var 2), (.var 3)]))))) [(.ret .non)] []),
  (.ret (.tup [(.var 2), (.var 3)]))]⟩
def d__law_word : Def := ⟨["_law_one"], ["_law_one"], [], [
  (.ite (.cmp .eq (.idx (.var 0) (.int 1)) (.int 1)) [(.ret (.bi .str [(.idx (.var 0) (.int 0))]))] []),
  (.ret (.bin .add (.bin .add (.bi .str [(.idx (.var 0) (.int 0))]) (.str "/")) (.bi .str [(.idx (.var 0) (.int 1))])))]⟩
def d__law_refused : Def := ⟨["_law_lines", "_law_due"], ["_law_lines", "_law_due", "_law_handed", "e"], [], [
  (.asg (.name 2) (.bi .list [(.var 0)])),
  (.tryA [(.exp (.call "read_row" [(.var 2)]))] "LathError" 3 [(.ite (.or (.xis 3 "NoWord") (.or (.xis 3 "NotARow") (.not (.xis 3 "NoLine")))) [(.ret (.bl false))] []), (.ret (.and (.xis 3 "ValueError") (.and (.not (.isI (.xat 3) .bool)) (.and (.cmp .eq (.xat 3) (.var 1)) (.cmp .eq (.var 2) (.var 0))))))]),
  (.ret (.bl false))]⟩
def d__law_entries : Def := ⟨["_law_script"], ["_law_script", "_law_head", "_law_count", "_law_some", "_law_moment", "_law_row_here", "_law_k", "_law_number"], [], [
  (.asg (.name 1) (.call "_law_row" [(.var 0), (.int 0), (.lst [(.int 9), (.int 8), (.int 5), (.int 4)])])),
  (.asg (.name 2) (.idx (.var 1) (.int 0))),
  (.ite (.cmp .eq (.idx (.var 1) (.int 1)) (.int 1)) [(.asg (.name 2) (.bin .add (.int 38) (.idx (.var 1) (.int 2))))] []),
  (.asg (.name 3) (.call "_law_row" [(.var 0), (.int 1), (.bin .mul (.lst [(.int 5), (.int 5), (.bin .pow (.int 10) (.int 6)), (.int 12), (.int 2)]) (.var 2))])),
  (.asg (.name 4) (.idx (.lst [(.int 0), (.neg (.int 9)), (.bin .pow (.int 10) (.int 17)), (.neg (.bin .pow (.int 10) (.int 17)))]) (.idx (.var 1) (.int 3)))),
  (.asg (.name 5) (.lst [])),
  (.forS (.name 6) (.rng (.var 2)) [(.asg (.name 4) (.bin .add (.bin .add (.var 4) (.int 1)) (.idx (.var 3) (.bin .mul (.int 5) (.var 6))))), (.asg (.name 7) (.bin .mul (.bin .sub (.idx (.var 3) (.bin .add (.bin .mul (.int 5) (.var 6)) (.int 2))) (.bin .mul (.int 5) (.bin .pow (.int 10) (.int 5)))) (.idx (.lst [(.int 1), (.bin .pow (.int 10) (.int 12))]) (.idx (.var 3) (.bin .add (.bin .mul (.int 5) (.var 6)) (.int 4)))))), (.ite (.cmp .eq (.idx (.var 3) (.bin .add (.bin .mul (.int 5) (.var 6)) (.int 1))) (.int 0)) [(.exp (.app (.var 5) (.tup [(.var 4), .non])))] [(.exp (.app (.var 5) (.tup [(.var 4), (.call "_law_ratio" [(.var 7), (.bin .add (.idx (.var 3) (.bin .add (.bin .mul (.int 5) (.var 6)) (.int 3))) (.int 1))])])))])]),
  (.ret (.var 5))]⟩
def d__law_line : Def := ⟨["_law_entry"], ["_law_entry"], [], [
  (.ite (.isN (.idx (.var 0) (.int 1))) [(.ret (.bin .add (.bi .str [(.idx (.var 0) (.int 0))]) (.str " gap")))] []),
  (.ret (.bin .add (.bin .add (.bi .str [(.idx (.var 0) (.int 0))]) (.str " ")) (.call "_law_word" [(.idx (.var 0) (.int 1))])))]⟩
def d__law_bad : Def := ⟨["_law_line_here", "_law_ahead", "_law_pick"], ["_law_line_here", "_law_ahead", "_law_pick", "_law_bad_here", "_law_some", "_law_moment", "_law_blank", "_law_value", "_law_near", "_law_rest"], [], [
  (.asg (.tup [5, 6, 7]) (.op2 .prt (.var 0) (.str " "))),
  (.asg (.name 3) (.lst [(.str "2/4"), (.str "3/1"), (.str "1/0"), (.str "1/-2"), (.str "+1"), (.str "01"), (.str "-0"), (.str "1234567890123456789"), (.str "Gap"), (.str ""), (.str "1/"), (.str "/2")])),
  (.asg (.name 3) (.bin .add (.var 3) (.lst [(.str "1/1234567890123456789"), (.str "35/49")]))),
  (.ite (.cmp .lt (.var 2) (.int 14)) [(.ret (.bin .add (.bin .add (.var 5) (.str " ")) (.idx (.var 3) (.var 2))))] []),
  (.asg (.name 4) (.lst [(.bin .add (.var 0) (.str " ")), (.bin .add (.var 0) (.str "\n")), (.bin .add (.str " ") (.var 0)), (.bin .add (.bin .add (.var 5) (.str "  ")) (.var 7)), (.bin .add (.var 0) (.str " 1")), (.str ""), (.var 5)])),
  (.asg (.name 4) (.bin .add (.var 4) (.lst [(.bin .add (.bin .add (.bin .add (.str "0") (.var 5)) (.str " ")) (.var 7)), (.bin .add (.bin .add (.bin .add (.str "+") (.var 5)) (.str " ")) (.var 7)), (.bin .add (.str "-0 ") (.var 7)), (.bin .add (.str "gap ") (.var 7))]))),
  (.asg (.tup [8, 6, 9]) (.op2 .prt (.var 1) (.str " "))),
  (.asg (.name 4) (.bin .add (.var 4) (.lst [(.bin .add (.str "1234567890123456789 ") (.var 7)), (.var 1), (.var 1), (.bin .add (.bin .add (.var 8) (.str " ")) (.var 7)), (.bin .add (.var 8) (.str " 1/2"))]))),
  (.asg (.name 4) (.bin .add (.var 4) (.lst [(.bin .add (.bin .add (.bi .str [(.bin .sub (.bi .int [(.var 5)]) (.int 300))]) (.str " ")) (.var 7)), (.bin .add (.bin .add (.bi .str [(.bin .sub (.bi .int [(.var 5)]) (.int 2))]) (.str " ")) (.var 7))]))),
  (.ret (.idx (.var 4) (.bin .sub (.var 2) (.int 14))))]⟩
def d__law_entry_due : Def := ⟨["_law_line_here"], ["_law_line_here", "_law_parts", "_law_moment", "_law_value"], [], [
  (.asg (.name 1) (.op2 .spl (.var 0) (.str " "))),
  (.ite (.cmp .ne (.bi .len [(.var 1)]) (.int 2)) [(.ret .non)] []),
  (.asg (.name 2) (.call "_law_whole_due" [(.idx (.var 1) (.int 0)), (.int 18)])),
  (.ite (.isN (.var 2)) [(.ret .non)] []),
  (.ite (.cmp .eq (.idx (.var 1) (.int 1)) (.str "gap")) [(.ret (.tup [(.var 2), .non]))] []),
  (.asg (.name 3) (.call "_law_ratio_due" [(.idx (.var 1) (.int 1)), (.int 18)])),
  (.ite (.isN (.var 3)) [(.ret .non)] []),
  (.ret (.tup [(.var 2), (.var 3)]))]⟩
def d__law_wrong : Def := ⟨["_law_lines"], ["_law_lines", "_law_ahead", "_law_at", "_law_entry"], [], [
  (.asg (.name 1) .non),
  (.forS (.name 2) (.rng (.bi .len [(.var 0)])) [(.asg (.name 3) (.call "_law_entry_due" [(.idx (.var 0) (.var 2))])), (.ite (.or (.isN (.var 3)) (.cmp .ge (.var 2) (.int 40))) [(.ret (.var 2))] []), (.ite (.and (.ntN (.var 1)) (.cmp .le (.idx (.var 3) (.int 0)) (.var 1))) [(.ret (.var 2))] []), (.asg (.name 1) (.idx (.var 3) (.int 0)))]),
  (.ret .non)]⟩
def d__law_kinds : Def := ⟨["_law_found", "_law_row_here"], ["_law_found", "_law_row_here", "_law_entry"], [], [
  (.ite (.or (.not (.isI (.var 0) .list)) (.cmp .ne (.var 0) (.var 1))) [(.ret (.bl false))] []),
  (.forS (.name 2) (.seq (.var 0)) [(.ite (.or (.not (.isI (.var 2) .tuple)) (.isI (.idx (.var 2) (.int 0)) .bool)) [(.ret (.bl false))] [])]),
  (.ret (.bl true))]⟩
def d_law : Def := ⟨["_law_script"], ["_law_script", "_law_row_here", "_law_lines", "_law_more", "_law_k", "_law_due", "_law_handed", "_law_found", "_law_at", "_law_entry", "_law_line_here"], [], [
  (.asg (.name 1) (.call "_law_entries" [(.var 0)])),
  (.asg (.name 2) (.lc [9] (.name 9) (.seq (.var 1)) (.call "_law_line" [(.var 9)]))),
  (.ite (.cmp .le (.bi .len [(.var 1)]) (.int 40)) [(.asg (.name 6) (.bi .list [(.var 1)])), (.ite (.or (.cmp .ne (.call "show_row" [(.var 6)]) (.var 2)) (.cmp .ne (.var 6) (.var 1))) [(.ret (.bl false))] [])] []),
  (.asg (.name 3) (.call "_law_row" [(.var 0), (.int 2), (.lst [(.int 3), (.int 64), (.int 32), (.int 64), (.int 32)])])),
  (.forS (.name 4) (.rng (.bi .min [(.idx (.var 3) (.int 0)), (.bi .len [(.var 2)])])) [(.asg (.name 8) (.bin .mod (.idx (.var 3) (.bin .add (.int 1) (.bin .mul (.int 2) (.var 4)))) (.bi .len [(.var 2)]))), (.sub (.var 2) (.var 8) (.call "_law_bad" [(.call "_law_line" [(.idx (.var 1) (.var 8))]), (.idx (.var 2) (.bi .max [(.bin .sub (.var 8) (.int 1)), (.int 0)])), (.idx (.var 3) (.bin .add (.int 2) (.bin .mul (.int 2) (.var 4))))]))]),
  (.asg (.name 5) (.call "_law_wrong" [(.var 2)])),
  (.ite (.ntN (.var 5)) [(.ret (.call "_law_refused" [(.var 2), (.var 5)]))] []),
  (.asg (.name 6) (.bi .list [(.var 2)])),
  (.asg (.name 7) (.call "read_row" [(.var 6)])),
  (.ite (.or (.cmp .ne (.var 6) (.var 2)) (.not (.call "_law_kinds" [(.var 7), (.lc [10] (.name 10) (.seq (.var 2)) (.call "_law_entry_due" [(.var 10)]))]))) [(.ret (.bl false))] []),
  (.exp (.clr (.var 7))),
  (.ret (.and (.cmp .eq (.call "read_row" [(.var 6)]) (.lc [10] (.name 10) (.seq (.var 2)) (.call "_law_entry_due" [(.var 10)]))) (.cmp .eq (.call "show_row" [(.call "read_row" [(.var 2)])]) (.var 2))))]⟩
def prog : Prog := ⟨([("common", a_common), ("ratio", a_ratio), ("whole_word", d_whole_word), ("ratio_word", d_ratio_word), ("read_whole", d_read_whole), ("read_ratio", d_read_ratio), ("show_row", d_show_row), ("read_entry", d_read_entry), ("read_row", d_read_row), ("_law_cell", a__law_cell), ("_law_mix", a__law_mix), ("_law_row", a__law_row), ("_law_ratio", a__law_ratio), ("_law_whole_due", d__law_whole_due), ("_law_ratio_due", d__law_ratio_due), ("_law_word", d__law_word), ("_law_refused", d__law_refused), ("_law_entries", d__law_entries), ("_law_line", d__law_line), ("_law_bad", d__law_bad)] : List (Str × Def)) ++ ([("_law_entry_due", d__law_entry_due), ("_law_wrong", d__law_wrong), ("_law_kinds", d__law_kinds), ("law", d_law)] : List (Str × Def)), ([("FIGURES", .str "0123456789"), ("MOST", .int 40)] : List (Str × D)), ([("LathError", [("LathError", true), ("NoWord", false)]), ("NoRatio", [("LathError", true), ("NoWord", false)]), ("NoWord", [("LathError", true), ("NoWord", true)])] : List (Str × List (Str × Bool))), ([] : List (Str × List Str × List (Str × Str))), ([("LathError", [("LathError", true), ("NoLine", false), ("NoWord", false), ("NotARow", false), ("ValueError", true)]), ("NoRatio", [("NoLine", false), ("NoRatio", true), ("NoWord", false), ("NotARow", false), ("ValueError", true)]), ("NoWord", [("NoLine", false), ("NoWord", true), ("NotARow", false), ("ValueError", true)]), ("NoLine", [("NoLine", true), ("NoWord", false), ("NotARow", false), ("ValueError", true)])] : List (Str × List (Str × Bool))), ([("NoLine", [("LathError", true), ("NoWord", false)])] : List (Str × List (Str × Bool))), ([] : List (Str × Def)), ([] : List (Str × List (Str × D))), (["common", "ratio", "read_whole", "read_ratio", "read_entry"] : List Str)⟩
theorem lk_common : prog.defs.lookup ("common" : Str) = some a_common := by kernel_rfl
theorem lk_ratio : prog.defs.lookup ("ratio" : Str) = some a_ratio := by kernel_rfl
theorem lk_whole_word : prog.defs.lookup ("whole_word" : Str) = some d_whole_word := by kernel_rfl
theorem lk_ratio_word : prog.defs.lookup ("ratio_word" : Str) = some d_ratio_word := by kernel_rfl
theorem lk_read_whole : prog.defs.lookup ("read_whole" : Str) = some d_read_whole := by kernel_rfl
theorem lk_read_ratio : prog.defs.lookup ("read_ratio" : Str) = some d_read_ratio := by kernel_rfl
theorem lk_show_row : prog.defs.lookup ("show_row" : Str) = some d_show_row := by kernel_rfl
theorem lk_read_entry : prog.defs.lookup ("read_entry" : Str) = some d_read_entry := by kernel_rfl
theorem lk_read_row : prog.defs.lookup ("read_row" : Str) = some d_read_row := by kernel_rfl
theorem lk__law_cell : prog.defs.lookup ("_law_cell" : Str) = some a__law_cell := by kernel_rfl
theorem lk__law_mix : prog.defs.lookup ("_law_mix" : Str) = some a__law_mix := by kernel_rfl
theorem lk__law_row : prog.defs.lookup ("_law_row" : Str) = some a__law_row := by kernel_rfl
theorem lk__law_ratio : prog.defs.lookup ("_law_ratio" : Str) = some a__law_ratio := by kernel_rfl
theorem lk__law_whole_due : prog.defs.lookup ("_law_whole_due" : Str) = some d__law_whole_due := by kernel_rfl
theorem lk__law_ratio_due : prog.defs.lookup ("_law_ratio_due" : Str) = some d__law_ratio_due := by kernel_rfl
theorem lk__law_word : prog.defs.lookup ("_law_word" : Str) = some d__law_word := by kernel_rfl
theorem lk__law_refused : prog.defs.lookup ("_law_refused" : Str) = some d__law_refused := by kernel_rfl
theorem lk__law_entries : prog.defs.lookup ("_law_entries" : Str) = some d__law_entries := by kernel_rfl
theorem lk__law_line : prog.defs.lookup ("_law_line" : Str) = some d__law_line := by kernel_rfl
theorem lk__law_bad : prog.defs.lookup ("_law_bad" : Str) = some d__law_bad := by kernel_rfl
theorem lk__law_entry_due : prog.defs.lookup ("_law_entry_due" : Str) = some d__law_entry_due := by kernel_rfl
theorem lk__law_wrong : prog.defs.lookup ("_law_wrong" : Str) = some d__law_wrong := by kernel_rfl
theorem lk__law_kinds : prog.defs.lookup ("_law_kinds" : Str) = some d__law_kinds := by kernel_rfl
theorem lk_law : prog.defs.lookup ("law" : Str) = some d_law := by kernel_rfl
end LawT
namespace LawH
open PySem PySem.Spec PyProof.Rows L2
def top (i : Nat) : Stmt := PySem.Challenge.pw_lath_k85_rows_as_lines.main.body.getD i (.Pass ⟨0, 0, 0, 0⟩)
def mtd (i j : Nat) : Stmt := match top i with
  | .ClassDef _ _ _ b _ _ _ _ _ _ _ => b.getD j (.Pass ⟨0, 0, 0, 0⟩)
  | _ => .Pass ⟨0, 0, 0, 0⟩
def fn : List He.DefD := ([⟨("common", none), "common", "common", defArgs (top 7), defBody (top 7), defScope (top 7), [], []⟩, ⟨("ratio", none), "ratio", "ratio", defArgs (top 8), defBody (top 8), defScope (top 8), [], []⟩, ⟨("whole_word", none), "whole_word", "whole_word", defArgs (top 12), defBody (top 12), defScope (top 12), [], []⟩, ⟨("ratio_word", none), "ratio_word", "ratio_word", defArgs (top 13), defBody (top 13), defScope (top 13), [], []⟩, ⟨("read_whole", none), "read_whole", "read_whole", defArgs (top 14), defBody (top 14), defScope (top 14), [.int 18], []⟩, ⟨("read_ratio", none), "read_ratio", "read_ratio", defArgs (top 15), defBody (top 15), defScope (top 15), [.int 18], []⟩, ⟨("show_row", none), "show_row", "show_row", defArgs (top 17), defBody (top 17), defScope (top 17), [], []⟩, ⟨("read_entry", none), "read_entry", "read_entry", defArgs (top 18), defBody (top 18), defScope (top 18), [], []⟩, ⟨("read_row", none), "read_row", "read_row", defArgs (top 19), defBody (top 19), defScope (top 19), [], []⟩, ⟨("_law_cell", none), "_law_cell", "_law_cell", defArgs (top 21), defBody (top 21), defScope (top 21), [], []⟩, ⟨("_law_mix", none), "_law_mix", "_law_mix", defArgs (top 22), defBody (top 22), defScope (top 22), [], []⟩, ⟨("_law_row", none), "_law_row", "_law_row", defArgs (top 23), defBody (top 23), defScope (top 23), [], []⟩, ⟨("_law_ratio", none), "_law_ratio", "_law_ratio", defArgs (top 24), defBody (top 24), defScope (top 24), [], []⟩, ⟨("_law_whole_due", none), "_law_whole_due", "_law_whole_due", defArgs (top 25), defBody (top 25), defScope (top 25), [], []⟩, ⟨("_law_ratio_due", none), "_law_ratio_due", "_law_ratio_due", defArgs (top 26), defBody (top 26), defScope (top 26), [], []⟩, ⟨("_law_word", none), "_law_word", "_law_word", defArgs (top 27), defBody (top 27), defScope (top 27), [], []⟩, ⟨("_law_refused", none), "_law_refused", "_law_refused", defArgs (top 28), defBody (top 28), defScope (top 28), [], []⟩, ⟨("_law_entries", none), "_law_entries", "_law_entries", defArgs (top 29), defBody (top 29), defScope (top 29), [], []⟩, ⟨("_law_line", none), "_law_line", "_law_line", defArgs (top 30), defBody (top 30), defScope (top 30), [], []⟩, ⟨("_law_bad", none), "_law_bad", "_law_bad", defArgs (top 31), defBody (top 31), defScope (top 31), [], []⟩] : List He.DefD) ++ ([⟨("_law_entry_due", none), "_law_entry_due", "_law_entry_due", defArgs (top 32), defBody (top 32), defScope (top 32), [], []⟩, ⟨("_law_wrong", none), "_law_wrong", "_law_wrong", defArgs (top 33), defBody (top 33), defScope (top 33), [], []⟩, ⟨("_law_kinds", none), "_law_kinds", "_law_kinds", defArgs (top 34), defBody (top 34), defScope (top 34), [], []⟩, ⟨("law", none), "law", "law", defArgs (top 35), defBody (top 35), defScope (top 35), [], []⟩, ⟨("NoLine", some "__init__"), "__init__", "NoLine.__init__", defArgs (mtd 5 0), defBody (mtd 5 0), defScope (mtd 5 0), [], []⟩] : List He.DefD)
def fa : List He.Fa := ([.glo "common", .glo "ratio", .glo "whole_word", .glo "ratio_word", .glo "read_whole", .glo "read_ratio", .glo "show_row", .glo "read_entry", .glo "read_row", .glo "_law_cell", .glo "_law_mix", .glo "_law_row", .glo "_law_ratio", .glo "_law_whole_due", .glo "_law_ratio_due", .glo "_law_word", .glo "_law_refused", .glo "_law_entries", .glo "_law_line", .glo "_law_bad"] : List He.Fa) ++ ([.glo "_law_entry_due", .glo "_law_wrong", .glo "_law_kinds", .glo "law", .free "abs", .free "len", .free "isinstance", .free "range", .free "int", .free "bool", .free "str", .free "tuple", .free "list", .free "sorted", .free "max", .free "min", .free "enumerate", .free "zip", .free "reversed", .str "FIGURES" "0123456789"] : List He.Fa) ++ ([.int "MOST" 40, .glo "LathError", .glo "NoRatio", .glo "NoWord", .exc "LathError", .exc "NoRatio", .exc "NoWord", .exm "LathError" "LathError" true, .exm "LathError" "NoWord" false, .exm "NoRatio" "LathError" true, .exm "NoRatio" "NoWord" false, .exm "NoWord" "LathError" true, .exm "NoWord" "NoWord" true, .glo "NoLine", .glo "NotARow", .free "ValueError"] : List He.Fa)
abbrev R : PySem.W.OpenRow := PySem.W.OpenLaw.row PySem.Challenge.rw_lath_k85_rows_as_lines
abbrev hk : PySem.W.Hook := Lt.hookL 4 fa fn (Lt.exP LawT.prog) (Lt.tbP LawT.prog)
def ob (s : PySem.W.SharedT) : Lt.AlL := Lt.obsL 4 fa fn (Lt.exP LawT.prog) (Lt.tbP LawT.prog) (HandSHeadRun.getT s)
theorem ob_eq (s : PySem.W.SharedT) : ob s = hk.obs s.abs := Lt.obsL_eq (HandSHeadRun.getT_eq s)
def names : List Str := (["LathError", "NoRatio", "NotARow", "NoWord", "NoLine", "common", "ratio", "MOST", "FIGURES", "whole_word", "ratio_word", "read_whole", "read_ratio", "show_row", "read_entry", "read_row", "_law_cell", "_law_mix", "_law_row", "_law_ratio"] : List Str) ++ (["_law_whole_due", "_law_ratio_due", "_law_word", "_law_refused", "_law_entries", "_law_line", "_law_bad", "_law_entry_due", "_law_wrong", "_law_kinds"] : List Str)
theorem run (w : World) : HandSHeadRun.RunEq R (PySem.W.view R.prog [35]) hk ob 4000 names w := by
  intro os
  kernel_rfl
theorem checks : Lt.allB LawT.prog fa fn = true := by kernel_rfl
end LawH
open PySem PySem.W PySem.Calls PyProof.Rows in
theorem LawE.fin (fu : Nat) (HLT : ∀ (ns : List Int), ns.length ≤ 63 → (∀ z ∈ ns, PySem.Builtin.Int.intBits z ≤ 1048576) → ∃ S', Lt.callN LawT.prog fu 60 "law" [.frl (ns.map .int)] [] = .ok (.bl true) S') : PySem.Challenge.rw_lath_k85_rows_as_lines.Holds := by
  w_on; o_law
  refine HandSHeadRun.head_any (r := OpenLaw.row PySem.Challenge.rw_lath_k85_rows_as_lines) (q := view (OpenLaw.row PySem.Challenge.rw_lath_k85_rows_as_lines).prog [35]) (H := LawH.hk) (ob := LawH.ob) (M := 4000) (loose := LawH.names) (d := HandSHeadRun.topDef (OpenLaw.row PySem.Challenge.rw_lath_k85_rows_as_lines).prog 35) (kwd := []) LawH.ob_eq
    (by kernel_rfl) (fun s => by kernel_rfl) LawH.run (by kernel_rfl) (by kernel_rfl) (by kernel_rfl) (by rfl) (by first | assumption | decide +kernel) (by decide +kernel) ⟨rfl, rfl, rfl, rfl, rfl, by decide +kernel⟩ ?hw ?hc
  case hw => w_witness2
  case hc => exact Lt.lt_end (l := PySem.Challenge.rw_lath_k85_rows_as_lines) (k := 60) (fuel := fu) (x := "_law_script") (P := LawT.prog) (fa := LawH.fa) (fn := LawH.fn) (m := LawT.d_law) rfl (by kernel_rfl) ⟨rfl, by decide, by decide⟩ (by kernel_rfl) (by kernel_rfl) (by kernel_rfl) LawH.checks (by kernel_rfl) LawT.lk_law (by kernel_rfl) (by kernel_rfl) HLT
namespace Lt
open PySem (Str)
/-- what an ending must meet -/
structure Zs where
  nx : Env → Store → Prop
  rt : D → Store → Prop
  bk : Env → Store → Prop := fun _ _ => False
  ex : Exc → Env → Store → Prop := fun _ _ _ => False
abbrev XP := Exc → Store → Prop
@[irreducible] def Wp {α : Type} (r : R α) (E : XP) (Q : α → Store → Prop) : Prop := match r with
  | .ok a S => Q a S
  | .exc c S => E c S
  | .bad => False
@[irreducible] def WpS (r : SR) (Z : Zs) : Prop := match r with
  | .nx e S => Z.nx e S
  | .ret d S => Z.rt d S
  | .brk e S => Z.bk e S
  | .exc c e S => Z.ex c e S
  | .bad => False
section
variable {α β : Type} {r : R α} {E E' : XP} {Q Q' : α → Store → Prop} {Z Z' : Zs} {S S' : Store} {e e' : Env} {G : Cxt} {p : Prop} [Decidable p]
theorem wp_ok {a : α} : Wp (.ok a S) E Q = Q a S := by unfold Wp; rfl
theorem wp_exc {c : Exc} : Wp (.exc c S : R α) E Q = E c S := by unfold Wp; rfl
theorem wp_bad : Wp (.bad : R α) E Q = False := by unfold Wp; rfl
theorem Wp.mono (h : Wp r E Q) (m : ∀ a S, Q a S → Q' a S) (x : ∀ c S, E c S → E' c S) : Wp r E' Q' := by
  cases r with
  | ok a S => rw [wp_ok] at h ⊢; exact m a S h
  | exc c S => rw [wp_exc] at h ⊢; exact x c S h
  | bad => rw [wp_bad] at h; exact h.elim
theorem Wp.imp (h : Wp r E Q) (m : ∀ a S, Q a S → Q' a S) : Wp r E Q' := h.mono m fun _ _ h => h
theorem wpS_nx : WpS (.nx e S) Z = Z.nx e S := by unfold WpS; rfl
theorem wpS_ret {d : D} : WpS (.ret d S) Z = Z.rt d S := by unfold WpS; rfl
theorem wpS_brk : WpS (.brk e S) Z = Z.bk e S := by unfold WpS; rfl
theorem wpS_exc {c : Exc} : WpS (.exc c e S) Z = Z.ex c e S := by unfold WpS; rfl
theorem wpS_bad : WpS .bad Z = False := by unfold WpS; rfl
theorem WpS.mono {r : SR} (h : WpS r Z) (h1 : ∀ e S, Z.nx e S → Z'.nx e S) (h2 : ∀ d S, Z.rt d S → Z'.rt d S) (h3 : ∀ e S, Z.bk e S → Z'.bk e S) (h4 : ∀ c e S, Z.ex c e S → Z'.ex c e S) : WpS r Z' := by
  cases r with
  | nx e S => rw [wpS_nx] at h ⊢; exact h1 _ _ h
  | ret d S => rw [wpS_ret] at h ⊢; exact h2 _ _ h
  | brk e S => rw [wpS_brk] at h ⊢; exact h3 _ _ h
  | exc c e S => rw [wpS_exc] at h ⊢; exact h4 _ _ _ h
  | bad => rw [wpS_bad] at h; exact h.elim
theorem wp_bind {k : α → Store → R β} {Q : β → Store → Prop} : Wp (r.bind k) E Q = Wp r E fun a S => Wp (k a S) E Q := by
  cases r with
  | ok a S => rw [wp_ok]; rfl
  | exc c S => rw [wp_exc]; show Wp (.exc c S) E Q = _; rw [wp_exc]
  | bad => rw [wp_bad]; show Wp .bad E Q = _; rw [wp_bad]
theorem wp_ite {x y : R α} : Wp (if p then x else y) E Q = if p then Wp x E Q else Wp y E Q := by
  split <;> rfl
theorem wpS_ite {x y : SR} : WpS (if p then x else y) Z = if p then WpS x Z else WpS y Z := by
  split <;> rfl
theorem wpS_toS {k : α → Store → SR} : WpS (r.toS e k) Z = Wp r (fun c S => Z.ex c e S) fun a S => WpS (k a S) Z := by
  cases r with
  | ok a S => rw [wp_ok]; rfl
  | exc c S => rw [wp_exc]; show WpS (.exc c e S) Z = _; rw [wpS_exc]
  | bad => rw [wp_bad]; show WpS .bad Z = _; rw [wpS_bad]
def brR (x : D) (a b : R α) : R α := match x with
  | .bl true => a
  | .bl false => b
  | _ => .bad
def brS (x : D) (a b : SR) : SR := match x with
  | .bl true => a
  | .bl false => b
  | _ => .bad
def notR (x : D) (S : Store) : R D := match x with
  | .bl b => .ok (.bl (!b)) S
  | _ => .bad
def negR (x : D) (S : Store) : R D := match x with
  | .int i => .ok (.int (-i)) S
  | _ => .bad
theorem brR_bl {b : Bool} {x y : R α} : brR (.bl b) x y = if b = true then x else y := by cases b <;> rfl
theorem brS_bl {b : Bool} {x y : SR} : brS (.bl b) x y = if b = true then x else y := by cases b <;> rfl
theorem notR_bl {b : Bool} : notR (.bl b) S = .ok (.bl (!b)) S := rfl
theorem negR_int {i : Int} : negR (.int i) S = .ok (.int (-i)) S := rfl
theorem ev_int {i : Int} : ev G (.int i) e S = .ok (.int i) S := by simp only [ev]
theorem ev_str {s : Str} : ev G (.str s) e S = .ok (.str s) S := by simp only [ev]
theorem ev_bl {b : Bool} : ev G (.bl b) e S = .ok (.bl b) S := by simp only [ev]
theorem ev_non : ev G .non e S = .ok .non S := by simp only [ev]
def varR (x : Option (Option D)) (S : Store) : R D := match x with
  | some (some d) => .ok d S
  | _ => .bad
theorem ev_var {i : Nat} : ev G (.var i) e S = varR e[i]? S := by simp only [ev, varR]; try rfl
theorem varR_some {d : D} : varR (some (some d)) S = .ok d S := rfl
theorem ev_bin {o : Op} {a b : Ex} : ev G (.bin o a b) e S = (ev G a e S).bind fun x S => (ev G b e S).bind fun y S => binop o x y S := by simp only [ev]
theorem ev_neg {a : Ex} : ev G (.neg a) e S = (ev G a e S).bind negR := by
  simp only [ev]
  congr 1
theorem ev_not {a : Ex} : ev G (.not a) e S = (ev G a e S).bind notR := by
  simp only [ev]
  congr 1
theorem ev_and {a b : Ex} : ev G (.and a b) e S = (ev G a e S).bind fun x S => brR x (ev G b e S) (.ok (.bl false) S) := by
  simp only [ev]; rfl
theorem ev_or {a b : Ex} : ev G (.or a b) e S = (ev G a e S).bind fun x S => brR x (.ok (.bl true) S) (ev G b e S) := by
  simp only [ev]; rfl
theorem ev_cmp {o : Cm} {a b : Ex} : ev G (.cmp o a b) e S = (ev G a e S).bind fun x S => (ev G b e S).bind fun y S => cmpop o x y S := by simp only [ev]
theorem ev_chn4 {o1 o2 o3 : Cm} {a b c d : Ex} : ev G (.chn4 o1 o2 o3 a b c d) e S = (ev G a e S).bind fun x S => (ev G b e S).bind fun y S => (cmpop o1 x y S).bind fun k S => brR k ((ev G c e S).bind fun z S => (cmpop o2 y z S).bind fun k S => brR k ((ev G d e S).bind fun w S => cmpop o3 z w S) (.ok (.bl false) S)) (.ok (.bl false) S) := by
  simp only [ev]; rfl
theorem ev_chn {o1 o2 : Cm} {a b c : Ex} : ev G (.chn o1 o2 a b c) e S = (ev G a e S).bind fun x S => (ev G b e S).bind fun y S => (cmpop o1 x y S).bind fun k S => brR k ((ev G c e S).bind fun z S => cmpop o2 y z S) (.ok (.bl false) S) := by
  simp only [ev]; rfl
theorem ev_isN {a : Ex} : ev G (.isN a) e S = (ev G a e S).bind fun x S => .ok (.bl (isN x)) S := by simp only [ev]
theorem ev_ntN {a : Ex} : ev G (.ntN a) e S = (ev G a e S).bind fun x S => .ok (.bl (!isN x)) S := by simp only [ev]
theorem ev_ife {c a b : Ex} : ev G (.ife c a b) e S = (ev G c e S).bind fun x S => brR x (ev G a e S) (ev G b e S) := by
  simp only [ev]; rfl
theorem ev_tup {es : List Ex} : ev G (.tup es) e S = (evs G es e S).bind fun ds S => .ok (.tup ds) S := by simp only [ev]
theorem ev_lst {es : List Ex} : ev G (.lst es) e S = (evs G es e S).bind fun ds S => alloc (.lst ds) S := by simp only [ev]
theorem ev_idx {a i : Ex} : ev G (.idx a i) e S = (ev G a e S).bind fun x S => (ev G i e S).bind fun y S => item x y S := by simp only [ev]
theorem ev_slT {a b : Ex} : ev G (.slT a b) e S = (ev G a e S).bind fun x S => (ev G b e S).bind fun y S => slice x none (some y) S := by simp only [ev]
theorem ev_slF {a b : Ex} : ev G (.slF a b) e S = (ev G a e S).bind fun x S => (ev G b e S).bind fun y S => slice x (some y) none S := by simp only [ev]
theorem ev_slB {a b c : Ex} : ev G (.slB a b c) e S = (ev G a e S).bind fun x S => (ev G b e S).bind fun y S => if isInt y = true then (ev G c e S).bind fun z S => slice x (some y) (some z) S else .bad := by simp only [ev]
def revR (x : D) (S : Store) : R D := match lstOf S x with
  | some xs => alloc (.lst xs.reverse) S
  | none => .bad
theorem ev_rev {a : Ex} : ev G (.rev a) e S = (ev G a e S).bind revR := by
  simp only [ev]; congr 1
theorem ev_call {f : Str} {es : List Ex} : ev G (.call f es) e S = (evs G es e S).bind fun ds S => G.cl f ds S := by simp only [ev]
theorem ev_bi {b : Bi} {es : List Ex} : ev G (.bi b es) e S = (evs G es e S).bind fun ds S => biop b ds S := by simp only [ev]
def isIR (t : Ty) (x : D) (S : Store) : R D := match isTy S t x with
  | some b => .ok (.bl b) S
  | none => .bad
theorem ev_isI {a : Ex} {t : Ty} : ev G (.isI a t) e S = (ev G a e S).bind (isIR t) := by
  simp only [ev]; congr 1
theorem ev_app {o a : Ex} : ev G (.app o a) e S = (ev G o e S).bind fun x S => if isLst x S = true then (ev G a e S).bind fun y S => append x y S else .bad := by simp only [ev]
theorem ev_ext {o a : Ex} : ev G (.ext o a) e S = (ev G o e S).bind fun x S => if isLst x S = true then (ev G a e S).bind fun y S => extend x y S else .bad := by simp only [ev]
theorem ev_clr {o : Ex} : ev G (.clr o) e S = (ev G o e S).bind clear := by simp only [ev]
theorem ev_isB {a : Ex} {b : Bool} : ev G (.isB a b) e S = (ev G a e S).bind (isBR b) := by simp only [ev]
theorem ev_any : ev G .any e S = .bad := by simp only [ev]
theorem ev_chn5 {o1 o2 o3 o4 : Cm} {a b c d f : Ex} : ev G (.chn5 o1 o2 o3 o4 a b c d f) e S = (ev G a e S).bind fun x S => (ev G b e S).bind fun y S => (cmpop o1 x y S).bind fun k S => brR k ((ev G c e S).bind fun z S => (cmpop o2 y z S).bind fun k S => brR k ((ev G d e S).bind fun w S => (cmpop o3 z w S).bind fun k S => brR k ((ev G f e S).bind fun u S => cmpop o4 w u S) (.ok (.bl false) S)) (.ok (.bl false) S)) (.ok (.bl false) S) := by
  simp only [ev]; rfl
theorem ev_ntB {a : Ex} {b : Bool} : ev G (.ntB a b) e S = (ev G a e S).bind (ntBR b) := by simp only [ev]
theorem ntBR_bl {b c : Bool} : ntBR b (.bl c) S = .ok (.bl (!decide (c = b))) S := rfl
theorem ev_dicT : ev G (.dic true) e S = alloc (.dT []) S := by simp only [ev, if_true]
theorem ev_dcb : ev G .dcb e S = alloc (.dB []) S := by simp only [ev]
theorem ev_dicF : ev G (.dic false) e S = alloc (.dK []) S := by simp [ev]
theorem ev_dgt {o k : Ex} : ev G (.dgt o k) e S = (ev G o e S).bind fun x S => (ev G k e S).bind fun y S => dgtR x y S := by simp only [ev]
theorem ev_din {n : Bool} {o k : Ex} : ev G (.din n k o) e S = (ev G k e S).bind fun y S => (ev G o e S).bind fun x S => dinR n y x S := by simp only [ev]
theorem ev_get1 {o k : Ex} : ev G (.get1 o k) e S = (ev G o e S).bind fun x S => if isDct x S = true then (ev G k e S).bind fun y S => getR x y .non S else .bad := by simp only [ev]
theorem ev_get2 {o k d : Ex} : ev G (.get2 o k d) e S = (ev G o e S).bind fun x S => if isDct x S = true then (ev G k e S).bind fun y S => (ev G d e S).bind fun z S => getR x y z S else .bad := by simp only [ev]
theorem ev_dpop {o k : Ex} : ev G (.dpop o k) e S = (ev G o e S).bind fun x S => if isDct x S = true then (ev G k e S).bind fun y S => dpopR x y S else .bad := by simp only [ev]
theorem ev_ixo {o a : Ex} : ev G (.ixo o a) e S = (ev G o e S).bind fun x S => if isLst x S = true then (ev G a e S).bind fun y S => ixoR x y S else .bad := by simp only [ev]
theorem ev_ins {o i a : Ex} : ev G (.ins o i a) e S = (ev G o e S).bind fun x S => if isLst x S = true then (ev G i e S).bind fun j S => (ev G a e S).bind fun y S => insR x j y S else .bad := by simp only [ev]
theorem ev_pop0 {o : Ex} : ev G (.pop0 o) e S = (ev G o e S).bind pop0R := by simp only [ev]
theorem ev_pop1 {o i : Ex} : ev G (.pop1 o i) e S = (ev G o e S).bind fun x S => if isLst x S = true then (ev G i e S).bind fun j S => pop1R x j S else .bad := by simp only [ev]
theorem isBR_bl {b c : Bool} : isBR b (.bl c) S = .ok (.bl (decide (c = b))) S := rfl
theorem ev_fld {a : Ex} {C f : Str} : ev G (.fld a C f) e S = (ev G a e S).bind (fldR C f) := by simp only [ev]
theorem ev_mth {o : Ex} {C m key : Str} {es : List Ex} : ev G (.mth o C m key es) e S = (ev G o e S).bind fun x S => if insOk C m x S = true then (evs G es e S).bind fun ds S => G.cl key (x :: ds) S else .bad := by simp only [ev]
theorem ev_mk {C key : Str} {es : List Ex} : ev G (.mk C key es) e S = (evs G es e S).bind fun ds S => (G.cl key (.ref S.length :: ds) (S ++ [.ins C []])).bind (madeR S.length) := by simp only [ev]
theorem madeR_non {n : Nat} : madeR n .non S = .ok (.ref n) S := rfl
theorem ev_xis {i : Nat} {C : Str} : ev G (.xis i C) e S = xisR G.exc (fun x => G.isc x C) S := by simp only [ev]
theorem ev_xcl {i : Nat} {f : Str} : ev G (.xcl i f) e S = xclR G.exc (fun c => G.clx f c S) := by simp only [ev]
theorem xclR_some {c : Exc} {g : Exc → R D} : xclR (some c) g = g c := rfl
theorem ev_xat {i : Nat} : ev G (.xat i) e S = xatR G.exc (fun x => (G.isc x x).isSome) S := by simp only [ev]
theorem ev_callK {f : Str} {es : List Ex} {a : Ex} : ev G (.callK f es a) e S = (evs G es e S).bind fun ds S => (ev G a e S).bind fun d S => G.cl f (ds ++ [d]) S := by simp only [ev]
theorem ev_op2 {k : X2} {o a : Ex} : ev G (.op2 k o a) e S = (ev G o e S).bind fun x S => if x2Ok k x S = true then (ev G a e S).bind fun y S => x2R k x y S else .bad := by simp only [ev]
theorem ev_upp {o : Ex} : ev G (.upp o) e S = (ev G o e S).bind uppR := by simp only [ev]
theorem ev_idS {a i : Ex} : ev G (.idS a i) e S = (ev G a e S).bind fun x S => (ev G i e S).bind fun y S => idSR x y S := by simp only [ev]
theorem ev_lsd {o : Ex} : ev G (.lsd o) e S = (ev G o e S).bind lsdR := by simp only [ev]
theorem ev_gget {x : Str} {k : Ex} : ev G (.gget x k) e S = (ev G k e S).bind (ggetR (G.frd x)) := by simp only [ev]
theorem x2_spl {a : Str} : x2Ok .spl (.str a) S = true := rfl
theorem x2_prt {a : Str} : x2Ok .prt (.str a) S = true := rfl
theorem x2_joi {a : Str} : x2Ok .joi (.str a) S = true := rfl
theorem x2_cnt {n : Nat} : x2Ok .cnt (.ref n) S = (getL S n).isSome := rfl
theorem x2_rmv {n : Nat} : x2Ok .rmv (.ref n) S = (getL S n).isSome := rfl
theorem x2_fs {s : Str} {i : Int} : x2Ok (.fs s) (.int i) S = decide (i.natAbs.log2 < 1920 ∧ (toString i : Str).length + s.length ≤ lim) := rfl
theorem x2R_spl {a b : Str} : x2R .spl (.str a) (.str b) S = if b.length ≠ 0 ∧ a.length + 2 ≤ lim then alloc (.lst ((PySem.Txt.split a b).map .str)) S else .bad := rfl
theorem x2R_prt {a b : Str} : x2R .prt (.str a) (.str b) S = if b.length ≠ 0 ∧ a.length ≤ lim then .ok (.tup [.str (PySem.Txt.partition a b).1, .str (PySem.Txt.partition a b).2.1, .str (PySem.Txt.partition a b).2.2]) S else .bad := rfl
theorem x2R_fs {s : Str} {i j : Int} : x2R (.fs s) (.int i) (.int j) S = if i.natAbs.log2 < 1920 ∧ j.natAbs.log2 < 1920 ∧ (toString i : Str).length + s.length + (toString j : Str).length ≤ lim then .ok (.str ((toString i : Str) ++ s ++ (toString j : Str))) S else .bad := rfl
/-- join, of what stands at a list -/
def joiO (a : Str) (o : Option (List D)) (S : Store) : R D := match o with
  | some ys => match strsOf ys with
    | some ss => if (ss.map (·.length)).sum + ss.length * a.length ≤ lim then .ok (.str (PySem.Txt.join a ss)) S else .bad
    | none => .bad
  | none => .bad
theorem x2R_joi {a : Str} {y : D} : x2R .joi (.str a) y S = joiO a (seqOf S y) S := rfl
theorem strsOf_ok : ∀ ss : List Str, strsOf (ss.map .str) = some ss
  | [] => rfl
  | s :: ss => by simp only [List.map_cons, strsOf, strsOf_ok ss, Option.map_some]
theorem joiO_some {a : Str} {ss : List Str} : joiO a (some (ss.map .str)) S = if (ss.map (·.length)).sum + ss.length * a.length ≤ lim then .ok (.str (PySem.Txt.join a ss)) S else .bad := by
  unfold joiO
  simp only [strsOf_ok]
theorem uppR_str {a : Str} : uppR (.str a) S = if a.length ≤ lim then .ok (.str (PySem.Txt.upper a)) S else .bad := rfl
theorem idSR_str {z : Str} {k : Int} : idSR (.str z) (.int k) S = itemS z k S := rfl
theorem bi_intS {z : Str} : biop .int [.str z] S = if z.length ≤ 640 then (match PySem.intText? z with
    | some n => .ok (.int n) S
    | none => .bad) else .bad := rfl
theorem bi_strI {i : Int} : biop .str [.int i] S = if i.natAbs.log2 < 1920 then .ok (.str (toString i)) S else .bad := rfl
theorem bi_min3 {i j l : Int} : biop .min [.int i, .int j, .int l] S = .ok (.int (if l < (if j < i then j else i) then l else (if j < i then j else i))) S := rfl
theorem ev_lrg {a : Ex} : ev G (.lrg a) e S = (ev G a e S).bind lrgR := by simp only [ev]
theorem lrgR_int {j : Int} : lrgR (.int j) S = if 0 ≤ j ∧ j ≤ 1000 then alloc (.lst ((List.range j.toNat).map fun (i : Nat) => .int (i : Int))) S else .bad := rfl
theorem ev_dsp {es : List Ex} : ev G (.dsp es) e S = (evs G es e S).bind dspR := by simp only [ev]
theorem ev_lc {own : List Nat} {t : Tg} {it : It} {el : Ex} : ev G (.lc own t it el) e S = (evI G it e S).bind fun j S => (lcGo t j none (ev G el) (wipeE e own) j.n 0 [] S).bind fun ds S => alloc (.lst ds) S := by simp only [ev]
theorem ev_lcI {own : List Nat} {t : Tg} {it : It} {c el : Ex} : ev G (.lcI own t it c el) e S = (evI G it e S).bind fun j S => (lcGo t j (some (ev G c)) (ev G el) (wipeE e own) j.n 0 [] S).bind fun ds S => alloc (.lst ds) S := by simp only [ev]
theorem evs_nil : evs G [] e S = .ok [] S := by simp only [evs]
theorem evs_cons {a : Ex} {l : List Ex} : evs G (a :: l) e S = (ev G a e S).bind fun x S => (evs G l e S).bind fun xs S => .ok (x :: xs) S := by simp only [evs]
def optR (x : Option α) (S : Store) : R α := match x with
  | some j => .ok j S
  | none => .bad
theorem optR_some {a : α} : optR (some a) S = .ok a S := rfl
theorem evI_seq {a : Ex} : evI G (.seq a) e S = (ev G a e S).bind fun x S => optR (seqItr x S) S := by
  simp only [evI]
  congr 1; funext x S
  cases seqItr x S <;> rfl
def rngR (x y : D) (S : Store) : R Itr := match x, y with
  | .int i, .int j => optR (rngItr i j) S
  | _, _ => .bad
theorem rngR_int {i j : Int} : rngR (.int i) (.int j) S = optR (rngItr i j) S := rfl
theorem evI_rng {a : Ex} : evI G (.rng a) e S = (ev G a e S).bind fun x S => rngR (.int 0) x S := by
  simp only [evI]
  congr 1
  funext x S
  cases x with
  | int i => show _ = optR (rngItr 0 i) S; simp only; cases rngItr 0 i <;> rfl
  | _ => rfl
theorem evI_rng2 {a b : Ex} : evI G (.rng2 a b) e S = (ev G a e S).bind fun x S => (ev G b e S).bind fun y S => rngR x y S := by
  simp only [evI]
  congr 1; funext x S
  congr 1; funext y S
  cases x with
  | int i => cases y with
    | int j => show _ = optR (rngItr i j) S; simp only; cases rngItr i j <;> rfl
    | _ => rfl
  | _ => rfl
theorem evI_enm {a : Ex} : evI G (.enm a) e S = (ev G a e S).bind fun x S => optR (lstItr x S (fun _ i => i) fun i d => .tup [.int i, d]) S := by
  simp only [evI]
  congr 1; funext x S
  cases lstItr x S (fun _ i => i) (fun i d => .tup [.int i, d]) <;> rfl
theorem evI_rvd {a : Ex} : evI G (.rvd a) e S = (ev G a e S).bind fun x S => optR (lstItr x S (fun n i => n - 1 - i) fun _ d => d) S := by
  simp only [evI]
  congr 1; funext x S
  cases lstItr x S (fun n i => n - 1 - i) (fun _ d => d) <;> rfl
theorem evI_zip {a b : Ex} : evI G (.zip a b) e S = (ev G a e S).bind fun x S => (ev G b e S).bind fun y S => optR (zipItr x y S) S := by
  simp only [evI]
  congr 1; funext x S
  congr 1; funext y S
  cases zipItr x y S <;> rfl
def bindS (t : Tg) (d : D) (e : Env) (S : Store) : SR := match bindT t d e S with
  | some e1 => .nx e1 S
  | none => .bad
theorem exS_asg {t : Tg} {a : Ex} : exS G (.asg t a) e S = (ev G a e S).toS e fun d S => bindS t d e S := by
  simp only [exS]; rfl
theorem bindS_name {i : Nat} {d : D} : bindS (.name i) d e S = if i < e.length then .nx (e.set i (some d)) S else .bad := by
  unfold bindS
  simp only [bindT]
  by_cases h : i < e.length
  · rw [if_pos h, if_pos h]
  · rw [if_neg h, if_neg h]
def unpR (is : List Nat) (x : Option (List D)) (e : Env) (S : Store) : SR := match x with
  | some xs => if xs.length = is.length then (match setAll is xs e with
    | some e1 => .nx e1 S
    | none => .bad) else .bad
  | none => .bad
theorem bindS_tup {is : List Nat} {d : D} : bindS (.tup is) d e S = unpR is (seqOf S d) e S := by
  unfold bindS unpR
  simp only [bindT]
  cases seqOf S d with
  | none => rfl
  | some xs =>
    simp only
    by_cases h : xs.length = is.length
    · rw [if_pos h, if_pos h]
    · rw [if_neg h, if_neg h]
theorem unpR_2 {i j : Nat} {x y : D} (h : i < e.length ∧ j < e.length) : unpR [i, j] (some [x, y]) e S = .nx ((e.set i (some x)).set j (some y)) S := by
  unfold unpR
  simp [setAll, h.1, h.2]
theorem unpR_3 {i j k : Nat} {x y z : D} (h : i < e.length ∧ j < e.length ∧ k < e.length) : unpR [i, j, k] (some [x, y, z]) e S = .nx (((e.set i (some x)).set j (some y)).set k (some z)) S := by
  unfold unpR
  simp [setAll, h.1, h.2.1, h.2.2]
theorem unpR_4 {i j k l : Nat} {x y z w : D} (h : i < e.length ∧ j < e.length ∧ k < e.length ∧ l < e.length) : unpR [i, j, k, l] (some [x, y, z, w]) e S = .nx ((((e.set i (some x)).set j (some y)).set k (some z)).set l (some w)) S := by
  unfold unpR
  simp [setAll, h.1, h.2.1, h.2.2.1, h.2.2.2]
theorem exS_par {i j : Nat} {a b : Ex} : exS G (.par i j a b) e S = (ev G a e S).toS e fun x S1 => (ev G b e S1).toS e fun y S2 => if i < e.length ∧ j < e.length then .nx ((e.set i (some x)).set j (some y)) S2 else .bad := by simp only [exS]
theorem exS_sub {o i a : Ex} : exS G (.sub o i a) e S = (ev G a e S).toS e fun v S1 => (ev G o e S1).toS e fun x S2 => (ev G i e S2).toS e fun k S3 => (setItem x k v S3).toS e fun _ S4 => .nx e S4 := by simp only [exS]
theorem exS_exp {a : Ex} : exS G (.exp a) e S = (ev G a e S).toS e fun _ S1 => .nx e S1 := by simp only [exS]
theorem exS_ite {c : Ex} {a b : List St} : exS G (.ite c a b) e S = (ev G c e S).toS e fun x S1 => brS x (exB G a e S1) (exB G b e S1) := by
  simp only [exS]; rfl
theorem exS_for {t : Tg} {it : It} {b : List St} : exS G (.forS t it b) e S = (evI G it e S).toS e fun j S1 => forGo t j (exB G b) j.n 0 e S1 := by simp only [exS]
theorem exS_whl {c : Ex} {b : List St} : exS G (.whl c b) e S = whGo (ev G c) (exB G b) G.fuel e S := by simp only [exS]
theorem exS_ret {a : Ex} : exS G (.ret a) e S = (ev G a e S).toS e fun d S1 => .ret d S1 := by simp only [exS]
theorem exS_retN : exS G .retN e S = .ret .non S := by simp only [exS]
theorem exS_brk : exS G .brk e S = .brk e S := by simp only [exS]
theorem exS_pass : exS G .pass e S = .nx e S := by simp only [exS]
theorem exS_stf {o a : Ex} {C f : Str} : exS G (.stf o C f a) e S = (ev G a e S).toS e fun v S1 => (ev G o e S1).toS e fun x S2 => (stfR C f x v S2).toS e fun _ S3 => .nx e S3 := by simp only [exS]
theorem exS_any : exS G .any e S = .bad := by simp only [exS]
theorem exS_dst {o k a : Ex} : exS G (.dst o k a) e S = (ev G a e S).toS e fun v S1 => (ev G o e S1).toS e fun x S2 => (ev G k e S2).toS e fun y S3 => (dstR x y v S3).toS e fun _ S4 => .nx e S4 := by simp only [exS]
theorem exS_rai {C : Str} : exS G (.rai C) e S = .exc ⟨C, none⟩ e S := by simp only [exS]
theorem wp_try {b : List St} {C : Str} {a : Ex} : WpS (exS G (.tryC b C a) e S) Z = WpS (exB G b e S) { Z with ex := fun c e1 S1 => (G.sub c.cls C = some true ∧ Wp (ev G a e1 S1) (fun _ _ => False) Z.rt) ∨ (G.sub c.cls C = some false ∧ Z.ex c e1 S1) } := by
  simp only [exS]
  cases exB G b e S with
  | nx e S => simp only [wpS_nx]
  | ret d S => simp only [wpS_ret]
  | brk e S => simp only [wpS_brk]
  | bad => simp only [wpS_bad]
  | exc c e1 S1 =>
    simp only [wpS_exc]
    cases G.sub c.cls C with
    | none => simp only [wpS_bad]; simp
    | some x =>
      cases x with
      | false => simp [wpS_exc]
      | true => cases ev G a e1 S1 <;> simp [wp_ok, wp_exc, wp_bad, wpS_ret, wpS_bad]
theorem wp_tryN {b : List St} : WpS (exS G (.tryN b) e S) Z = WpS (exB G b e S) { Z with ex := fun _ _ _ => False } := by
  simp only [exS]
  cases exB G b e S <;> simp only [wpS_nx, wpS_ret, wpS_brk, wpS_bad, wpS_exc]
theorem wp_tryR {b : List St} {C C2 : Str} {i : Nat} : WpS (exS G (.tryR b C C2 i) e S) Z = WpS (exB G b e S) { Z with ex := fun c e1 S1 => (G.sub c.cls C = some true ∧ ∃ d, e1[i]? = some (some d) ∧ Z.ex ⟨C2, some d⟩ e1 S1) ∨ (G.sub c.cls C = some false ∧ Z.ex c e1 S1) } := by
  simp only [exS]
  cases exB G b e S with
  | nx e S => simp only [wpS_nx]
  | ret d S => simp only [wpS_ret]
  | brk e S => simp only [wpS_brk]
  | bad => simp only [wpS_bad]
  | exc c e1 S1 =>
    simp only [wpS_exc]
    cases G.sub c.cls C with
    | none => simp only [wpS_bad]; simp
    | some x =>
      cases x with
      | false => simp [wpS_exc]
      | true =>
        simp only
        cases hi : e1[i]? with
        | none => simp [wpS_bad]
        | some o => cases o <;> simp [wpS_bad, wpS_exc]
theorem wp_tryCC {b : List St} {C C2 : Str} {a a2 : Ex} : WpS (exS G (.tryCC b C a C2 a2) e S) Z = WpS (exB G b e S) { Z with ex := fun c e1 S1 => (G.sub c.cls C = some true ∧ Wp (ev G a e1 S1) (fun _ _ => False) Z.rt) ∨ (G.sub c.cls C = some false ∧ ((G.sub c.cls C2 = some true ∧ Wp (ev G a2 e1 S1) (fun _ _ => False) Z.rt) ∨ (G.sub c.cls C2 = some false ∧ Z.ex c e1 S1))) } := by
  simp only [exS]
  cases exB G b e S with
  | nx e S => simp only [wpS_nx]
  | ret d S => simp only [wpS_ret]
  | brk e S => simp only [wpS_brk]
  | bad => simp only [wpS_bad]
  | exc c e1 S1 =>
    simp only [wpS_exc]
    cases G.sub c.cls C with
    | none => simp only [wpS_bad]; simp
    | some x =>
      cases x with
      | false =>
        cases G.sub c.cls C2 with
        | none => simp only [wpS_bad]; simp
        | some x2 =>
          cases x2 with
          | false => simp [wpS_exc]
          | true => cases ev G a2 e1 S1 <;> simp [wp_ok, wp_exc, wp_bad, wpS_ret, wpS_bad]
      | true => cases ev G a e1 S1 <;> simp [wp_ok, wp_exc, wp_bad, wpS_ret, wpS_bad]
theorem exS_raiA {C : Str} {a : Ex} : exS G (.raiA C a) e S = (ev G a e S).toS e fun d S1 => .exc ⟨C, some d⟩ e S1 := by simp only [exS]
theorem wp_suR {i : Nat} {r : SR} : WpS (suR i r) Z = WpS r { nx := fun e2 S2 => Z.nx (e2.set i none) S2, rt := Z.rt, bk := fun e2 S2 => Z.bk (e2.set i none) S2, ex := fun _ _ _ => False } := by
  cases r <;> simp only [suR, wpS_nx, wpS_ret, wpS_brk, wpS_exc, wpS_bad]
theorem wp_tryA {b su : List St} {C : Str} {i : Nat} : WpS (exS G (.tryA b C i su) e S) Z = WpS (exB G b e S) { Z with ex := fun c e1 S1 => (G.sub c.cls C = some true ∧ i < e1.length ∧ WpS (exB { G with exc := some c } su (e1.set i none) S1) { nx := fun e2 S2 => Z.nx (e2.set i none) S2, rt := Z.rt, bk := fun e2 S2 => Z.bk (e2.set i none) S2, ex := fun _ _ _ => False }) ∨ (G.sub c.cls C = some false ∧ Z.ex c e1 S1) } := by
  simp only [exS]
  cases exB G b e S with
  | nx e S => simp only [wpS_nx]
  | ret d S => simp only [wpS_ret]
  | brk e S => simp only [wpS_brk]
  | bad => simp only [wpS_bad]
  | exc c e1 S1 =>
    simp only [wpS_exc]
    cases G.sub c.cls C with
    | none => simp only [wpS_bad]; simp
    | some x =>
      cases x with
      | false => simp [wpS_exc]
      | true =>
        simp only [wpS_ite, wp_suR, wpS_bad]
        by_cases h : i < e1.length
        · simp [h]
        · simp [h]
theorem exS_par3 {i j l : Nat} {a b c : Ex} : exS G (.par3 i j l a b c) e S = (ev G a e S).toS e fun x S1 => (ev G b e S1).toS e fun y S2 => (ev G c e S2).toS e fun z S3 => if i < e.length ∧ j < e.length ∧ l < e.length then .nx (((e.set i (some x)).set j (some y)).set l (some z)) S3 else .bad := by simp only [exS]
theorem exB_nil : exB G [] e S = .nx e S := by simp only [exB]
theorem wp_cons {s : St} {l : List St} : WpS (exB G (s :: l) e S) Z = WpS (exS G s e S) { Z with nx := fun e S => WpS (exB G l e S) Z } := by
  rw [exB]
  cases exS G s e S with
  | nx e S => simp only [wpS_nx]
  | ret d S => simp only [wpS_ret]
  | brk e S => simp only [wpS_brk]
  | exc c e S => simp only [wpS_exc]
  | bad => simp only [wpS_bad]
theorem wp_app {l1 l2 : List St} : WpS (exB G (l1 ++ l2) e S) Z = WpS (exB G l1 e S) { Z with nx := fun e S => WpS (exB G l2 e S) Z } := by
  induction l1 generalizing e S with
  | nil => rw [List.nil_append, exB_nil, wpS_nx]
  | cons a l ih =>
    rw [List.cons_append, wp_cons, wp_cons]
    congr 2
    funext e S
    exact ih
theorem padD_all {m : Def} {ds : List D} (h : ds.length = m.ps.length) : padD m ds = ds := by
  unfold padD
  rw [h]
  simp
theorem wp_callD {P : Prog} {F k : Nat} {f : Str} {m : Def} {ds es : List D} {Q : D → Store → Prop} (h : P.defs.lookup f = some m) (hp : padD m ds = es) (hl : es.length = m.ps.length)
    (w : WpS (exB (P.cx F (callN P F k)) m.body (es.map some ++ List.replicate (m.ns.length - es.length) none) S) { nx := fun _ S => Q .non S, rt := Q, ex := fun c _ S => E c S }) : Wp (callN P F (k + 1) f ds S) E Q := by
  rw [callN, h]
  simp only
  rw [hp, if_pos hl]
  revert w
  cases exB (P.cx F (callN P F k)) m.body (es.map some ++ List.replicate (m.ns.length - es.length) none) S 
  · rw [wpS_nx]; exact fun w => by show Wp (.ok .non _) E Q; rw [wp_ok]; exact w
  · rw [wpS_ret]; exact fun w => by show Wp (.ok _ _) E Q; rw [wp_ok]; exact w
  · rw [wpS_brk]; exact fun w => w.elim
  · rw [wpS_exc]; exact fun w => by show Wp (.exc _ _) E Q; rw [wp_exc]; exact w
  · rw [wpS_bad]; exact fun w => w.elim
theorem wp_callN {P : Prog} {F k : Nat} {f : Str} {m : Def} {ds : List D} {Q : D → Store → Prop} (h : P.defs.lookup f = some m) (hl : ds.length = m.ps.length)
    (w : WpS (exB (P.cx F (callN P F k)) m.body (ds.map some ++ List.replicate (m.ns.length - ds.length) none) S) { nx := fun _ S => Q .non S, rt := Q, ex := fun c _ S => E c S }) : Wp (callN P F (k + 1) f ds S) E Q := wp_callD h (padD_all hl) hl w
theorem cx_cl {P : Prog} {F : Nat} {c : Str → List D → Store → R D} : (P.cx F c).cl = c := rfl
theorem cx_clx {P : Prog} {F : Nat} {c : Str → List D → Store → R D} : (P.cx F c).clx = P.clx := rfl
theorem cx_frd {P : Prog} {F : Nat} {c : Str → List D → Store → R D} {x : Str} : (P.cx F c).frd x = P.frd.lookup x := rfl
theorem cx_fuel {P : Prog} {F : Nat} {c : Str → List D → Store → R D} : (P.cx F c).fuel = F := rfl
theorem wh_rule {c : Env → Store → R D} {b : Env → Store → SR} (I : Env → Store → Prop) (m : Env → Store → Nat)
    (h : ∀ e S, I e S → Wp (c e S) (fun c S => Z.ex c e S) fun d S1 => (d = .bl true ∧ WpS (b e S1) { nx := fun e' S' => I e' S' ∧ m e' S' < m e S, rt := Z.rt, bk := Z.nx, ex := Z.ex }) ∨ (d = .bl false ∧ Z.nx e S1)) :
    ∀ (n : Nat) (e : Env) (S : Store), I e S → m e S < n → WpS (whGo c b n e S) Z
  | 0, _, _, _, hn => absurd hn (Nat.not_lt_zero _)
  | n + 1, e, S, i, hn => by
    unfold whGo
    rw [wpS_toS]
    refine (h e S i).imp fun d S1 h1 => ?_
    rcases h1 with ⟨rfl, h1⟩ | ⟨rfl, h1⟩
    · simp only
      cases hb : b e S1 with
      | nx e2 S2 =>
        rw [hb, wpS_nx] at h1
        exact wh_rule I m h n e2 S2 h1.1 (by omega)
      | ret d S2 => rw [hb, wpS_ret] at h1; rw [wpS_ret]; exact h1
      | brk e2 S2 => rw [hb, wpS_brk] at h1; rw [wpS_nx]; exact h1
      | exc c e2 S2 => rw [hb, wpS_exc] at h1; rw [wpS_exc]; exact h1
      | bad => rw [hb, wpS_bad] at h1; exact h1.elim
    · simp only; rw [wpS_nx]; exact h1
theorem for_rule {t : Tg} {it : Itr} {b : Env → Store → SR} (I : Nat → Env → Store → Prop) (N : Nat)
    (step : ∀ i e S, i < N → I i e S → ∃ d e1, it.at_ i S = some d ∧ bindT t d e S = some e1 ∧ WpS (b e1 S) { nx := I (i + 1), rt := Z.rt, bk := Z.nx, ex := Z.ex })
    (fin : ∀ e S, I N e S → it.fin S = true ∧ Z.nx e S) :
    ∀ (k i : Nat) (e : Env) (S : Store), i + k = N → I i e S → WpS (forGo t it b k i e S) Z
  | 0, i, e, S, hi, h => by
    have : i = N := by omega
    subst this
    unfold forGo
    obtain ⟨f1, f2⟩ := fin e S h
    rw [if_pos f1, wpS_nx]
    exact f2
  | k + 1, i, e, S, hi, h => by
    obtain ⟨d, e1, h1, h2, h3⟩ := step i e S (by omega) h
    unfold forGo
    rw [h1]
    simp only
    rw [h2]
    simp only
    cases hb : b e1 S with
    | nx e2 S2 =>
      rw [hb, wpS_nx] at h3
      exact for_rule I N step fin k (i + 1) e2 S2 (by omega) h3
    | ret d S2 => rw [hb, wpS_ret] at h3; simp only; rw [wpS_ret]; exact h3
    | brk e2 S2 => rw [hb, wpS_brk] at h3; simp only; rw [wpS_nx]; exact h3
    | exc c e2 S2 => rw [hb, wpS_exc] at h3; simp only; rw [wpS_exc]; exact h3
    | bad => rw [hb, wpS_bad] at h3; exact h3.elim
def Ext (S S' : Store) : Prop := ∃ T, S' = S ++ T
theorem Ext.refl : Ext S S := ⟨[], by simp⟩
theorem Ext.trans {S1 S2 S3 : Store} (a : Ext S1 S2) (b : Ext S2 S3) : Ext S1 S3 := by
  obtain ⟨T, rfl⟩ := a
  obtain ⟨T2, rfl⟩ := b
  exact ⟨T ++ T2, by simp⟩
theorem Ext.len (a : Ext S S') : S.length ≤ S'.length := by
  obtain ⟨T, rfl⟩ := a
  simp
theorem Ext.app {c : List Cell} (a : Ext S S') : Ext S (S' ++ c) := by
  obtain ⟨T, rfl⟩ := a
  exact ⟨T ++ c, by simp⟩
theorem Ext.one {c : List Cell} : Ext S (S ++ c) := ⟨c, rfl⟩
theorem Ext.set (a : Ext S S') {n : Nat} {c : Cell} (h : S.length ≤ n) : Ext S (S'.set n c) := by
  obtain ⟨T, rfl⟩ := a
  exact ⟨T.set (n - S.length) c, by rw [List.set_append_right _ _ h]⟩
theorem getL_lt {r : Nat} {xs : List D} (h : getL S r = some xs) : r < S.length := by
  unfold getL at h
  split at h
  · rename_i e; exact (List.getElem?_eq_some_iff.mp e).1
  · cases h
theorem Ext.getL (a : Ext S S') {r : Nat} {xs : List D} (h : getL S r = some xs) : getL S' r = some xs := by
  have hr := getL_lt h
  obtain ⟨T, rfl⟩ := a
  unfold Lt.getL at h ⊢
  rw [List.getElem?_append_left hr]
  exact h
theorem Ext.lstOf (a : Ext S S') {d : D} {xs : List D} (h : lstOf S d = some xs) : lstOf S' d = some xs := by
  unfold Lt.lstOf at h ⊢
  cases d <;> first | exact a.getL h | exact h
theorem Ext.seqOf (a : Ext S S') {d : D} {xs : List D} (h : seqOf S d = some xs) : seqOf S' d = some xs := by
  unfold Lt.seqOf at h ⊢
  cases d <;> first | exact a.getL h | exact h
theorem getL_new {xs : List D} : getL (S ++ [.lst xs]) S.length = some xs := by
  unfold getL; simp
theorem getL_set {r : Nat} {xs : List D} (h : r < S.length) : getL (S.set r (.lst xs)) r = some xs := by
  unfold getL; rw [List.getElem?_set_self h]
theorem getL_set_ne {r q : Nat} {c : Cell} (h : r ≠ q) : getL (S.set r c) q = getL S q := by
  unfold getL; rw [List.getElem?_set_ne h]
theorem lstOf_ref {n : Nat} : lstOf S (.ref n) = getL S n := rfl
theorem lstOf_frl {xs : List D} : lstOf S (.frl xs) = some xs := rfl
theorem seqOf_ref {n : Nat} : seqOf S (.ref n) = getL S n := rfl
theorem seqOf_frl {xs : List D} : seqOf S (.frl xs) = some xs := rfl
theorem seqOf_tup {xs : List D} : seqOf S (.tup xs) = some xs := rfl
theorem lst_seq {d : D} {xs : List D} (h : lstOf S d = some xs) : seqOf S d = some xs := by
  unfold lstOf at h
  unfold seqOf
  cases d <;> first | exact h | cases h
end
end Lt
namespace Lt
open PySem (Str)
section
variable {α β : Type} {r : R α} {E E' : XP} {Q Q' : α → Store → Prop} {Z Z' : Zs} {S S' : Store} {e e' : Env} {G : Cxt} {p : Prop} [Decidable p]
theorem bo_add {i j : Int} : binop .add (.int i) (.int j) S = .ok (.int (i + j)) S := rfl
theorem bo_sub {i j : Int} : binop .sub (.int i) (.int j) S = .ok (.int (i - j)) S := rfl
theorem bo_mul {i j : Int} : binop .mul (.int i) (.int j) S = if Sm i j then .ok (.int (i * j)) S else .bad := rfl
theorem bo_div {i j : Int} : binop .fdiv (.int i) (.int j) S = if j ≠ 0 ∧ j.natAbs.log2 < 9000 then .ok (.int (i.fdiv j)) S else .bad := rfl
theorem bo_mod {i j : Int} : binop .mod (.int i) (.int j) S = if j ≠ 0 then .ok (.int (i.fmod j)) S else .bad := rfl
theorem bo_pow {i j : Int} : binop .pow (.int i) (.int j) S = if 0 ≤ j ∧ j ≤ 1000000 ∧ i.natAbs < 2 ^ 64 then .ok (.int (i ^ j.toNat)) S else .bad := rfl
def catR (x y : Option (List D)) (S : Store) : R D := match x, y with
  | some xs, some ys => if xs.length + ys.length ≤ lim then alloc (.lst (xs ++ ys)) S else .bad
  | _, _ => .bad
theorem bo_cat {a b : Nat} : binop .add (.ref a) (.ref b) S = catR (getL S a) (getL S b) S := rfl
theorem catR_some {xs ys : List D} : catR (some xs) (some ys) S = if xs.length + ys.length ≤ lim then alloc (.lst (xs ++ ys)) S else .bad := rfl
theorem bo_catT {xs ys : List D} : binop .add (.tup xs) (.tup ys) S = if xs.length + ys.length ≤ lim then .ok (.tup (xs ++ ys)) S else .bad := rfl
def repR (x : Option (List D)) (j : Int) (S : Store) : R D := match x with
  | some xs => if 0 ≤ j ∧ j ≤ 100000 ∧ xs.length * j.toNat ≤ lim then alloc (.lst (List.replicate j.toNat xs).flatten) S else .bad
  | _ => .bad
theorem bo_rep {a : Nat} {j : Int} : binop .mul (.ref a) (.int j) S = repR (getL S a) j S := rfl
theorem repR_some {xs : List D} {j : Int} : repR (some xs) j S = if 0 ≤ j ∧ j ≤ 100000 ∧ xs.length * j.toNat ≤ lim then alloc (.lst (List.replicate j.toNat xs).flatten) S else .bad := rfl
theorem cm_lt {i j : Int} : cmpop .lt (.int i) (.int j) S = .ok (.bl (decide (i < j))) S := rfl
theorem cm_le {i j : Int} : cmpop .le (.int i) (.int j) S = .ok (.bl (decide (i ≤ j))) S := rfl
theorem cm_gt {i j : Int} : cmpop .gt (.int i) (.int j) S = .ok (.bl (decide (j < i))) S := rfl
theorem cm_ge {i j : Int} : cmpop .ge (.int i) (.int j) S = .ok (.bl (decide (j ≤ i))) S := rfl
def eqR (x : Option Bool) (S : Store) : R D := match x with
  | some b => .ok (.bl b) S
  | none => .bad
def neR (x : Option Bool) (S : Store) : R D := match x with
  | some b => .ok (.bl (!b)) S
  | none => .bad
theorem eqR_some {b : Bool} : eqR (some b) S = .ok (.bl b) S := rfl
theorem neR_some {b : Bool} : neR (some b) S = .ok (.bl (!b)) S := rfl
theorem cm_eq {x y : D} : cmpop .eq x y S = eqR (eqD S x y) S := by
  unfold cmpop eqR; cases eqD S x y <;> rfl
theorem cm_ne {x y : D} : cmpop .ne x y S = neR (eqD S x y) S := by
  unfold cmpop neR; cases eqD S x y <;> rfl
theorem eqD_int {i j : Int} : eqD S (.int i) (.int j) = some (decide (i = j)) := by
  unfold eqD
  simp [toP, PySem.PyData.eqv]
  try rfl
theorem eqD_str {s t : Str} (h1 : PySem.PyData.canLay0 (.str s) = true) (h2 : PySem.PyData.canLay0 (.str t) = true) : eqD S (.str s) (.str t) = some (decide (s = t)) := by
  unfold eqD
  simp [toP, h1, h2, PySem.PyData.eqv]
  try rfl
theorem eqD_pair {a b c d : Int} : eqD S (.tup [.int a, .int b]) (.tup [.int c, .int d]) = some (decide (a = c ∧ b = d)) := by
  unfold eqD
  simp only [toP, mapO, Option.map_some]
  congr 1
  simp only [PySem.PyData.eqv, PySem.PyData.eqvAll, Bool.and_true, Bool.decide_and]
  rfl
/-- an item of a row of known length -/
def itemR (x : Option (List D)) (i : Int) (S : Store) : R D := match x with
  | some xs => match L2.atI xs i with
    | some d => .ok d S
    | none => .bad
  | none => .bad
theorem item_eq {x : D} {i : Int} : item x (.int i) S = itemR (seqOf S x) i S := by
  unfold item itemR
  cases seqOf S x <;> rfl
theorem itemR_nat {xs : List D} {i : Nat} {d : D} (h : xs[i]? = some d) : itemR (some xs) (i : Int) S = .ok d S := by
  unfold itemR L2.atI L2.ixN
  have hi : i < xs.length := (List.getElem?_eq_some_iff.mp h).1
  have h9 : (if (0 : Int) ≤ i then if (i : Int) < xs.length then some (i : Int).toNat else none else if -(xs.length : Int) ≤ i then some ((i : Int) + xs.length).toNat else none) = some i := by
    rw [if_pos (by omega), if_pos (by omega)]; simp
  simp only [h9, Option.bind_some, h]
theorem itemR_int {xs : List D} {i : Int} {d : D} (h0 : 0 ≤ i) (h : xs[i.toNat]? = some d) : itemR (some xs) i S = .ok d S := by
  obtain ⟨n, rfl⟩ := Int.eq_ofNat_of_zero_le h0
  exact itemR_nat (by simpa using h)
theorem itemR_back {xs : List D} {i : Nat} {d : D} (hi : i < xs.length) (h : xs[xs.length - 1 - i]? = some d) : itemR (some xs) (-((i : Int) + 1)) S = .ok d S := by
  unfold itemR L2.atI L2.ixN
  have h1 : ¬ (0 : Int) ≤ -((i : Int) + 1) := by omega
  have h2 : -(xs.length : Int) ≤ -((i : Int) + 1) := by omega
  have h3 : (-((i : Int) + 1) + (xs.length : Int)).toNat = xs.length - 1 - i := by omega
  simp only [if_neg h1, if_pos h2, h3, Option.bind_some, h]
theorem itemR_c0 {x : D} {xs : List D} : itemR (some (x :: xs)) 0 S = .ok x S := itemR_nat (i := 0) rfl
theorem itemR_c1 {x y : D} {xs : List D} : itemR (some (x :: y :: xs)) 1 S = .ok y S := itemR_nat (i := 1) rfl
theorem itemR_c2 {x y z : D} {xs : List D} : itemR (some (x :: y :: z :: xs)) 2 S = .ok z S := itemR_nat (i := 2) rfl
theorem itemR_c3 {x y z w : D} {xs : List D} : itemR (some (x :: y :: z :: w :: xs)) 3 S = .ok w S := itemR_nat (i := 3) rfl
def sliceR (x : Option (List D)) (lo hi : Option Int) (S : Store) : R D := match x with
  | some xs => alloc (.lst (cutD xs lo hi)) S
  | none => .bad
def slcR (x : D) (lo hi : Option Int) (S : Store) : R D := match x with
  | .tup xs => .ok (.tup (cutD xs lo hi)) S
  | .str z => if z.length ≤ lim then .ok (.str (PySem.Txt.slice z lo hi)) S else .bad
  | x => sliceR (lstOf S x) lo hi S
theorem slcR_str {z : Str} {lo hi : Option Int} : slcR (.str z) lo hi S = if z.length ≤ lim then .ok (.str (PySem.Txt.slice z lo hi)) S else .bad := rfl
theorem slcR_ref {n : Nat} {lo hi : Option Int} : slcR (.ref n) lo hi S = sliceR (getL S n) lo hi S := rfl
theorem slcR_frl {xs : List D} {lo hi : Option Int} : slcR (.frl xs) lo hi S = sliceR (some xs) lo hi S := rfl
theorem slcR_tup {xs : List D} {lo hi : Option Int} : slcR (.tup xs) lo hi S = .ok (.tup (cutD xs lo hi)) S := rfl
theorem slcR_lst {d : D} {xs : List D} {lo hi : Option Int} (h : lstOf S d = some xs) : slcR d lo hi S = sliceR (some xs) lo hi S := by
  cases d with
  | ref n =>
    have h : getL S n = some xs := h
    show sliceR (getL S n) lo hi S = _; rw [h]
  | frl ys => cases h; rfl
  | _ => cases h
theorem slice_gen {x : D} {lo hi : Option D} {l h : Option Int} (e1 : intO lo = some l) (e2 : intO hi = some h) : slice x lo hi S = slcR x l h S := by
  have gen : ∀ o : Option (List D), (match o, intO lo, intO hi with
    | some xs, some l, some h => alloc (.lst (cutD xs l h)) S
    | _, _, _ => R.bad) = sliceR o l h S := fun o => by
    rw [e1, e2]; cases o <;> rfl
  cases x with
  | tup xs =>
    show (match intO lo, intO hi with
      | some l, some h => R.ok (D.tup (cutD xs l h)) S
      | _, _ => R.bad) = _
    rw [e1, e2]; rfl
  | str z =>
    show (match intO lo, intO hi with
      | some l, some h => if z.length ≤ lim then R.ok (D.str (PySem.Txt.slice z l h)) S else R.bad
      | _, _ => R.bad) = _
    rw [e1, e2]; rfl
  | ref n => exact gen (getL S n)
  | frl ys => exact gen (some ys)
  | _ => exact gen none
theorem slice_T {x : D} {i : Int} : slice x none (some (.int i)) S = slcR x none (some i) S := slice_gen rfl rfl
theorem slice_F {x : D} {i : Int} : slice x (some (.int i)) none S = slcR x (some i) none S := slice_gen rfl rfl
theorem slice_B {x : D} {i j : Int} : slice x (some (.int i)) (some (.int j)) S = slcR x (some i) (some j) S := slice_gen rfl rfl
theorem sliceR_some {xs : List D} {lo hi : Option Int} : sliceR (some xs) lo hi S = alloc (.lst (cutD xs lo hi)) S := rfl
theorem alloc_eq {c : Cell} : alloc c S = .ok (.ref S.length) (S ++ [c]) := rfl
theorem len_tup {xs : List D} : biop .len [.tup xs] S = .ok (.int xs.length) S := rfl
theorem len_frl {xs : List D} : biop .len [.frl xs] S = .ok (.int xs.length) S := rfl
def lenD (x : Option (List D)) (n : Nat) (S : Store) : R D := match x with
  | some xs => .ok (.int xs.length) S
  | none => biop .len [.ref n] S
theorem lenD_some {xs : List D} {n : Nat} : lenD (some xs) n S = .ok (.int xs.length) S := rfl
theorem len_ref {n : Nat} : biop .len [.ref n] S = lenD (getL S n) n S := by
  unfold lenD
  cases h : getL S n with
  | none => rfl
  | some xs =>
    unfold biop
    unfold getL at h
    split at h
    · rename_i ys e
      cases h
      simp only [lenO, e]
    · cases h
theorem bi_abs {i : Int} : biop .abs [.int i] S = .ok (.int i.natAbs) S := by
  unfold biop
  simp only
  congr 2
  split <;> omega
theorem bi_intI {i : Int} : biop .int [.int i] S = .ok (.int i) S := rfl
theorem bi_intB {b : Bool} : biop .int [.bl b] S = .ok (.int (if b = true then 1 else 0)) S := rfl
theorem bi_max {i j : Int} : biop .max [.int i, .int j] S = .ok (.int (if j > i then j else i)) S := rfl
theorem bi_min {i j : Int} : biop .min [.int i, .int j] S = .ok (.int (if j < i then j else i)) S := rfl
def listR (x : Option (List D)) (S : Store) : R D := match x with
  | some xs => alloc (.lst xs) S
  | none => .bad
def tupR (x : Option (List D)) (S : Store) : R D := match x with
  | some xs => .ok (.tup xs) S
  | none => .bad
theorem listR_some {xs : List D} : listR (some xs) S = alloc (.lst xs) S := rfl
theorem tupR_some {xs : List D} : tupR (some xs) S = .ok (.tup xs) S := rfl
theorem bi_list {x : D} : biop .list [x] S = listR (seqOf S x) S := by
  unfold biop listR; cases h : seqOf S x <;> simp [h]
theorem bi_tupleT {xs : List D} : biop .tuple [.tup xs] S = .ok (.tup xs) S := rfl
theorem bi_tupleF {xs : List D} : biop .tuple [.frl xs] S = .ok (.tup xs) S := rfl
theorem bi_tupleR {n : Nat} : biop .tuple [.ref n] S = tupR (getL S n) S := by
  unfold biop tupR
  simp only [lstOf]
  try (cases getL S n <;> rfl)
theorem isIR_non {t : Ty} : isIR t .non S = .ok (.bl false) S := rfl
variable {t : Ty}
theorem isIR_bl {b : Bool} : isIR t (.bl b) S = .ok (.bl (match t with | .bool => true | .int => true | _ => false)) S := rfl
theorem isIR_int {i : Int} : isIR t (.int i) S = .ok (.bl (match t with | .int => true | _ => false)) S := rfl
theorem isIR_str {s : Str} : isIR t (.str s) S = .ok (.bl (match t with | .str => true | _ => false)) S := rfl
theorem isIR_tup {xs : List D} : isIR t (.tup xs) S = .ok (.bl (match t with | .tuple => true | _ => false)) S := rfl
theorem isIR_frl {xs : List D} : isIR t (.frl xs) S = .ok (.bl (match t with | .list => true | _ => false)) S := rfl
theorem isIR_ref {n : Nat} {xs : List D} (h : getL S n = some xs) : isIR t (.ref n) S = .ok (.bl (match t with | .list => true | _ => false)) S := by
  unfold isIR isTy
  cases t <;> simp [h]
def appR (x : Option (List D)) (r : Nat) (a : D) (S : Store) : R D := match x with
  | some xs => if xs.length < lim then .ok .non (S.set r (.lst (xs ++ [a]))) else .bad
  | none => .bad
theorem app_ref {r : Nat} {a : D} : append (.ref r) a S = appR (getL S r) r a S := by
  unfold append appR; cases h : getL S r <;> simp [h]
theorem appR_some {r : Nat} {a : D} {xs : List D} : appR (some xs) r a S = if xs.length < lim then .ok .non (S.set r (.lst (xs ++ [a]))) else .bad := rfl
theorem isLst_ref {n : Nat} : isLst (.ref n) S = (getL S n).isSome := rfl
theorem seqItr_some {d : D} {xs : List D} (h : seqOf S d = some xs) : ∃ j, seqItr d S = some j ∧ j.n = xs.length ∧ (∀ i S', seqOf S' d = some xs → j.at_ i S' = xs[i]?) ∧ (∀ S', seqOf S' d = some xs → j.fin S' = true) := by
  unfold seqItr
  rw [h]
  refine ⟨_, rfl, rfl, fun i S' h' => ?_, fun S' h' => ?_⟩
  · simp [h']
  · simp [h']
theorem rngItr_ok {i j : Int} (h1 : -(2 ^ 62) ≤ i) (h2 : i < 2 ^ 62) (h3 : -(2 ^ 62) ≤ j) (h4 : j < 2 ^ 62) : rngItr i j = some ⟨(j - i).toNat, fun k _ => some (.int (i + k)), fun _ => true⟩ := by
  unfold rngItr
  rw [if_pos ⟨h1, h2, h3, h4⟩]
end
/-- all that runs by rewriting -/
def wpx := And.intro @wp_ok <| And.intro @wp_exc <| And.intro @wp_bad <| And.intro @wp_bind <| And.intro @wp_ite <| And.intro @wpS_nx <| And.intro @wpS_ret <| And.intro @wpS_brk <| And.intro @wpS_exc <| And.intro @wpS_bad <| And.intro @wpS_ite <| And.intro @wpS_toS <| And.intro @ev_op2 <| And.intro @ev_upp <| And.intro @ev_idS <| And.intro @ev_lsd <| And.intro @ev_gget <| And.intro @x2_spl <| And.intro @x2_prt <| And.intro @x2_joi <| And.intro @x2_cnt <| And.intro @x2_rmv <| And.intro @x2_fs <| And.intro @x2R_spl <| And.intro @x2R_prt <| And.intro @x2R_joi <| And.intro @x2R_fs <| And.intro @joiO_some <| And.intro @uppR_str <| And.intro @idSR_str <| And.intro @bi_intS <| And.intro @bi_strI <| And.intro @bi_min3 <| And.intro @wp_tryN <| And.intro @wp_tryR <| And.intro @wp_tryCC <| And.intro @cx_frd <| And.intro @ev_lrg <| And.intro @ev_dcb <| And.intro @ev_callK <| And.intro @lrgR_int <| And.intro @ev_xis <| And.intro @ev_xcl <| And.intro @xclR_some <| And.intro @cx_clx <| And.intro @ev_xat <| And.intro @exS_raiA <| And.intro @ev_dsp <| And.intro @evI_zip <| And.intro @exS_par3 <|
  And.intro @brR_bl <| And.intro @brS_bl <| And.intro @notR_bl <| And.intro @negR_int <| And.intro @ev_int <| And.intro @ev_str <| And.intro @ev_bl <| And.intro @ev_non <| And.intro @ev_var <| And.intro @varR_some <| And.intro @ev_bin <| And.intro @ev_neg <| And.intro @ev_not <|
  And.intro @ev_and <| And.intro @ev_or <| And.intro @ev_cmp <| And.intro @ev_chn <| And.intro @ev_chn4 <| And.intro @ev_isN <| And.intro @ev_ntN <| And.intro @ev_ife <| And.intro @ev_tup <| And.intro @ev_lst <| And.intro @ev_idx <| And.intro @ev_slT <| And.intro @ev_slF <| And.intro @ev_slB <| And.intro @ev_rev <|
  And.intro @ev_call <| And.intro @ev_bi <| And.intro @ev_isI <| And.intro @ev_app <| And.intro @ev_ext <| And.intro @ev_clr <| And.intro @ev_isB <| And.intro @isBR_bl <| And.intro @ev_any <| And.intro @ev_chn5 <| And.intro @ev_ntB <| And.intro @ntBR_bl <| And.intro @ev_dicT <| And.intro @ev_dicF <| And.intro @ev_dgt <| And.intro @ev_din <| And.intro @ev_get1 <| And.intro @ev_get2 <| And.intro @ev_dpop <| And.intro @ev_ixo <| And.intro @ev_ins <| And.intro @ev_pop0 <| And.intro @ev_pop1 <| And.intro @exS_any <| And.intro @exS_dst <| And.intro @ev_fld <| And.intro @ev_mth <| And.intro @ev_mk <| And.intro @madeR_non <| And.intro @exS_stf <| And.intro @ev_lc <| And.intro @ev_lcI <| And.intro @evs_nil <| And.intro @evs_cons <| And.intro @optR_some <| And.intro @evI_seq <| And.intro @rngR_int <| And.intro @evI_rng <|
  And.intro @evI_rng2 <| And.intro @evI_enm <| And.intro @evI_rvd <| And.intro @exS_asg <| And.intro @bindS_name <| And.intro @bindS_tup <| And.intro @unpR_2 <| And.intro @unpR_3 <| And.intro @unpR_4 <| And.intro @exS_par <| And.intro @exS_sub <| And.intro @exS_exp <| And.intro @exS_ite <| And.intro @exS_for <| And.intro @exS_whl <| And.intro @exS_ret <| And.intro @exS_retN <| And.intro @exS_brk <|
  And.intro @exS_pass <| And.intro @exS_rai <| And.intro @wp_try <| And.intro @exB_nil <| And.intro @wp_cons <| And.intro @cx_cl <| @cx_fuel
def wpo := And.intro @bo_add <| And.intro @bo_sub <| And.intro @bo_mul <| And.intro @bo_div <| And.intro @bo_mod <| And.intro @bo_pow <| And.intro @bo_cat <| And.intro @bo_catT <| And.intro @catR_some <| And.intro @bo_rep <| And.intro @repR_some <| And.intro @cm_lt <| And.intro @cm_le <| And.intro @cm_gt <| And.intro @cm_ge <|
  And.intro @eqR_some <| And.intro @neR_some <| And.intro @cm_eq <| And.intro @cm_ne <| And.intro @eqD_int <| And.intro @eqD_pair <| And.intro @item_eq <| And.intro @itemR_c0 <| And.intro @itemR_c1 <| And.intro @itemR_c2 <| And.intro @itemR_c3 <| And.intro @slice_T <| And.intro @slice_F <| And.intro @slice_B <| And.intro @slcR_ref <| And.intro @slcR_frl <| And.intro @slcR_tup <| And.intro @slcR_str <|
  And.intro @sliceR_some <| And.intro @alloc_eq <| And.intro @lenD_some <| And.intro @len_tup <| And.intro @len_frl <| And.intro @len_ref <| And.intro @bi_abs <| And.intro @bi_intI <| And.intro @bi_intB <| And.intro @bi_max <| And.intro @bi_min <| And.intro @listR_some <| And.intro @tupR_some <| And.intro @bi_list <|
  And.intro @bi_tupleT <| And.intro @bi_tupleF <| And.intro @bi_tupleR <| And.intro @isIR_non <| And.intro @isIR_bl <| And.intro @isIR_int <| And.intro @isIR_str <| And.intro @isIR_tup <| And.intro @isIR_frl <| And.intro @app_ref <| And.intro @appR_some <| And.intro @isLst_ref <| And.intro @seqOf_tup <| And.intro @seqOf_frl <| And.intro @seqOf_ref <| And.intro @lstOf_ref <| And.intro @lstOf_frl <| @getL_new
end Lt
namespace Lt
open PySem (Str)
section
variable {α : Type} {S S' : Store} {e : Env} {E : XP} {Z : Zs}
/-- a loop over a sequence -/
theorem for_seq {t : Tg} {d : D} {xs : List D} {b : Env → Store → SR} {X : XP} (I : Nat → Env → Store → Prop) (h : seqOf S d = some xs) (h0 : I 0 e S)
    (step : ∀ i x e S, xs[i]? = some x → i < xs.length → I i e S → seqOf S d = some xs ∧ ∃ e1, bindT t x e S = some e1 ∧ WpS (b e1 S) { nx := I (i + 1), rt := Z.rt, bk := Z.nx, ex := Z.ex })
    (fin : ∀ e S, I xs.length e S → seqOf S d = some xs ∧ Z.nx e S) : Wp (optR (seqItr d S) S) X fun j S1 => WpS (forGo t j b j.n 0 e S1) Z := by
  obtain ⟨j, h1, h2, h3, h4⟩ := seqItr_some h
  rw [h1, optR_some, wp_ok]
  refine for_rule I xs.length (fun i e S hi hI => ?_) (fun e S hI => ?_) j.n 0 e S (by omega) h0
  · obtain ⟨g1, e1, g2, g3⟩ := step i xs[i] e S (by simp [hi]) hi hI
    exact ⟨xs[i], e1, by rw [h3 i S g1]; simp [hi], g2, g3⟩
  · obtain ⟨g1, g2⟩ := fin e S hI
    exact ⟨h4 S g1, g2⟩
/-- a loop over a range -/
theorem for_rng {t : Tg} {lo hi : Int} {b : Env → Store → SR} {X : XP} (I : Nat → Env → Store → Prop) (h1 : -(2 ^ 62) ≤ lo) (h2 : lo < 2 ^ 62) (h3 : -(2 ^ 62) ≤ hi) (h4 : hi < 2 ^ 62) (h0 : I 0 e S)
    (step : ∀ (i : Nat) e S, (i : Int) < hi - lo → I i e S → ∃ e1, bindT t (.int (lo + i)) e S = some e1 ∧ WpS (b e1 S) { nx := I (i + 1), rt := Z.rt, bk := Z.nx, ex := Z.ex })
    (fin : ∀ e S, I (hi - lo).toNat e S → Z.nx e S) : Wp (optR (rngItr lo hi) S) X fun j S1 => WpS (forGo t j b j.n 0 e S1) Z := by
  rw [rngItr_ok h1 h2 h3 h4, optR_some, wp_ok]
  refine for_rule I (hi - lo).toNat (fun i e S hi' hI => ?_) (fun e S hI => ?_) _ 0 e S (by simp) h0
  · obtain ⟨e1, g2, g3⟩ := step i e S (by omega) hI
    exact ⟨_, e1, rfl, g2, g3⟩
  · exact ⟨rfl, fin e S hI⟩
theorem wp_bindX {α β : Type} {r : R α} {k : α → Store → R β} {E : XP} {Q : β → Store → Prop} (h : Wp r (fun _ _ => False) fun a S => Wp (k a S) E Q) : Wp (r.bindX k) E Q := by
  cases r with
  | ok a S => rw [wp_ok] at h; exact h
  | exc c S => rw [wp_exc] at h; exact h.elim
  | bad => rw [wp_bad] at h; exact h.elim
/-- turns of a comprehension without a test -/
theorem lc_rule {t : Tg} {it : Itr} {el : Env → Store → R D} {X : XP} {Q : List D → Store → Prop} (I : Nat → List D → Store → Prop) (N : Nat)
    (step : ∀ i acc S, i < N → I i acc S → ∃ d e1, it.at_ i S = some d ∧ bindT t d e S = some e1 ∧ Wp (el e1 S) (fun _ _ => False) fun y S2 => acc.length < lim ∧ I (i + 1) (acc ++ [y]) S2)
    (fin : ∀ acc S, I N acc S → it.fin S = true ∧ Q acc S) :
    ∀ (k i : Nat) (acc : List D) (S : Store), i + k = N → I i acc S → Wp (lcGo t it none el e k i acc S) X Q
  | 0, i, acc, S, hi, h => by
    have : i = N := by omega
    subst this
    unfold lcGo
    obtain ⟨f1, f2⟩ := fin acc S h
    rw [if_pos f1, wp_ok]
    exact f2
  | k + 1, i, acc, S, hi, h => by
    obtain ⟨d, e1, h1, h2, h3⟩ := step i acc S (by omega) h
    unfold lcGo
    rw [h1]
    simp only
    rw [h2]
    simp only
    refine wp_bindX (h3.imp fun y S2 h4 => ?_)
    rw [if_pos h4.1]
    exact lc_rule I N step fin k (i + 1) _ S2 (by omega) h4.2
theorem lc_seq {t : Tg} {d : D} {xs : List D} {el : Env → Store → R D} {X X' : XP} {Q : List D → Store → Prop} (I : Nat → List D → Store → Prop) (h : seqOf S d = some xs) (h0 : I 0 [] S)
    (step : ∀ i x acc S, xs[i]? = some x → i < xs.length → I i acc S → seqOf S d = some xs ∧ ∃ e1, bindT t x e S = some e1 ∧ Wp (el e1 S) (fun _ _ => False) fun y S2 => acc.length < lim ∧ I (i + 1) (acc ++ [y]) S2)
    (fin : ∀ acc S, I xs.length acc S → seqOf S d = some xs ∧ Q acc S) : Wp (optR (seqItr d S) S) X fun j S1 => Wp (lcGo t j none el e j.n 0 [] S1) X' Q := by
  obtain ⟨j, h1, h2, h3, h4⟩ := seqItr_some h
  rw [h1, optR_some, wp_ok]
  refine lc_rule I xs.length (fun i acc S hi hI => ?_) (fun acc S hI => ?_) j.n 0 [] S (by omega) h0
  · obtain ⟨g1, e1, g2, g3⟩ := step i xs[i] acc S (by simp [hi]) hi hI
    exact ⟨xs[i], e1, by rw [h3 i S g1]; simp [hi], g2, g3⟩
  · obtain ⟨g1, g2⟩ := fin acc S hI
    exact ⟨h4 S g1, g2⟩
theorem lstItr_some {d : D} {xs : List D} {f : Nat → Nat → Nat} {w : Nat → D → D} (h : lstOf S d = some xs) : ∃ j, lstItr d S f w = some j ∧ j.n = xs.length ∧ (∀ i S', lstOf S' d = some xs → j.at_ i S' = (xs[f xs.length i]?).map (w i)) ∧ (∀ S', lstOf S' d = some xs → j.fin S' = true) := by
  unfold lstItr
  rw [h]
  refine ⟨_, rfl, rfl, fun i S' h' => ?_, fun S' h' => ?_⟩
  · simp [h']
  · simp [h']
theorem for_lst {t : Tg} {d : D} {xs : List D} {f : Nat → Nat → Nat} {w : Nat → D → D} {b : Env → Store → SR} {X : XP} (I : Nat → Env → Store → Prop) (hf : ∀ i, i < xs.length → f xs.length i < xs.length) (h : lstOf S d = some xs) (h0 : I 0 e S)
    (step : ∀ i x e S, xs[f xs.length i]? = some x → i < xs.length → I i e S → lstOf S d = some xs ∧ ∃ e1, bindT t (w i x) e S = some e1 ∧ WpS (b e1 S) { nx := I (i + 1), rt := Z.rt, bk := Z.nx, ex := Z.ex })
    (fin : ∀ e S, I xs.length e S → lstOf S d = some xs ∧ Z.nx e S) : Wp (optR (lstItr d S f w) S) X fun j S1 => WpS (forGo t j b j.n 0 e S1) Z := by
  obtain ⟨j, h1, h2, h3, h4⟩ := lstItr_some (f := f) (w := w) h
  rw [h1, optR_some, wp_ok]
  refine for_rule I xs.length (fun i e S hi hI => ?_) (fun e S hI => ?_) j.n 0 e S (by omega) h0
  · have hfi := hf i hi
    have hx : xs[f xs.length i]? = some xs[f xs.length i] := by simp [hfi]
    obtain ⟨g1, e1, g2, g3⟩ := step i _ e S hx hi hI
    exact ⟨_, e1, by rw [h3 i S g1, hx]; rfl, g2, g3⟩
  · obtain ⟨g1, g2⟩ := fin e S hI
    exact ⟨h4 S g1, g2⟩
/-- behind an item's store -/
def setR (x : Option (List D)) (r : Nat) (i : Int) (v : D) (S : Store) : R D := match x with
  | some xs => match L2.ixN xs.length i with
    | some j => .ok .non (S.set r (.lst (xs.set j v)))
    | none => .bad
  | none => .bad
theorem set_ref {r : Nat} {i : Int} {v : D} : setItem (.ref r) (.int i) v S = setR (getL S r) r i v S := by
  unfold setItem setR
  cases h : getL S r with
  | none => simp [h]
  | some xs =>
    simp only [h]
    try (cases L2.ixN xs.length i <;> rfl)
theorem setR_nat {xs : List D} {r i : Nat} {v : D} (h : i < xs.length) : setR (some xs) r (i : Int) v S = .ok .non (S.set r (.lst (xs.set i v))) := by
  unfold setR L2.ixN
  simp [h]
theorem itemR_last {xs : List D} {d : D} (h : xs.getLast? = some d) : itemR (some xs) (-1) S = .ok d S := by
  have hl : 0 < xs.length := by
    cases xs with
    | nil => cases h
    | cons => simp
  refine itemR_back (i := 0) hl ?_
  rw [List.getLast?_eq_getElem?] at h
  simpa using h
theorem cutD_T {xs : List D} {j : Int} (h : 0 ≤ j) : cutD xs none (some j) = xs.take j.toNat := by
  obtain ⟨n, rfl⟩ := Int.eq_ofNat_of_zero_le h
  unfold cutD
  rw [HT.sIx_none, HT.sIx_nat]
  simp
theorem len_lst {d : D} {xs : List D} (h : lstOf S d = some xs) : biop .len [d] S = .ok (.int xs.length) S := by
  cases d with
  | ref n => rw [len_ref]; rw [lstOf_ref] at h; rw [h, lenD_some]
  | frl ys => cases h; rfl
  | _ => cases h
theorem log2_le {n a : Nat} (h : n < 2 ^ a) : n.log2 ≤ a := by
  by_cases h0 : n = 0
  · subst h0; simp
  · exact Nat.le_of_lt ((Nat.log2_lt h0).mpr h)
theorem sm_of {i j : Int} (a b : Nat) (hi : i.natAbs < 2 ^ a) (hj : j.natAbs < 2 ^ b) (h : a + b < 1000000) : Sm i j := by
  have h1 := log2_le hi
  have h2 := log2_le hj
  unfold Sm
  omega
theorem sm100 {i j : Int} (hi : i.natAbs < 2 ^ 100) (hj : j.natAbs < 2 ^ 100) : Sm i j := sm_of 100 100 hi hj (by decide)
theorem getL_app {T : Store} {n : Nat} : getL (S ++ T) (S.length + n) = getL T n := by
  unfold getL
  rw [List.getElem?_append_right (by omega), Nat.add_sub_cancel_left]
theorem getL_app0 {T : Store} : getL (S ++ T) S.length = getL T 0 := getL_app (n := 0)
theorem getL_app2 {T : Store} : getL (S ++ T) (S.length + 1 + 1) = getL T 2 := getL_app (n := 2)
theorem getL_app3 {T : Store} : getL (S ++ T) (S.length + 1 + 1 + 1) = getL T 3 := getL_app (n := 3)
theorem getL_app4 {T : Store} : getL (S ++ T) (S.length + 1 + 1 + 1 + 1) = getL T 4 := getL_app (n := 4)
theorem getL_c0 {xs : List D} {T : Store} : getL (.lst xs :: T) 0 = some xs := rfl
theorem getL_c1 {c : Cell} {T : Store} : getL (c :: T) 1 = getL T 0 := rfl
theorem getL_c2 {c : Cell} {T : Store} : getL (c :: T) 2 = getL T 1 := rfl
theorem getL_c3 {c : Cell} {T : Store} : getL (c :: T) 3 = getL T 2 := rfl
theorem getL_c4 {c : Cell} {T : Store} : getL (c :: T) 4 = getL T 3 := rfl
theorem map_get {α : Type} {f : α → D} {l : List α} {i : Nat} {x : D} (h : (l.map f)[i]? = some x) : ∃ c, l[i]? = some c ∧ x = f c := by
  rw [List.getElem?_map] at h
  cases e : l[i]? with
  | none => rw [e] at h; cases h
  | some c => rw [e] at h; cases h; exact ⟨c, rfl, rfl⟩
theorem dv_of {n : Nat} (h : n < 2 ^ 8000) : n.log2 < 9000 := Nat.lt_of_le_of_lt (log2_le h) (by decide)
theorem bind_two {i j : Nat} {x y : D} (h : i < e.length ∧ j < e.length) : bindT (.tup [i, j]) (.tup [x, y]) e S = some ((e.set i (some x)).set j (some y)) := by
  simp [bindT, seqOf, setAll, h.1, h.2]
theorem bind_name {i : Nat} {d : D} (h : i < e.length) : bindT (.name i) d e S = some (e.set i (some d)) := by
  simp only [bindT, if_pos h]
end
def wps := And.intro @set_ref <| And.intro @getL_app <| And.intro @getL_app0 <| And.intro @getL_app2 <| And.intro @getL_app3 <| And.intro @getL_app4 <| And.intro @getL_c0 <| And.intro @getL_c1 <| And.intro @getL_c2 <| And.intro @getL_c3 <| @getL_c4
end Lt
set_option maxRecDepth 100000
set_option maxHeartbeats 2000000
namespace Lt
open PySem (Str intText?)
open PySem.NumText (digitsVal AllDigits)
/-- the text of these signs -/
abbrev tx (l : List Nat) : Str := ⟨l.toArray⟩
def dgB (c : Nat) : Bool := decide (48 ≤ c) && decide (c ≤ 57)
theorem dgB_iff {c : Nat} : dgB c = true ↔ 48 ≤ c ∧ c ≤ 57 := by unfold dgB; rw [Bool.and_eq_true, decide_eq_true_eq, decide_eq_true_eq]
theorem all_dg {p : List Nat} : p.all dgB = true ↔ AllDigits p := by
  rw [List.all_eq_true]
  exact ⟨fun h c hc => dgB_iff.mp (h c hc), fun h c hc => dgB_iff.mpr (h c hc)⟩
def plainL (w : List Nat) : List Nat := if w.take 1 = [45] then w.drop 1 else w
def valL (w : List Nat) : Int := if w.take 1 = [45] then -((digitsVal (w.drop 1) : Nat) : Int) else ((digitsVal w : Nat) : Int)
def wholeL (k : Nat) (w : List Nat) : Option Int :=
  if plainL w = [] ∨ k < (plainL w).length then none
  else if (plainL w).all dgB = false then none
  else if (plainL w).head? = some 48 ∧ w ≠ [48] then none
  else some (valL w)
theorem take_45 {w : List Nat} (h : w.take 1 = [45]) : w = 45 :: w.drop 1 := by
  cases w with
  | nil => cases h
  | cons c w => simp at h; subst h; rfl
theorem int_valL {w : List Nat} (h1 : plainL w ≠ []) (h2 : (plainL w).all dgB = true) (h3 : w.length ≤ 4300) : intText? (tx w) = some (valL w) := by
  have hl : (tx w).length ≤ 4300 := by rw [SX.S_len]; exact h3
  unfold plainL at h1 h2
  unfold valL
  by_cases h : w.take 1 = [45]
  · rw [if_pos h] at h1 h2 ⊢
    exact PySem.intText_neg (x := tx w) (cs := w.drop 1) (by show w = _; exact take_45 h) (all_dg.mp h2) h1 hl
  · rw [if_neg h] at h1 h2 ⊢
    exact PySem.intText_digits (x := tx w) (all_dg.mp h2) h1 hl
def numZ (n : Int) : List Nat := if n < 0 then 45 :: TL.numL n.natAbs else TL.numL n.natAbs
theorem numL_dg (n : Nat) : (TL.numL n).all dgB = true := by
  rw [all_dg]
  intro c hc
  obtain ⟨ch, hch, e⟩ := List.mem_map.mp hc
  have r := PyProof.Rows.digit_range (Nat.isDigit_of_mem_toDigits (by decide) (by decide) hch)
  rw [← e]
  exact r
theorem str_num (n : Int) : ((toString n : String) : Str) = tx (numZ n) := by
  unfold numZ
  cases n with
  | ofNat m =>
    rw [if_neg (by simp)]
    exact SX.num_S m
  | negSucc m =>
    rw [if_pos (Int.negSucc_lt_zero m)]
    refine TL.ext_tl ?_
    rw [TL.tl_ofString]
    show (("-" : String) ++ Nat.repr (m + 1)).toList.map Char.toNat = 45 :: TL.numL (m + 1)
    rw [String.toList_append, List.map_append, Nat.toList_repr]
    rfl
theorem digits_snoc (p : List Nat) (d : Nat) : digitsVal (p ++ [d]) = digitsVal p * 10 + (d - 48) := by
  unfold digitsVal
  rw [List.foldl_append]
  rfl
theorem digitChar_sub {d : Nat} (h : 48 ≤ d ∧ d ≤ 57) : (Nat.digitChar (d - 48)).toNat = d := by
  have : ∀ k, k < 10 → (Nat.digitChar k).toNat = k + 48 := by decide
  rw [this _ (by omega)]
  omega
theorem digits_pos {p : List Nat} (hp : p.all dgB = true) (hne : p ≠ []) (hh : p.head? ≠ some 48) : 0 < digitsVal p := by
  have key : ∀ (p : List Nat) (acc : Nat), 0 < acc → 0 < p.foldl (fun acc c => acc * 10 + (c - 48)) acc := fun p => by
    induction p with
    | nil => intro acc h; exact h
    | cons c p ih => intro acc h; exact ih _ (show 0 < acc * 10 + (c - 48) by omega)
  cases p with
  | nil => exact absurd rfl hne
  | cons c p =>
    have hc := dgB_iff.mp (List.all_eq_true.mp hp c (by simp))
    have : c ≠ 48 := fun z => hh (by rw [z]; rfl)
    exact key p _ (show 0 < 0 * 10 + (c - 48) by omega)
theorem digits_back : ∀ (n : Nat) (p : List Nat), p.length = n → p.all dgB = true → p ≠ [] → (p.head? ≠ some 48 ∨ p = [48]) → TL.numL (digitsVal p) = p := by
  intro n
  induction n with
  | zero => intro p h0 _ hne _; exact absurd (List.eq_nil_of_length_eq_zero h0) hne
  | succ n ih =>
    intro p hn hp hne hh
    obtain ⟨q, d, rfl⟩ : ∃ q d, p = q ++ [d] := ⟨p.dropLast, p.getLast hne, (List.dropLast_concat_getLast hne).symm⟩
    rw [List.all_append, Bool.and_eq_true] at hp
    have hd := dgB_iff.mp (List.all_eq_true.mp hp.2 d (by simp))
    rw [digits_snoc]
    by_cases hq : q = []
    · subst hq
      show (Nat.toDigits 10 (0 * 10 + (d - 48))).map Char.toNat = [d]
      rw [Nat.zero_mul, Nat.zero_add, Nat.toDigits_of_lt_base (by omega)]
      simp [digitChar_sub hd]
    · have hq0 : q.head? ≠ some 48 := by
        rcases hh with h | h
        · intro z; apply h
          cases q with
          | nil => exact absurd rfl hq
          | cons c q => simpa using z
        · exfalso
          have := congrArg List.length h
          cases q with
          | nil => exact hq rfl
          | cons c q => simp at this
      have hv := digits_pos hp.1 hq hq0
      have e := ih q (by simp at hn; omega) hp.1 hq (.inl hq0)
      have t : Nat.toDigits 10 (digitsVal q) ++ Nat.toDigits 10 (d - 48) = Nat.toDigits 10 (10 * digitsVal q + (d - 48)) := Nat.toDigits_append_toDigits (by decide) hv (by omega)
      unfold TL.numL at e ⊢
      rw [Nat.mul_comm, ← t, List.map_append, e, Nat.toDigits_of_lt_base (by omega)]
      simp [digitChar_sub hd]
theorem whole_back {k : Nat} {w : List Nat} {n : Int} (h : wholeL k w = some n) : numZ n = w := by
  unfold wholeL at h
  split at h
  · cases h
  rename_i h1
  split at h
  · cases h
  rename_i h2
  split at h
  · cases h
  rename_i h3
  cases h
  have h2 : (plainL w).all dgB = true := by simpa using h2
  have hne : plainL w ≠ [] := fun z => h1 (.inl z)
  unfold plainL at h2 h3 hne
  unfold valL
  by_cases hm : w.take 1 = [45]
  · rw [if_pos hm] at h2 h3 hne ⊢
    have hh : (w.drop 1).head? ≠ some 48 := fun z => h3 ⟨z, fun y => by rw [y] at hm; cases hm⟩
    have hp := digits_pos h2 hne hh
    have e := digits_back _ _ rfl h2 hne (.inl hh)
    unfold numZ
    rw [if_pos (by omega), Int.natAbs_neg, Int.natAbs_natCast, e]
    exact (take_45 hm).symm
  · rw [if_neg hm] at h2 h3 hne ⊢
    have e := digits_back _ _ rfl h2 hne (by
      by_cases z : w.head? = some 48
      · right
        apply Classical.byContradiction
        intro y
        exact h3 ⟨z, y⟩
      · exact .inl z)
    unfold numZ
    rw [if_neg (by omega), Int.natAbs_natCast, e]
theorem numL_back (n : Nat) : digitsVal (TL.numL n) = n := PySem.W.KIN.val_back n
theorem numL_ne (n : Nat) : TL.numL n ≠ [] := by
  intro z
  have := Nat.length_toDigits_pos (b := 10) (n := n)
  unfold TL.numL at z
  rw [List.map_eq_nil_iff.mp z] at this
  simp at this
theorem numL_len {n k : Nat} (hk : 0 < k) (h : n < 10 ^ k) : (TL.numL n).length ≤ k := by
  unfold TL.numL
  rw [List.length_map]
  exact (Nat.length_toDigits_le_iff (by decide) hk).mpr h
theorem plain_num (n : Int) : plainL (numZ n) = TL.numL n.natAbs := by
  unfold plainL numZ
  by_cases h : n < 0
  · rw [if_pos h]; rfl
  · rw [if_neg h]
    have := numL_dg n.natAbs
    have hne := numL_ne n.natAbs
    cases hd : TL.numL n.natAbs with
    | nil => exact absurd hd hne
    | cons c r =>
      rw [hd] at this
      have hc := dgB_iff.mp (List.all_eq_true.mp this c (by simp))
      rw [if_neg (by simp; omega)]
theorem val_num (n : Int) : valL (numZ n) = n := by
  unfold valL numZ
  by_cases h : n < 0
  · rw [if_pos h, if_pos (by rfl)]
    show -((digitsVal (TL.numL n.natAbs) : Nat) : Int) = n
    rw [numL_back]
    omega
  · rw [if_neg h]
    have := numL_dg n.natAbs
    have hne := numL_ne n.natAbs
    rw [if_neg, numL_back]
    · omega
    · cases hd : TL.numL n.natAbs with
      | nil => exact absurd hd hne
      | cons c r =>
        rw [hd] at this
        have hc := dgB_iff.mp (List.all_eq_true.mp this c (by simp))
        simp; omega
theorem int_num (n : Int) (h : (numZ n).length ≤ 4300) : intText? (tx (numZ n)) = some n := by
  rw [int_valL (by rw [plain_num]; exact numL_ne _) (by rw [plain_num]; exact numL_dg _) h, val_num]
theorem numZ_len {n : Int} {k : Nat} (hk : 0 < k) (h : n.natAbs < 10 ^ k) : (numZ n).length ≤ k + 1 := by
  have := numL_len hk h
  unfold numZ
  split <;> simp <;> omega
theorem numZ_sign (n : Int) : ∀ c ∈ numZ n, c = 45 ∨ (48 ≤ c ∧ c ≤ 57) := by
  have := fun c hc => dgB_iff.mp (List.all_eq_true.mp (numL_dg n.natAbs) c hc)
  unfold numZ
  intro c hc
  split at hc
  · rcases List.mem_cons.mp hc with rfl | hc
    · exact .inl rfl
    · exact .inr (this c hc)
  · exact .inr (this c hc)
def ratioL (k : Nat) (w : List Nat) : Option (Int × Int) := match TL.par [47] [] w with
  | none => (wholeL k w).map fun n => (n, 1)
  | some (t, b) => match wholeL k t, wholeL k b with
    | some u, some d => if d < 2 ∨ u.natAbs.gcd d.natAbs ≠ 1 then none else some (u, d)
    | _, _ => none
def wordL (p : Int × Int) : List Nat := if p.2 = 1 then numZ p.1 else numZ p.1 ++ 47 :: numZ p.2
theorem par_cut {c : Nat} : ∀ {w acc p q : List Nat}, TL.par [c] acc w = some (p, q) → acc ++ w = p ++ c :: q
  | [], acc, p, q, h => by cases h
  | d :: w, acc, p, q, h => by
    cases hp : TL.pre [c] (d :: w) with
    | true =>
      rw [TL.par_hit hp] at h
      have hd : d = c := by
        unfold TL.pre at hp
        simpa using hp
      cases h
      subst hd
      rfl
    | false =>
      rw [TL.par_miss hp] at h
      have := par_cut h
      rw [List.append_assoc] at this
      exact this
theorem ratio_back {k : Nat} {w : List Nat} {p : Int × Int} (h : ratioL k w = some p) : wordL p = w := by
  unfold ratioL at h
  unfold wordL
  split at h
  · obtain ⟨n, hn, rfl⟩ := Option.map_eq_some_iff.mp h
    rw [if_pos rfl]
    exact whole_back hn
  · rename_i t b hp
    have e := par_cut hp
    split at h
    · rename_i u d hu hd
      split at h
      · cases h
      · rename_i hc
        cases h
        have : ¬ d = 1 := fun z => hc (.inl (by omega))
        rw [if_neg this, whole_back hu, whole_back hd]
        exact e.symm
    · cases h
abbrev TEnt := Int × Option (Int × Int)
def gapL : List Nat := [103, 97, 112]
def entryL (l : List Nat) : Option TEnt := match TL.spl [32] 0 [] l with
  | [p, q] => match wholeL 18 p with
    | none => none
    | some m => if q = gapL then some (m, none) else (ratioL 18 q).map fun v => (m, some v)
  | _ => none
def valT (v : Option (Int × Int)) : List Nat := match v with
  | none => gapL
  | some p => wordL p
def lineL (e : TEnt) : List Nat := numZ e.1 ++ 32 :: valT e.2
theorem spl_cut {c : Nat} : ∀ {w acc : List Nat} , TL.joinL [c] (TL.spl [c] 0 acc w) = acc ++ w ∧ TL.spl [c] 0 acc w ≠ []
  | [], acc => by rw [TL.spl_nil]; exact ⟨by simp [TL.joinL], by simp⟩
  | d :: w, acc => by
    cases hp : TL.pre [c] (d :: w) with
    | true =>
      rw [TL.spl_hit hp]
      have hd : d = c := by
        unfold TL.pre at hp
        simpa using hp
      subst hd
      obtain ⟨a, b⟩ := spl_cut (c := d) (w := w) (acc := [])
      show TL.joinL [d] (acc :: TL.spl [d] 0 [] w) = _ ∧ _
      cases hs : TL.spl [d] 0 [] w with
      | nil => exact absurd hs b
      | cons x r =>
        rw [hs] at a
        refine ⟨?_, by simp⟩
        show acc ++ ([d] ++ TL.joinL [d] (x :: r)) = acc ++ d :: w
        rw [a]
        simp
    | false =>
      rw [TL.spl_miss hp]
      obtain ⟨a, b⟩ := spl_cut (c := c) (w := w) (acc := acc ++ [d])
      exact ⟨by rw [a]; simp, b⟩
theorem entry_back {l : List Nat} {e : TEnt} (h : entryL l = some e) : lineL e = l := by
  unfold entryL at h
  split at h
  · rename_i p q hs
    have j := (spl_cut (c := 32) (w := l) (acc := [])).1
    rw [hs] at j
    have j : p ++ ([32] ++ q) = l := j
    split at h
    · cases h
    · rename_i m hm
      have e1 := whole_back hm
      split at h
      · rename_i hq
        cases h
        show numZ m ++ 32 :: gapL = l
        rw [e1, ← j, hq]
        simp
      · obtain ⟨v, hv, rfl⟩ := Option.map_eq_some_iff.mp h
        show numZ m ++ 32 :: wordL v = l
        rw [e1, ratio_back hv, ← j]
        simp
  · cases h
/-- an entry that can be written so -/
def TOk (e : TEnt) : Prop := e.1.natAbs < 10 ^ 18 ∧ ∀ u d, e.2 = some (u, d) → u.natAbs < 10 ^ 18 ∧ d.natAbs < 10 ^ 18 ∧ 1 ≤ d ∧ u.natAbs.gcd d.natAbs = 1
theorem word_sign (p : Int × Int) : ∀ c ∈ wordL p, 45 ≤ c ∧ c ≤ 57 := by
  intro c hc
  unfold wordL at hc
  split at hc
  · have := numZ_sign _ c hc; omega
  · rcases List.mem_append.mp hc with hc | hc
    · have := numZ_sign _ c hc; omega
    · rcases List.mem_cons.mp hc with rfl | hc
      · omega
      · have := numZ_sign _ c hc; omega
theorem valT_sign (v : Option (Int × Int)) : ∀ c ∈ valT v, 45 ≤ c ∧ c < 128 := by
  intro c hc
  cases v with
  | none =>
    have hc : c ∈ gapL := hc
    unfold gapL at hc
    simp at hc
    omega
  | some p => have := word_sign p c hc; omega
theorem whole_ok {k : Nat} {w : List Nat} {n : Int} (h : wholeL k w = some n) : n.natAbs < 10 ^ k ∧ w.length ≤ k + 1 := by
  have e := whole_back h
  unfold wholeL at h
  split at h
  · cases h
  rename_i h1
  have hl : (plainL w).length ≤ k := by
    rcases Nat.lt_or_ge k (plainL w).length with z | z
    · exact absurd (.inr z) h1
    · exact z
  have hk : 0 < k := by
    rcases Nat.eq_zero_or_pos k with z | z
    · exfalso; apply h1; left; subst z; exact List.eq_nil_of_length_eq_zero (by omega)
    · exact z
  rw [← e, plain_num] at hl
  unfold TL.numL at hl
  rw [List.length_map] at hl
  have hn := (Nat.length_toDigits_le_iff (by decide) hk).mp hl
  exact ⟨hn, by rw [← e]; exact numZ_len hk hn⟩
theorem ratio_ok {k : Nat} {w : List Nat} {u d : Int} (h : ratioL k w = some (u, d)) : u.natAbs < 10 ^ k ∧ (d.natAbs < 10 ^ k ∨ d = 1) ∧ 1 ≤ d ∧ u.natAbs.gcd d.natAbs = 1 := by
  unfold ratioL at h
  split at h
  · obtain ⟨n, hn, e⟩ := Option.map_eq_some_iff.mp h
    cases e
    exact ⟨(whole_ok hn).1, .inr rfl, by decide, by simp⟩
  · split at h
    · rename_i hu hd
      split at h
      · cases h
      · rename_i hc
        cases h
        refine ⟨(whole_ok hu).1, .inl (whole_ok hd).1, ?_, ?_⟩
        · apply Classical.byContradiction
          intro z; exact hc (.inl (by omega))
        · apply Classical.byContradiction
          intro z; exact hc (.inr z)
    · cases h
theorem entry_ok {l : List Nat} {e : TEnt} (h : entryL l = some e) : TOk e := by
  unfold entryL at h
  split at h
  · split at h
    · cases h
    · rename_i m hm
      split at h
      · cases h
        exact ⟨(whole_ok hm).1, fun u d z => by cases z⟩
      · obtain ⟨v, hv, rfl⟩ := Option.map_eq_some_iff.mp h
        refine ⟨(whole_ok hm).1, fun u d z => ?_⟩
        cases z
        obtain ⟨a, b, c, g⟩ := ratio_ok hv
        refine ⟨a, ?_, c, g⟩
        rcases b with b | b
        · exact b
        · rw [b]; decide
  · cases h
def badT (ls : List (List Nat)) (i : Nat) : Prop := 40 ≤ i ∨ (∃ l, ls[i]? = some l ∧ entryL l = none) ∨ ∃ l l' e f, 0 < i ∧ ls[i]? = some l ∧ ls[i - 1]? = some l' ∧ entryL l = some e ∧ entryL l' = some f ∧ e.1 ≤ f.1
def FirstT (ls : List (List Nat)) (n : Nat) : Prop := n ≤ ls.length ∧ (∀ i, i < n → ¬ badT ls i) ∧ (n < ls.length → badT ls n)
theorem FirstT.uniq {ls : List (List Nat)} {n m : Nat} (a : FirstT ls n) (b : FirstT ls m) : n = m := by
  rcases Nat.lt_trichotomy n m with h | h | h
  · exact absurd (a.2.2 (Nat.lt_of_lt_of_le h b.1)) (b.2.1 n h)
  · exact h
  · exact absurd (b.2.2 (Nat.lt_of_lt_of_le h a.1)) (a.2.1 m h)
/-- what a line says; nothing where it says nothing -/
def entD? (l : List Nat) : TEnt := (entryL l).getD (0, none)
theorem good_entry {ls : List (List Nat)} {i : Nat} {l : List Nat} (h : ¬ badT ls i) (hl : ls[i]? = some l) : entryL l = some (entD? l) := by
  unfold entD?
  cases he : entryL l with
  | none => exact absurd (.inr (.inl ⟨l, hl, he⟩)) h
  | some e => rfl
/-- texts of usual signs -/
def Asc (l : List Nat) : Prop := ∀ c ∈ l, c < 128
theorem asc_ok {l : List Nat} (h : Asc l) : PySem.PyData.canLay0 (.str (tx l)) = true := by
  show (tx l).cps.all (fun c => decide (c < 0x110000)) = true
  rw [← Array.all_toList, List.all_eq_true]
  intro c hc
  have := h c hc
  exact decide_eq_true (by omega)
theorem asc_app {a b : List Nat} (ha : Asc a) (hb : Asc b) : Asc (a ++ b) := fun c hc => (List.mem_append.mp hc).elim (ha c) (hb c)
theorem asc_num (n : Int) : Asc (numZ n) := fun c hc => by have := numZ_sign n c hc; omega
theorem asc_val (v : Option (Int × Int)) : Asc (valT v) := fun c hc => (valT_sign v c hc).2
theorem asc_line (e : TEnt) : Asc (lineL e) := asc_app (asc_num _) (fun c hc => by
  rcases List.mem_cons.mp hc with rfl | hc
  · decide
  · exact asc_val _ c hc)
theorem asc_sub {a b : List Nat} (h : Asc b) (hs : ∀ c ∈ a, c ∈ b) : Asc a := fun c hc => h c (hs c hc)
end Lt
set_option maxRecDepth 100000
set_option maxHeartbeats 1000000
namespace Lt
open PySem (Str)
open LawT
def seedF (s c : Int) : Int := (s * 48271 + c.fmod 1000003 + 1).fmod 2147483647
def cellF (ns : List Int) (p : Int) : Int := if p < ns.length then ns.getD p.toNat 0 else ((ns.take 63).foldl seedF 5 + 7919 * p).fmod 1000003
theorem seed_bd (ns : List Int) (s : Int) (h : 0 ≤ s ∧ s < 2147483647) : 0 ≤ ns.foldl seedF s ∧ ns.foldl seedF s < 2147483647 := by
  induction ns generalizing s with
  | nil => exact h
  | cons c r ih =>
    rw [List.foldl_cons]
    refine ih _ ?_
    unfold seedF
    exact ⟨Int.fmod_nonneg_of_pos _ (by decide), Int.fmod_lt_of_pos _ (by decide)⟩
section
variable {P : Prog} {F k : Nat} {S : Store} {E : XP}
theorem cell_wp (h : P.defs.lookup ("_law_cell" : Str) = some a__law_cell) {d : D} {ns : List Int} {p : Int} (hd : lstOf S d = some (ns.map .int)) (hp0 : 0 ≤ p) (hp : p < 2 ^ 60) :
    Wp (callN P F (k + 1) "_law_cell" [d, .int p] S) E fun r S' => Ext S S' ∧ r = .int (cellF ns p) := by
  apply wp_callN h rfl
  simp only [a__law_cell]
  simp [wpx, wpo, len_lst hd, lst_seq hd, hd, slcR_lst hd]
  unfold cellF
  split
  · rename_i hlt
    have hl : (ns.map D.int)[p.toNat]? = some (.int (ns.getD p.toNat 0)) := by
      have : p.toNat < ns.length := by omega
      simp [this]
    rw [itemR_int hp0 hl, wp_ok]
    exact ⟨Ext.refl, rfl⟩
  · refine for_seq (fun i e S1 => Ext (S ++ [.lst (cutD (ns.map .int) none (some 63))]) S1 ∧ ∃ x, e = [some d, some (.int p), some (.int (((ns.take 63).take i).foldl seedF 5)), x]) (xs := (ns.take 63).map .int) ?_ ⟨Ext.refl, none, rfl⟩ ?_ ?_
    · rw [seqOf_ref, getL_new, cutD_T (by decide)]
      simp [List.map_take]
    · rintro i x e S1 hx hi ⟨hE, y, rfl⟩
      refine ⟨hE.seqOf ?_, _, bind_name (by simp), ?_⟩
      · rw [seqOf_ref, getL_new, cutD_T (by decide)]
        simp [List.map_take]
      · obtain ⟨c, hc, rfl⟩ := map_get hx
        have hb := seed_bd ((ns.take 63).take i) 5 (by decide)
        have hs : Sm (((ns.take 63).take i).foldl seedF 5) 48271 := sm100 (by omega) (by decide)
        simp [wpx, wpo, hs]
        refine ⟨hE, ?_⟩
        generalize ns.take 63 = m at hc ⊢
        rw [List.take_succ, List.foldl_append, hc]
        simp [seedF]
    · rintro e S1 ⟨hE, y, rfl⟩
      refine ⟨hE.seqOf ?_, ?_⟩
      · rw [seqOf_ref, getL_new, cutD_T (by decide)]
        simp [List.map_take]
      · have hs : Sm 7919 p := sm100 (by decide) (by omega)
        simp [wpx, wpo, hs]
        refine ⟨Ext.one.trans hE, ?_⟩
        rw [List.take_of_length_le (by simp)]
/-- a drawn number, from a cell -/
def mixF (c k : Int) : Int := (((((c.fmod 2147483629 + 1013 * k + 7919) ^ 3).fmod 2147483647) * 40699 + 3793 * k * k + 11).fmod 2147483399).fdiv 101
theorem mix_wp (h : P.defs.lookup ("_law_mix" : Str) = some a__law_mix) {c q : Int} (h0 : 0 ≤ q) (h1 : q < 2 ^ 30) : Wp (callN P F (k + 1) "_law_mix" [.int c, .int q] S) E fun r S' => S' = S ∧ r = .int (mixF c q) := by
  apply wp_callN h rfl
  simp only [a__law_mix]
  have hc : 0 ≤ c.fmod 2147483629 ∧ c.fmod 2147483629 < 2147483629 := ⟨Int.fmod_nonneg_of_pos _ (by decide), Int.fmod_lt_of_pos _ (by decide)⟩
  have s1 : Sm 1013 q := sm100 (by decide) (by omega)
  have s2 : (c.fmod 2147483629 + 1013 * q + 7919).natAbs < 2 ^ 64 := by omega
  have hm : ∀ z : Int, 0 ≤ z.fmod 2147483647 ∧ z.fmod 2147483647 < 2147483647 := fun z => ⟨Int.fmod_nonneg_of_pos _ (by decide), Int.fmod_lt_of_pos _ (by decide)⟩
  have s3 : ∀ z : Int, Sm (z.fmod 2147483647) 40699 := fun z => sm100 (by have := hm z; omega) (by decide)
  have s4 : Sm 3793 q := sm100 (by decide) (by omega)
  have s5 : Sm (3793 * q) q := sm100 (by omega) (by omega)
  have s6 : Nat.log2 101 < 9000 := by decide +kernel
  simp [wpx, wpo, s1, s2, s3, s4, s5, s6, mixF]
/-- the numbers drawn of one cell -/
def leftF (c : Int) (zs : List Int) : Int := zs.foldl (fun l z => if l > 0 then l.fdiv z else l) c
def drawF (ns : List Int) (p : Int) (zs : List Int) (i : Nat) : Int :=
  let c := cellF ns p
  let z := zs.getD i 1
  if c < 1000000000000000000 then (mixF c i).fmod z else if leftF c (zs.take i) > 0 then (leftF c (zs.take i)).fmod z else (mixF (cellF ns ((p + 1 + i).fmod 63)) i).fmod z
def rowF (ns : List Int) (p : Int) (zs : List Int) : List Int := (List.range zs.length).map (drawF ns p zs)
theorem row_get {ns : List Int} {p : Int} {zs : List Int} {i : Nat} (h : i < zs.length) : (rowF ns p zs)[i]? = some (drawF ns p zs i) := by
  simp [rowF, h]
theorem draw_bd {ns : List Int} {p : Int} {zs : List Int} {i : Nat} {z : Int} (h : zs[i]? = some z) (hz : 0 < z) : 0 ≤ drawF ns p zs i ∧ drawF ns p zs i < z := by
  have e : zs.getD i 1 = z := by simp [List.getD, h]
  unfold drawF
  simp only [e]
  split
  · exact ⟨Int.fmod_nonneg_of_pos _ hz, Int.fmod_lt_of_pos _ hz⟩
  · split <;> exact ⟨Int.fmod_nonneg_of_pos _ hz, Int.fmod_lt_of_pos _ hz⟩
theorem row_wp (h : P.defs.lookup ("_law_row" : Str) = some a__law_row) (hc : P.defs.lookup ("_law_cell" : Str) = some a__law_cell) (hm : P.defs.lookup ("_law_mix" : Str) = some a__law_mix)
    {d : D} {ns : List Int} {p : Int} (hd : lstOf S d = some (ns.map .int)) (hp0 : 0 ≤ p) (hp : p < 2 ^ 30) {r : Nat} {zs : List Int} (hr : getL S r = some (zs.map .int)) (hz : ∀ z ∈ zs, 0 < z ∧ z < 2 ^ 8000) (hl : zs.length < 1000) :
    Wp (callN P F (k + 2) "_law_row" [d, .int p, .ref r] S) E fun x S' => Ext S S' ∧ ∃ q, x = .ref q ∧ getL S' q = some ((rowF ns p zs).map .int) := by
  apply wp_callN h rfl
  simp only [a__law_row]
  simp [wpx, wpo, hr]
  refine (cell_wp hc hd hp0 (by omega)).imp ?_
  rintro x S1 ⟨hE, rfl⟩
  have hr1 : getL (S1 ++ [.lst []]) r = some (zs.map .int) := (hE.trans Ext.one).getL hr
  simp [wpx, wpo, hr1]
  refine for_rng (fun i e S2 => Ext S1 S2 ∧ ∃ x y q, S1.length ≤ q ∧ getL S2 q = some (((List.range i).map (drawF ns p zs)).map .int) ∧
    e = [some d, some (.int p), some (.ref r), some (.int (cellF ns p)), some (.int (if cellF ns p < 1000000000000000000 then cellF ns p else leftF (cellF ns p) (zs.take i))), some (.ref q), x, y]) (by omega) (by omega) (by omega) (by omega) ?_ ?_ ?_
  · refine ⟨Ext.one, none, none, S1.length, Nat.le_refl _, ?_, ?_⟩
    · rw [getL_new]; rfl
    · simp [leftF]
  · rintro i e S2 hi ⟨hE2, x, y, q, hq, hg, rfl⟩
    have hi' : i < zs.length := by omega
    obtain ⟨z, hz1⟩ : ∃ z, zs[i]? = some z := ⟨zs[i], by simp [hi']⟩
    obtain ⟨hz2, hz3⟩ := hz z (List.mem_of_getElem? hz1)
    have hgr : getL S2 r = some (zs.map .int) := (hE.trans hE2).getL hr
    have hit : ∀ S', itemR (some (zs.map .int)) (i : Int) S' = .ok (.int z) S' := fun _ => itemR_nat (by simp [hz1])
    have hd2 := (hE.trans hE2).lstOf hd
    have hq2 := getL_lt hg
    have hz4 : z ≠ 0 := by omega
    have hz5 : z.natAbs.log2 < 9000 := dv_of (by omega)
    have hlim : i < lim := Nat.lt_trans (Nat.lt_trans hi' hl) (by decide)
    have hnew : ∀ w, w = drawF ns p zs i → (List.range i).map (D.int ∘ drawF ns p zs) ++ [.int w] = (List.range (i + 1)).map (D.int ∘ drawF ns p zs) := fun w e => by
      rw [List.range_succ, List.map_append, e]; rfl
    have hqr : q ≠ r := by
      have := getL_lt hr
      have := hE.len
      omega
    have hgd : zs.getD i 1 = z := by simp [List.getD, hz1]
    refine ⟨_, bind_name (by simp), ?_⟩
    by_cases hc1 : cellF ns p < 1000000000000000000
    · simp [wpx, wpo, hg, hc1, hgr]
      refine (mix_wp hm (by omega) (by omega)).imp ?_
      rintro x S3 ⟨rfl, rfl⟩
      simp [wpx, wpo, hg, hgr, hit, hz4, hlim]
      refine ⟨hE2.set hq, _, _, q, hq, ?_, rfl, rfl, rfl⟩
      rw [getL_set hq2, hnew]
      unfold drawF
      simp only [hgd]
      rw [if_pos hc1]
    · simp only [if_neg hc1]
      by_cases hc2 : 0 < leftF (cellF ns p) (zs.take i)
      · simp [wpx, wpo, hg, hc1, hc2, hgr, hit, hz4, hlim, getL_set_ne hqr, hz5]
        refine ⟨hE2.set hq, _, _, q, hq, ?_, ?_, rfl, rfl, rfl⟩
        · rw [getL_set hq2, hnew]
          unfold drawF
          simp only [hgd]
          rw [if_neg hc1, if_pos hc2]
        · unfold leftF at hc2 ⊢
          rw [List.take_succ, List.foldl_append, hz1]
          simp [hc2]
      · simp [wpx, wpo, hg, hc1, hc2, hgr]
        refine (cell_wp hc hd2 (Int.fmod_nonneg_of_pos _ (by decide)) (Int.lt_trans (Int.fmod_lt_of_pos _ (by decide)) (by decide))).imp ?_
        rintro x S3 ⟨hE3, rfl⟩
        simp [wpx, wpo, hE3.getL hg]
        refine (mix_wp hm (by omega) (by omega)).imp ?_
        rintro x S4 ⟨rfl, rfl⟩
        simp [wpx, wpo, hE3.getL hg, hE3.getL hgr, hit, hz4, hlim]
        refine ⟨(hE2.trans hE3).set hq, _, _, q, hq, ?_, ?_, rfl, rfl, rfl⟩
        · rw [getL_set (Nat.lt_of_lt_of_le hq2 hE3.len), hnew]
          unfold drawF
          simp only [hgd]
          rw [if_neg hc1, if_neg hc2]
        · unfold leftF at hc2 ⊢
          rw [List.take_succ, List.foldl_append, hz1]
          simp [hc2]
  · rintro e S2 ⟨hE2, x, y, q, hq, hg, rfl⟩
    simp [wpx, wpo]
    refine ⟨hE.trans hE2, ?_⟩
    rw [hg]
    simp [rowF]
end
end Lt
set_option maxRecDepth 100000
set_option maxHeartbeats 1000000
namespace Lt
open PySem (Str)
open LawT
/-- a fraction as the program has it -/
def rD (q : Rat) : D := .tup [.int q.num, .int q.den]
@[irreducible] def BIG : Nat := 2 ^ 8000
theorem big_dv {n : Nat} (h : n < BIG) : n.log2 < 9000 := by
  unfold BIG at h
  exact dv_of h
theorem divInt_rD {a b : Int} (hb : 0 < b) : rD (Rat.divInt a b) = .tup [.int (a / ((a.natAbs.gcd b.natAbs : Nat) : Int)), .int (b / ((a.natAbs.gcd b.natAbs : Nat) : Int))] := by
  unfold rD
  have e : b.gcd a = a.natAbs.gcd b.natAbs := by
    show Nat.gcd b.natAbs a.natAbs = _
    exact Nat.gcd_comm _ _
  rw [Rat.num_divInt, Rat.den_divInt, if_neg (by omega), Int.sign_eq_one_of_pos hb, Int.one_mul, e]
  congr 3
  congr 1
  rw [Int.natCast_ediv, Int.natAbs_of_nonneg (by omega)]
theorem gcd_step {x y : Int} (hx : 0 ≤ x) (hy : 0 < y) : y.natAbs.gcd (x.fmod y).natAbs = x.natAbs.gcd y.natAbs := by
  rw [Int.fmod_eq_emod_of_nonneg _ (by omega)]
  obtain ⟨m, rfl⟩ := Int.eq_ofNat_of_zero_le hx
  obtain ⟨n, rfl⟩ := Int.eq_ofNat_of_zero_le (Int.le_of_lt hy)
  rw [show ((m : Int) % (n : Int)) = ((m % n : Nat) : Int) from rfl]
  simp only [Int.natAbs_natCast]
  rw [Nat.gcd_comm n, ← Nat.gcd_rec, Nat.gcd_comm]
section
variable {P : Prog} {F k : Nat} {S : Store} {E : XP}
theorem law_ratio_wp (h : P.defs.lookup ("_law_ratio" : Str) = some a__law_ratio) {a b : Int} (hb : 0 < b) (hB : b.natAbs < BIG) (hF : BIG ≤ F) :
    Wp (callN P F (k + 1) "_law_ratio" [.int a, .int b] S) E fun r S' => S' = S ∧ r = rD (Rat.divInt a b) := by
  apply wp_callN h rfl
  simp only [a__law_ratio]
  simp [wpx, wpo]
  refine wh_rule (fun e S1 => S1 = S ∧ ∃ x y : Int, e = [some (.int a), some (.int b), some (.int x), some (.int y)] ∧ 0 ≤ x ∧ 0 ≤ y ∧ x.natAbs.gcd y.natAbs = a.natAbs.gcd b.natAbs) (fun e _ => match e with
    | [_, _, _, some (.int y)] => y.natAbs
    | _ => 0) ?_ F _ _ ⟨rfl, _, _, rfl, by omega, by omega, by simp⟩ (by simp; omega)
  rintro e S1 ⟨rfl, x, y, rfl, hx, hy, hg⟩
  simp [wpx, wpo]
  by_cases h0 : 0 < y
  · left
    refine ⟨h0, ?_⟩
    have hy0 : y ≠ 0 := by omega
    simp [hy0, wpx]
    refine ⟨⟨y, x.fmod y, ⟨rfl, rfl⟩, hy, Int.fmod_nonneg_of_pos _ h0, ?_⟩, ?_⟩
    · rw [gcd_step hx h0, hg]
    · have := Int.fmod_lt_of_pos x h0
      have := Int.fmod_nonneg_of_pos x h0
      omega
  · right
    have hy0 : y = 0 := by omega
    subst hy0
    have hx1 : x = ((a.natAbs.gcd b.natAbs : Nat) : Int) := by
      simp at hg
      omega
    have hp : 0 < a.natAbs.gcd b.natAbs := Nat.gcd_pos_of_pos_right _ (by omega)
    have hle : a.natAbs.gcd b.natAbs ≤ b.natAbs := Nat.le_of_dvd (by omega) (Nat.gcd_dvd_right _ _)
    refine ⟨by omega, ?_⟩
    have h1 : x ≠ 0 := by omega
    have h2 : x.natAbs.log2 < 9000 := big_dv (by omega)
    simp [wpx, wpo, h1, h2]
    rw [divInt_rD hb, ← hx1, Int.fdiv_eq_ediv_of_nonneg _ hx, Int.fdiv_eq_ediv_of_nonneg _ hx]
theorem den_pos (q : Rat) : (0 : Int) < q.den := by
  have := q.den_pos
  omega
/-- a fraction of small parts -/
def Sz (n : Nat) (q : Rat) : Prop := q.num.natAbs < 2 ^ n ∧ q.den < 2 ^ n
end
end Lt
set_option maxRecDepth 100000
set_option maxHeartbeats 1000000
namespace Lt
open PySem (Str)
open LawT
theorem nat_pow_mono {n m : Nat} (h : n ≤ m) : (2 : Nat) ^ n ≤ 2 ^ m := Nat.pow_le_pow_right (by decide) h
theorem Sz.mono {n m : Nat} {q : Rat} (s : Sz n q) (h : n ≤ m) : Sz m q := ⟨Nat.lt_of_lt_of_le s.1 (nat_pow_mono h), Nat.lt_of_lt_of_le s.2 (nat_pow_mono h)⟩
theorem mul_lt_pow {a b n m : Nat} (ha : a < 2 ^ n) (hb : b < 2 ^ m) : a * b < 2 ^ (n + m) := by
  rw [Nat.pow_add]
  have h1 : 0 < 2 ^ m := Nat.pow_pos (by decide)
  calc a * b ≤ a * 2 ^ m := Nat.mul_le_mul_left _ (by omega)
    _ < 2 ^ n * 2 ^ m := Nat.mul_lt_mul_of_pos_right ha h1
theorem sz_divInt {a b : Int} {n : Nat} (hb : 0 < b) (h1 : a.natAbs < 2 ^ n) (h2 : b.natAbs < 2 ^ n) : Sz n (Rat.divInt a b) := by
  have e : b.gcd a = a.natAbs.gcd b.natAbs := Nat.gcd_comm _ _
  unfold Sz
  rw [Rat.num_divInt, Rat.den_divInt, if_neg (by omega), Int.sign_eq_one_of_pos hb, Int.one_mul, e]
  refine ⟨Nat.lt_of_le_of_lt ?_ h1, Nat.lt_of_le_of_lt (Nat.div_le_self _ _) h2⟩
  have hd : ((a.natAbs.gcd b.natAbs : Nat) : Int) ∣ a := by
    rw [← Int.dvd_natAbs]
    exact Int.ofNat_dvd.mpr (Nat.gcd_dvd_left _ _)
  obtain ⟨c, hc⟩ := hd
  have hp : 0 < a.natAbs.gcd b.natAbs := Nat.gcd_pos_of_pos_right _ (by omega)
  generalize a.natAbs.gcd b.natAbs = g at hc hp
  subst hc
  rw [Int.mul_ediv_cancel_left _ (by omega), Int.natAbs_mul]
  exact Nat.le_mul_of_pos_left _ (by simpa using hp)
theorem sz_neg {n : Nat} {q : Rat} (s : Sz n q) : Sz n (-q) := ⟨by rw [Rat.neg_num, Int.natAbs_neg]; exact s.1, s.2⟩
/-- the size of a fraction -/
def absQ (q : Rat) : Rat := if q < 0 then -q else q
end Lt
set_option maxRecDepth 100000
set_option maxHeartbeats 1000000
namespace Lt
open PySem (Str)
open LawT
theorem divInt_neg_neg (a b : Int) : Rat.divInt (-a) (-b) = Rat.divInt a b := Rat.neg_divInt_neg a b
structure HR (P : Prog) : Prop where
  common : P.defs.lookup ("common" : Str) = some a_common
  ratio : P.defs.lookup ("ratio" : Str) = some a_ratio
section
variable {P : Prog} {F k : Nat} {S : Store} {E : XP}
theorem common_wp (h : P.defs.lookup ("common" : Str) = some a_common) {a b : Int} (hF : b.natAbs < F) :
    Wp (callN P F (k + 1) "common" [.int a, .int b] S) E fun r S' => S' = S ∧ r = .int (a.natAbs.gcd b.natAbs : Nat) := by
  apply wp_callN h rfl
  simp only [a_common]
  simp [wpx, wpo]
  refine wh_rule (fun e S1 => S1 = S ∧ ∃ x y : Int, e = [some (.int x), some (.int y)] ∧ 0 ≤ x ∧ 0 ≤ y ∧ x.natAbs.gcd y.natAbs = a.natAbs.gcd b.natAbs) (fun e _ => match e with
    | [_, some (.int y)] => y.natAbs
    | _ => 0) ?_ F _ _ ⟨rfl, _, _, rfl, by omega, by omega, by simp⟩ (by simp; omega)
  rintro e S1 ⟨rfl, x, y, rfl, hx, hy, hg⟩
  simp [wpx, wpo]
  by_cases h0 : 0 < y
  · left
    refine ⟨h0, ?_⟩
    have hy0 : y ≠ 0 := by omega
    simp [hy0, wpx]
    refine ⟨⟨y, x.fmod y, ⟨rfl, rfl⟩, hy, Int.fmod_nonneg_of_pos _ h0, ?_⟩, ?_⟩
    · rw [gcd_step hx h0, hg]
    · have := Int.fmod_lt_of_pos x h0
      have := Int.fmod_nonneg_of_pos x h0
      omega
  · right
    have hy0 : y = 0 := by omega
    subst hy0
    refine ⟨by omega, ?_⟩
    simp at hg
    omega
theorem ratio_wp (h : HR P) {a b : Int} (hb : b ≠ 0) (hB : b.natAbs < BIG) (hF : BIG ≤ F) :
    Wp (callN P F (k + 2) "ratio" [.int a, .int b] S) E fun r S' => S' = S ∧ r = rD (Rat.divInt a b) := by
  apply wp_callN h.ratio rfl
  simp only [a_ratio]
  simp [wpx, wpo, hb]
  refine (common_wp h.common (by omega)).imp ?_
  rintro r S1 ⟨rfl, rfl⟩
  have hp : 0 < a.natAbs.gcd b.natAbs := Nat.gcd_pos_of_pos_right _ (by omega)
  have hle : a.natAbs.gcd b.natAbs ≤ b.natAbs := Nat.le_of_dvd (by omega) (Nat.gcd_dvd_right _ _)
  have h1 : ((a.natAbs.gcd b.natAbs : Nat) : Int) ≠ 0 := by omega
  have h2 : (a.natAbs.gcd b.natAbs).log2 < 9000 := big_dv (by omega)
  have h3 : ¬ (a = 0 ∧ b = 0) := fun z => hb z.2
  by_cases hn : b < 0
  · have e : rD (Rat.divInt a b) = .tup [.int (a.fdiv (-((a.natAbs.gcd b.natAbs : Nat) : Int))), .int (b.fdiv (-((a.natAbs.gcd b.natAbs : Nat) : Int)))] := by
      rw [← divInt_neg_neg, divInt_rD (by omega), Int.natAbs_neg, Int.natAbs_neg]
      have : ∀ z g : Int, z.fdiv (-g) = (-z).fdiv g := fun z g => by rw [← Int.neg_fdiv_neg, Int.neg_neg]
      rw [this, this, Int.fdiv_eq_ediv_of_nonneg _ (by omega), Int.fdiv_eq_ediv_of_nonneg _ (by omega)]
    simp [wpx, wpo, hn, h1, h2, h3, e]
  · have e : rD (Rat.divInt a b) = .tup [.int (a.fdiv ((a.natAbs.gcd b.natAbs : Nat) : Int)), .int (b.fdiv ((a.natAbs.gcd b.natAbs : Nat) : Int))] := by
      rw [divInt_rD (by omega)]
      rw [Int.fdiv_eq_ediv_of_nonneg _ (by omega), Int.fdiv_eq_ediv_of_nonneg _ (by omega)]
    simp [wpx, wpo, hn, h1, h2, h3, e]
theorem add_divInt (p q : Rat) : Rat.divInt (p.num * q.den + q.num * p.den) (p.den * q.den) = p + q := by
  have h := Rat.divInt_add_divInt p.num q.num (d₁ := p.den) (d₂ := q.den) (by have := p.den_pos; omega) (by have := q.den_pos; omega)
  rw [Rat.num_divInt_den, Rat.num_divInt_den] at h
  exact h.symm
theorem mul_divInt (p q : Rat) : Rat.divInt (p.num * q.num) (p.den * q.den) = p * q := by
  have h := Rat.divInt_mul_divInt p.num q.num (d₁ := p.den) (d₂ := q.den)
  rw [Rat.num_divInt_den, Rat.num_divInt_den] at h
  exact h.symm
theorem natAbs_mul_lt {a b : Int} {n m : Nat} (ha : a.natAbs < 2 ^ n) (hb : b.natAbs < 2 ^ m) : (a * b).natAbs < 2 ^ (n + m) := by
  rw [Int.natAbs_mul]
  exact mul_lt_pow ha hb
theorem Sz.dn {n : Nat} {q : Rat} (s : Sz n q) : ((q.den : Nat) : Int).natAbs < 2 ^ n := by simpa using s.2
theorem sz_add {n m : Nat} {p q : Rat} (s : Sz n p) (t : Sz m q) : Sz (n + m + 1) (p + q) := by
  rw [← add_divInt]
  have h1 := natAbs_mul_lt s.1 t.dn
  have h2 := natAbs_mul_lt t.1 s.dn
  rw [Nat.add_comm m n] at h2
  have h3 := natAbs_mul_lt s.dn t.dn
  have e : (2 : Nat) ^ (n + m + 1) = 2 ^ (n + m) * 2 := Nat.pow_succ ..
  refine sz_divInt (Int.mul_pos (den_pos p) (den_pos q)) ?_ ?_ <;> omega
theorem sz_sub {n m : Nat} {p q : Rat} (s : Sz n p) (t : Sz m q) : Sz (n + m + 1) (p - q) := by
  rw [Rat.sub_eq_add_neg]
  exact sz_add s (sz_neg t)
theorem sz_mul {n m : Nat} {p q : Rat} (s : Sz n p) (t : Sz m q) : Sz (n + m) (p * q) := by
  rw [← mul_divInt]
  exact sz_divInt (Int.mul_pos (den_pos p) (den_pos q)) (natAbs_mul_lt s.1 t.1) (natAbs_mul_lt s.dn t.dn)
theorem sz_inv {n : Nat} {q : Rat} (s : Sz n q) : Sz n q⁻¹ := by
  have hp : 0 < 2 ^ n := Nat.pow_pos (by decide)
  unfold Sz
  rw [Rat.num_inv, Rat.den_inv]
  constructor
  · rcases Int.lt_trichotomy q.num 0 with h | h | h
    · rw [Int.sign_eq_neg_one_of_neg h]; simpa using s.2
    · rw [h]; simpa using hp
    · rw [Int.sign_eq_one_of_pos h]; simpa using s.2
  · split
    · have := s.2; have := q.den_pos; omega
    · exact s.1
theorem sz_div {n m : Nat} {p q : Rat} (s : Sz n p) (t : Sz m q) : Sz (n + m) (p / q) := by
  rw [Rat.div_def]
  exact sz_mul s (sz_inv t)
theorem sz_abs {n : Nat} {q : Rat} (s : Sz n q) : Sz n (absQ q) := by
  unfold absQ; split
  · exact sz_neg s
  · exact s
theorem ok_of {P : Prog} {F k : Nat} {f : Str} {ds : List D} (w : Wp (callN P F k f ds []) (fun _ _ => False) fun r _ => r = .bl true) : ∃ S', callN P F k f ds [] = .ok (.bl true) S' := by
  cases h : callN P F k f ds [] with
  | ok r S' =>
    rw [h, wp_ok] at w
    exact ⟨S', by rw [w]⟩
  | exc c S' => rw [h, wp_exc] at w; exact w.elim
  | bad => rw [h, wp_bad] at w; exact w.elim
theorem big_pow {n a : Nat} (h : a < 2 ^ n) (hn : n ≤ 8000) : a < BIG := by
  unfold BIG
  exact Nat.lt_of_lt_of_le h (nat_pow_mono hn)
end
end Lt
set_option maxRecDepth 100000
set_option maxHeartbeats 1000000
namespace Lt
open PySem (Str)
open LawT
theorem sz_int {m : Int} {n : Nat} (h : m.natAbs < 2 ^ n) (hn : 0 < n) : Sz n (m : Rat) := ⟨h, by
  show 1 < 2 ^ n
  exact Nat.one_lt_two_pow (by omega)⟩
theorem row_item {ns : List Int} {p : Int} {zs : List Int} {S : Store} {i : Int} (h0 : 0 ≤ i) (h1 : i < zs.length) : itemR (some ((rowF ns p zs).map .int)) i S = .ok (.int (drawF ns p zs i.toNat)) S := by
  refine itemR_int h0 ?_
  rw [List.getElem?_map, row_get (by omega)]
  rfl
theorem hz_of {zs : List Int} (h : (zs.all fun z => decide (0 < z) && decide (z < 2 ^ 60)) = true) : ∀ z ∈ zs, 0 < z ∧ z < 2 ^ 8000 := fun z hz => by
  have h1 := List.all_eq_true.mp h z hz
  simp only [Bool.and_eq_true, decide_eq_true_eq] at h1
  have h2 : (2 : Int) ^ 60 < 2 ^ 8000 := Int.pow_lt_pow_of_lt (by decide) (by decide)
  exact ⟨h1.1, Int.lt_trans h1.2 h2⟩
theorem pick {xs : List Int} {i : Int} (h0 : 0 ≤ i) (h1 : i < xs.length) : ∃ w ∈ xs, ∀ S, itemR (some (xs.map .int)) i S = .ok (.int w) S := by
  have hi : i.toNat < xs.length := by omega
  exact ⟨xs[i.toNat], List.getElem_mem _, fun S => itemR_int h0 (by simp [hi])⟩
section
variable {P : Prog} {F k : Nat} {S : Store} {E : XP}
/-- how far the middle one stands off the chord -/
def standF (m1 : Int) (v1 : Rat) (m2 : Int) (v2 : Rat) (m3 : Int) (v3 : Rat) : Rat := v2 - (v1 * ((m3 : Rat) - (m2 : Rat)) + v3 * ((m2 : Rat) - (m1 : Rat))) / ((m3 : Rat) - (m1 : Rat))
theorem sz_isub {a b : Int} {n : Nat} (ha : a.natAbs < 2 ^ n) (hb : b.natAbs < 2 ^ n) : Sz (n + 1) ((a : Rat) - (b : Rat)) := by
  have e1 : (2 : Nat) ^ (n + 1) = 2 ^ n * 2 := Nat.pow_succ ..
  rw [← Rat.intCast_sub]
  exact sz_int (by omega) (by omega)
end
end Lt
set_option maxRecDepth 100000
set_option maxHeartbeats 1000000
namespace Lt
open PySem (Str)
open LawT
def chordF (m1 : Int) (v1 : Rat) (w : Int) (m3 : Int) (v3 : Rat) : Rat := (v1 * ((m3 : Rat) - (w : Rat)) + v3 * ((w : Rat) - (m1 : Rat))) / ((m3 : Rat) - (m1 : Rat))
end Lt
set_option maxRecDepth 100000
set_option maxHeartbeats 1000000
namespace Lt
open PySem (Str)
open LawT
theorem sz_chord2 {m1 w m3 : Int} {v1 v3 : Rat} {n m : Nat} (s1 : Sz n v1) (s3 : Sz n v3) (t1 : m1.natAbs < 2 ^ m) (tw : w.natAbs < 2 ^ m) (t3 : m3.natAbs < 2 ^ m) : Sz (2 * n + 3 * m + 4) (chordF m1 v1 w m3 v3) :=
  (sz_div (sz_add (sz_mul s1 (sz_isub t3 tw)) (sz_mul s3 (sz_isub tw t1))) (sz_isub t3 t1)).mono (by omega)
section
variable {P : Prog} {F k : Nat} {S : Store} {E : XP}
theorem sz_stand2 {m1 m2 m3 : Int} {v1 v2 v3 : Rat} {n c m : Nat} (s1 : Sz n v1) (s2 : Sz c v2) (s3 : Sz n v3) (t1 : m1.natAbs < 2 ^ m) (t2 : m2.natAbs < 2 ^ m) (t3 : m3.natAbs < 2 ^ m) : Sz (c + (2 * n + 3 * m + 4) + 1) (standF m1 v1 m2 v2 m3 v3) :=
  sz_sub s2 (sz_chord2 s1 s3 t1 t2 t3)
end
end Lt
set_option maxRecDepth 100000
set_option maxHeartbeats 1000000
namespace Lt
open PySem (Str)
open LawT
class SZ (q : Rat) (n : outParam Nat) : Prop where
  z : Sz n q
class IZ (i : Int) (n : outParam Nat) : Prop where
  z : i.natAbs < 2 ^ n
section
variable {p q : Rat} {i j : Int} {n m : Nat}
instance [a : SZ p n] [b : SZ q m] : SZ (p + q) (n + m + 1) := ⟨sz_add a.z b.z⟩
instance [a : SZ p n] [b : SZ q m] : SZ (p - q) (n + m + 1) := ⟨sz_sub a.z b.z⟩
instance [a : SZ p n] [b : SZ q m] : SZ (p * q) (n + m) := ⟨sz_mul a.z b.z⟩
instance [a : SZ p n] [b : SZ q m] : SZ (p / q) (n + m) := ⟨sz_div a.z b.z⟩
instance [a : SZ p n] : SZ (-p) n := ⟨sz_neg a.z⟩
instance [a : SZ p n] : SZ (absQ p) n := ⟨sz_abs a.z⟩
instance [a : IZ i n] : SZ (i : Rat) (n + 1) := ⟨sz_int (Nat.lt_of_lt_of_le a.z (nat_pow_mono (by omega))) (by omega)⟩
instance : SZ 0 1 := ⟨by decide, by decide⟩
instance : SZ 1 1 := ⟨by decide, by decide⟩
instance : SZ 2 2 := ⟨by decide, by decide⟩
instance [a : SZ p n] : IZ p.num n := ⟨a.z.1⟩
instance [a : SZ p n] : IZ (p.den : Int) n := ⟨by simpa using a.z.2⟩
instance [a : IZ i n] [b : IZ j m] : IZ (i + j) (n + m + 1) := ⟨by
  have h1 := a.z
  have h2 := b.z
  have e1 : 2 ^ n ≤ 2 ^ (n + m) := nat_pow_mono (by omega)
  have e2 : 2 ^ m ≤ 2 ^ (n + m) := nat_pow_mono (by omega)
  have e3 : 2 ^ (n + m + 1) = 2 ^ (n + m) * 2 := Nat.pow_succ ..
  omega⟩
instance [a : IZ i n] [b : IZ j m] : IZ (i - j) (n + m + 1) := ⟨by
  have h1 := a.z
  have h2 := b.z
  have e1 : 2 ^ n ≤ 2 ^ (n + m) := nat_pow_mono (by omega)
  have e2 : 2 ^ m ≤ 2 ^ (n + m) := nat_pow_mono (by omega)
  have e3 : 2 ^ (n + m + 1) = 2 ^ (n + m) * 2 := Nat.pow_succ ..
  omega⟩
instance [a : IZ i n] [b : IZ j m] : IZ (i * j) (n + m) := ⟨natAbs_mul_lt a.z b.z⟩
instance [a : IZ i n] : IZ (-i) n := ⟨by rw [Int.natAbs_neg]; exact a.z⟩
instance [a : IZ i n] : IZ (i.natAbs : Int) n := ⟨by simpa using a.z⟩
instance : IZ 0 1 := ⟨by decide⟩
instance : IZ 1 1 := ⟨by decide⟩
instance : IZ 2 2 := ⟨by decide⟩
instance : IZ 3 2 := ⟨by decide⟩
instance : IZ 4 3 := ⟨by decide⟩
instance : IZ 5 3 := ⟨by decide⟩
instance : IZ 6 3 := ⟨by decide⟩
instance : IZ 7 3 := ⟨by decide⟩
instance : IZ 8 4 := ⟨by decide⟩
instance : IZ 9 4 := ⟨by decide⟩
instance : IZ 10 4 := ⟨by decide⟩
instance : IZ 11 4 := ⟨by decide⟩
instance : IZ 12 4 := ⟨by decide⟩
instance : IZ 13 4 := ⟨by decide⟩
instance : IZ 14 4 := ⟨by decide⟩
instance : IZ 15 4 := ⟨by decide⟩
instance : IZ 16 5 := ⟨by decide⟩
instance : IZ 17 5 := ⟨by decide⟩
instance : IZ 18 5 := ⟨by decide⟩
instance : IZ 19 5 := ⟨by decide⟩
instance : IZ 20 5 := ⟨by decide⟩
instance : IZ 21 5 := ⟨by decide⟩
instance : IZ 22 5 := ⟨by decide⟩
instance : IZ 23 5 := ⟨by decide⟩
instance : IZ 24 5 := ⟨by decide⟩
instance : IZ 25 5 := ⟨by decide⟩
instance : IZ 26 5 := ⟨by decide⟩
instance : IZ 27 5 := ⟨by decide⟩
instance : IZ 28 5 := ⟨by decide⟩
instance : IZ 29 5 := ⟨by decide⟩
instance : IZ 30 5 := ⟨by decide⟩
instance : IZ 31 5 := ⟨by decide⟩
instance : IZ 32 6 := ⟨by decide⟩
instance : IZ 33 6 := ⟨by decide⟩
instance : IZ 34 6 := ⟨by decide⟩
instance : IZ 35 6 := ⟨by decide⟩
instance : IZ 36 6 := ⟨by decide⟩
instance : IZ 37 6 := ⟨by decide⟩
instance : IZ 38 6 := ⟨by decide⟩
instance : IZ 39 6 := ⟨by decide⟩
instance : IZ 40 6 := ⟨by decide⟩
instance : IZ 60 6 := ⟨by decide⟩
instance : IZ 100 7 := ⟨by decide⟩
instance : IZ 120 7 := ⟨by decide⟩
instance : IZ 1000 10 := ⟨by decide⟩
instance : IZ 1009 10 := ⟨by decide⟩
instance : IZ 7919 13 := ⟨by decide⟩
theorem divInt_eq_div (a b : Int) : Rat.divInt a b = (a : Rat) / (b : Rat) := Rat.divInt_eq_div a b
instance [a : IZ i n] [b : IZ j m] : SZ (Rat.divInt i j) (n + m + 2) := ⟨by
  rw [divInt_eq_div]
  have h := (inferInstance : SZ ((i : Rat) / (j : Rat)) (n + 1 + (m + 1))).z
  exact h.mono (by omega)⟩
theorem SZ.of (h : Sz n q) : SZ q n := ⟨h⟩
end
theorem eq_of_wp {α : Type} {r : R α} {S : Store} {x : α} (h : Wp r (fun _ _ => False) fun a S' => S' = S ∧ a = x) : r = .ok x S := by
  cases r with
  | ok a S' => rw [wp_ok] at h; obtain ⟨rfl, rfl⟩ := h; rfl
  | exc c S' => rw [wp_exc] at h; exact h.elim
  | bad => rw [wp_bad] at h; exact h.elim
section
variable {P : Prog} {F k n n' m m' : Nat} {S : Store} {v v' : Rat} {t t' : Int}
instance {m1 m2 m3 : Int} {v1 v2 v3 : Rat} {c : Nat} [s1 : SZ v1 n] [s2 : SZ v2 c] [s3 : SZ v3 n] [t1 : IZ m1 m] [t2 : IZ m2 m] [t3 : IZ m3 m] : SZ (standF m1 v1 m2 v2 m3 v3) (c + (2 * n + 3 * m + 4) + 1) := ⟨sz_stand2 s1.z s2.z s3.z t1.z t2.z t3.z⟩
end
end Lt
set_option maxRecDepth 100000
set_option maxHeartbeats 1000000
namespace Lt
open PySem (Str)
open LawT
abbrev Ent := Int × Option Rat
def entD : Ent → D
  | (m, some q) => .tup [.int m, rD q]
  | (m, none) => .tup [.int m, .non]
def valD : Option Rat → D
  | some q => rD q
  | none => .non
/-- sizes of what stands in a row -/
def EntOk (n : Nat) (e : Ent) : Prop := e.1.natAbs < 2 ^ n ∧ ∀ q, e.2 = some q → Sz n q
/-- moments rise -/
def Rises (es : List Ent) : Prop := es.Pairwise fun a b => a.1 < b.1
section
variable {P : Prog} {F k : Nat} {S : Store} {E : XP}
def zsE (most : Nat) : List Int := [(most : Int) + 1, 4, 4, 5, 3] ++ (List.replicate most [3, 9, 25, 12]).flatten
theorem flat_get {α : Type} {l : List α} {n i j : Nat} (hi : i < n) (hj : j < l.length) : (List.replicate n l).flatten[l.length * i + j]? = l[j]? := by
  induction n generalizing i with
  | zero => omega
  | succ n ih =>
    rw [List.replicate_succ, List.flatten_cons]
    rcases i with _ | i
    · rw [Nat.mul_zero, Nat.zero_add, List.getElem?_append_left hj]
    · rw [List.getElem?_append_right (by rw [Nat.mul_succ]; omega)]
      have : l.length * (i + 1) + j - l.length = l.length * i + j := by rw [Nat.mul_succ]; omega
      rw [this]
      exact ih (by omega)
theorem zsE_get {most i j : Nat} (hi : i < most) (hj : j < 4) : (zsE most)[4 * i + 5 + j]? = ([3, 9, 25, 12] : List Int)[j]? := by
  unfold zsE
  rw [List.getElem?_append_right (by simp; omega)]
  have := flat_get (l := ([3, 9, 25, 12] : List Int)) (n := most) hi (j := j) hj
  simp only [List.length_cons, List.length_nil] at this ⊢
  rw [← this]
  congr 1
  omega
theorem zsE_len (most : Nat) : (zsE most).length = 5 + 4 * most := by
  unfold zsE
  rw [List.length_append, List.length_flatten]
  simp
  omega
theorem zsE_pos (most : Nat) (hm : most < 100) : ∀ z ∈ zsE most, 0 < z ∧ z < 2 ^ 8000 := fun z hz => by
  have h2 : (2 : Int) ^ 60 < 2 ^ 8000 := Int.pow_lt_pow_of_lt (by decide) (by decide)
  have : 0 < z ∧ z < 1000 := by
    unfold zsE at hz
    rcases List.mem_append.mp hz with h | h
    · simp at h; omega
    · obtain ⟨l, hl, hz⟩ := List.mem_flatten.mp h
      have := List.eq_of_mem_replicate hl
      subst this
      simp at hz
      omega
  omega
def RowOk (n : Nat) (es : List Ent) : Prop := Rises es ∧ ∀ e ∈ es, EntOk n e
/-- a drawn row, in a list of its own -/
def IsRow (most n : Nat) (S' : Store) (x : D) : Prop := ∃ q es, x = .ref q ∧ getL S' q = some (es.map entD) ∧ es.length ≤ most ∧ RowOk n es
def EInv (B : Store) (d : D) (p : Int) (most q : Nat) (w2 : Int) (i : Nat) (e : Env) (S2 : Store) : Prop := Ext B S2 ∧ ∃ (es : List Ent) (M : Int) (o : Nat) (x1 x2 x3 x4 x5 : Option D), e = [some d, some (.int p), some (.int most), some (.ref q), some (.int M), some (.int w2), some (.ref o), x1, x2, x3, x4, x5] ∧ B.length ≤ o ∧ getL S2 o = some (es.map entD) ∧ es.length = i ∧ M.natAbs ≤ 2 ^ 140 + 4000 * i ∧ RowOk 250 es ∧ ∀ e ∈ es, e.1 ≤ M
theorem row_snoc {n : Nat} {es : List Ent} {M m : Int} {v : Option Rat} (h : RowOk n es) (hle : ∀ e ∈ es, e.1 ≤ M) (hm : M < m) (hn : m.natAbs < 2 ^ n) (hv : ∀ q, v = some q → Sz n q) : RowOk n (es ++ [(m, v)]) ∧ ∀ e ∈ es ++ [(m, v)], e.1 ≤ m := by
  refine ⟨⟨?_, fun e he => ?_⟩, fun e he => ?_⟩
  · unfold Rises
    rw [List.pairwise_append]
    refine ⟨h.1, by simp, fun a ha b hb => ?_⟩
    rw [List.mem_singleton] at hb
    subst hb
    have := hle a ha
    show a.1 < m
    omega
  · rcases List.mem_append.mp he with z | z
    · exact h.2 e z
    · rw [List.mem_singleton] at z
      subst z
      exact ⟨hn, hv⟩
  · rcases List.mem_append.mp he with z | z
    · have := hle e z; omega
    · rw [List.mem_singleton] at z
      subst z
      exact Int.le_refl _
theorem entries_wp (hf : P.defs.lookup ("_law_entries" : Str) = some a__law_entries) (hw : P.defs.lookup ("_law_row" : Str) = some a__law_row) (hc : P.defs.lookup ("_law_cell" : Str) = some a__law_cell) (hm : P.defs.lookup ("_law_mix" : Str) = some a__law_mix) (hr : P.defs.lookup ("_law_ratio" : Str) = some a__law_ratio)
    {d : D} {ns : List Int} {p : Int} {most : Nat} (hd : lstOf S d = some (ns.map .int)) (hp0 : 0 ≤ p) (hp : p < 2 ^ 29) (hmost : most < 100) (hF : BIG ≤ F) :
    Wp (callN P F (k + 3) "_law_entries" [d, .int p, .int most] S) E fun x S' => Ext S S' ∧ IsRow most 250 S' x := by
  apply wp_callN hf rfl
  simp only [a__law_entries]
  have hlim : 5 + 4 * most ≤ lim := by unfold lim; omega
  have hlim2 : 4 * most ≤ lim := by unfold lim; omega
  try simp [wpx, wpo, wps, hlim, hlim2]
  have hmi : (most : Int) ≤ 100000 := by omega
  have hl5 : 5 + most * 4 ≤ lim := by omega
  refine ⟨hmi, hl5, ?_⟩
  refine (row_wp (zs := zsE most) hw hc hm (Ext.one.lstOf hd) (by omega) (by omega) (by simp [wps, zsE, List.map_flatten]) (zsE_pos most hmost) (by rw [zsE_len]; omega)).imp ?_
  rintro r S3 ⟨h3, q, rfl, hq⟩
  have bd : ∀ i z, (zsE most)[i]? = some z → 0 < z → 0 ≤ drawF ns p (zsE most) i ∧ drawF ns p (zsE most) i < z := fun i z h hz => draw_bd h hz
  have b0 := bd 0 (most + 1) rfl (by omega)
  have b1 := bd 1 4 rfl (by decide)
  have b2 := bd 2 4 rfl (by decide)
  have b3 := bd 3 5 rfl (by decide)
  have b4 := bd 4 3 rfl (by decide)
  have c0 := fun i (hi : i < most) => bd (4 * i + 5 + 0) 3 (by rw [zsE_get hi (by decide)]; rfl) (by decide)
  have c1 := fun i (hi : i < most) => bd (4 * i + 5 + 1) 9 (by rw [zsE_get hi (by decide)]; rfl) (by decide)
  have c2 := fun i (hi : i < most) => bd (4 * i + 5 + 2) 25 (by rw [zsE_get hi (by decide)]; rfl) (by decide)
  have c3 := fun i (hi : i < most) => bd (4 * i + 5 + 3) 12 (by rw [zsE_get hi (by decide)]; rfl) (by decide)
  have it : ∀ (i : Int) S', 0 ≤ i → i < 5 + 4 * most → itemR (some ((rowF ns p (zsE most)).map .int)) i S' = .ok (.int (drawF ns p (zsE most) i.toNat)) S' := fun i S' h0 h1 => row_item h0 (by rw [zsE_len]; omega)
  generalize drawF ns p (zsE most) = v at *
  have i0 : ∀ S', itemR (some ((rowF ns p (zsE most)).map .int)) 0 S' = .ok (.int (v 0)) S' := fun S' => it 0 S' (by omega) (by omega)
  have i1 : ∀ S', itemR (some ((rowF ns p (zsE most)).map .int)) 1 S' = .ok (.int (v 1)) S' := fun S' => it 1 S' (by omega) (by omega)
  have i2 : ∀ S', itemR (some ((rowF ns p (zsE most)).map .int)) 2 S' = .ok (.int (v 2)) S' := fun S' => it 2 S' (by omega) (by omega)
  have i3 : ∀ S', itemR (some ((rowF ns p (zsE most)).map .int)) 3 S' = .ok (.int (v 3)) S' := fun S' => it 3 S' (by omega) (by omega)
  have i4 : ∀ S', itemR (some ((rowF ns p (zsE most)).map .int)) 4 S' = .ok (.int (v 4)) S' := fun S' => it 4 S' (by omega) (by omega)
  obtain ⟨w1, hw1, p1⟩ := pick (xs := [0, -5, 1000003, -10000000000000000000000000000000000000000]) (i := v 1) b1.1 b1.2
  obtain ⟨w2, hw2, p2⟩ := pick (xs := [1, 7, 1000000, 1000000000039, 1000000000000000000000000000000000000000000000000000000000007]) (i := v 3) b3.1 b3.2
  obtain ⟨w3, hw3, p3⟩ := pick (xs := [1, 1, 1009]) (i := v 4) b4.1 b4.2
  obtain ⟨w4, hw4, p4⟩ := pick (xs := [0, 1, 3, 8]) (i := v 2) b2.1 b2.2
  have e200 : (1000000000000000000000000000000000000000000000000000000000007 : Nat) < 2 ^ 200 := by decide +kernel
  have e140 : (10000000000000000000000000000000000000000 : Nat) < 2 ^ 140 := by decide +kernel
  have l1 : w1.natAbs < 2 ^ 140 := by simp at hw1; omega
  have l2 : w2.natAbs < 2 ^ 200 := by simp at hw2; omega
  have l3 : 0 < w3 ∧ w3 < 1010 := by simp at hw3; omega
  simp at p1 p2 p3 p4
  have hq1 : ∀ c, getL (S3 ++ c) q = some ((rowF ns p (zsE most)).map .int) := fun c => Ext.one.getL hq
  try simp [wpx, wpo, wps, hq, hq1, i0, i1, i2, i3, i4, p1, p2]
  have hE3 : Ext S S3 := Ext.one.trans h3
  generalize hB : S3 ++ [Cell.lst [D.int 0, D.int (-5), D.int 1000003, D.int (-10000000000000000000000000000000000000000)], Cell.lst [D.int 1, D.int 7, D.int 1000000, D.int 1000000000039, D.int 1000000000000000000000000000000000000000000000000000000000007]] = B
  have hEB : Ext S B := by rw [← hB]; exact hE3.app
  have hqB : getL B q = some ((rowF ns p (zsE most)).map .int) := by rw [← hB]; exact hq1 _
  have e149 : (2 : Nat) ^ 140 + 400000 < 2 ^ 150 := by decide +kernel
  refine for_rng (fun i e S2 => EInv B d p most q w2 i e S2) (by omega) (by omega) (by omega) (by omega) ?_ ?_ ?_
  · refine ⟨?_, [], w1, S3.length + 2, none, none, none, none, none, rfl, ?_, ?_, rfl, by omega, ⟨List.Pairwise.nil, fun e he => by cases he⟩, fun e he => by cases he⟩
    · rw [← hB]; exact ⟨[.lst []], by simp⟩
    · rw [← hB]; simp
    · exact getL_app
  · rintro i e S2 hi ⟨hE2, es, M, o, x1, x2, x3, x4, x5, rfl, ho, hg, hlen, hM, hrow, hle⟩
    have hi' : i < most := by omega
    have hqS : getL S2 q = some ((rowF ns p (zsE most)).map .int) := hE2.getL hqB
    have hoL := getL_lt hg
    have m4 : Sm 4 (i : Int) := sm100 (by decide) (by omega)
    have a0 := c0 i hi'
    have a1 := c1 i hi'
    have a2 := c2 i hi'
    have a3 := c3 i hi'
    have y0 : ∀ S', itemR (some ((rowF ns p (zsE most)).map .int)) (4 * (i : Int) + 5) S' = .ok (.int (v (4 * i + 5 + 0))) S' := fun S' => by
      rw [it _ S' (by omega) (by omega)]
      congr 3
    have y1 : ∀ S', itemR (some ((rowF ns p (zsE most)).map .int)) (4 * (i : Int) + 6) S' = .ok (.int (v (4 * i + 5 + 1))) S' := fun S' => by
      rw [it _ S' (by omega) (by omega)]
      congr 3
    have y2 : ∀ S', itemR (some ((rowF ns p (zsE most)).map .int)) (4 * (i : Int) + 7) S' = .ok (.int (v (4 * i + 5 + 2))) S' := fun S' => by
      rw [it _ S' (by omega) (by omega)]
      congr 3
    have y3 : ∀ S', itemR (some ((rowF ns p (zsE most)).map .int)) (4 * (i : Int) + 8) S' = .ok (.int (v (4 * i + 5 + 3))) S' := fun S' => by
      rw [it _ S' (by omega) (by omega)]
      congr 3
    generalize v (4 * i + 5 + 0) = s0 at *
    generalize v (4 * i + 5 + 1) = s1 at *
    generalize v (4 * i + 5 + 2) = s2 at *
    generalize v (4 * i + 5 + 3) = s3 at *
    have n3 : Sm s0 w3 := sm100 (by omega) (by omega)
    have n4 : Sm (s2 - 12) w2 := sm_of 10 200 (by omega) l2 (by decide)
    have hqc : ∀ c, getL (S2 ++ c) q = some ((rowF ns p (zsE most)).map .int) := fun c => Ext.one.getL hqS
    have hoc : ∀ c, getL (S2 ++ c) o = some (es.map entD) := fun c => Ext.one.getL hg
    have hil : i < lim := by unfold lim; omega
    have hst : 0 ≤ s0 * w3 := Int.mul_nonneg (by omega) (by omega)
    have hst2 : s0 * w3 ≤ 2 * 1010 := Int.mul_le_mul (by omega) (by omega) (by omega) (by omega)
    refine ⟨_, bind_name (by simp), ?_⟩
    try simp [wpx, wpo, wps, hqS, hqc, hoc, i0, i1, i2, i3, i4, p3, p4, y0, y1, y2, y3, m4, n3, n4]
    have hML : M < M + 1 + s0 * w3 := by omega
    have hMB : (M + 1 + s0 * w3).natAbs < 2 ^ 250 := by
      have : (2 : Nat) ^ 150 ≤ 2 ^ 250 := nat_pow_mono (by decide)
      omega
    have hel : es.length < lim := by unfold lim; omega
    by_cases h1 : s1 < w4
    · simp [wpx, h1, hel]
      obtain ⟨r1, r2⟩ := row_snoc (m := M + 1 + s0 * w3) (v := none) hrow hle hML hMB (fun q h => by cases h)
      refine ⟨hE2.app.set ho, es ++ [(M + 1 + s0 * w3, none)], M + 1 + s0 * w3, o, _, _, _, _, _, rfl, ho, ?_, by simp [hlen], by omega, r1, r2⟩
      rw [getL_set (by simp; omega)]
      simp [entD]
    · simp [wpx, h1]
      have sq : Sz 250 (Rat.divInt ((s2 - 12) * w2) (s3 + 1)) := sz_divInt (by omega) (Nat.lt_of_lt_of_le (natAbs_mul_lt (n := 10) (m := 200) (by omega) l2) (nat_pow_mono (by decide))) (Nat.lt_of_lt_of_le (show (s3 + 1).natAbs < 2 ^ 41 by omega) (nat_pow_mono (by decide)))
      refine (law_ratio_wp hr (by omega) (big_pow (n := 41) (by omega) (by decide)) hF).imp ?_
      rintro r S4 ⟨rfl, rfl⟩
      simp [wpx, wpo, hoc, hel]
      obtain ⟨r1, r2⟩ := row_snoc (m := M + 1 + s0 * w3) (v := some _) hrow hle hML hMB (fun q h => by cases h; exact sq)
      refine ⟨hE2.app.set ho, es ++ [(M + 1 + s0 * w3, some _)], M + 1 + s0 * w3, o, _, _, _, _, _, rfl, ho, ?_, by simp [hlen], by omega, r1, r2⟩
      rw [getL_set (by simp; omega)]
      simp [entD]
  · rintro e S2 ⟨hE2, es, M, o, x1, x2, x3, x4, x5, rfl, ho, hg, hlen, hM, hrow, hle⟩
    simp [wpx, wpo]
    exact ⟨hEB.trans hE2, o, es, rfl, hg, by omega, hrow⟩
end
end Lt
set_option maxRecDepth 100000
set_option maxHeartbeats 1000000
namespace Lt
open PySem (Str)
open LawT
def LLs (S : Store) : List Nat → List (List Ent) → Prop
  | [], [] => True
  | q :: qs, r :: rs => getL S q = some (r.map entD) ∧ LLs S qs rs
  | _, _ => False
theorem LLs.len {S : Store} : ∀ {qs : List Nat} {rs : List (List Ent)}, LLs S qs rs → qs.length = rs.length
  | [], [], _ => rfl
  | q :: qs, r :: rs, h => by simp [LLs.len h.2]
theorem LLs.ext {S S' : Store} (e : Ext S S') : ∀ {qs : List Nat} {rs : List (List Ent)}, LLs S qs rs → LLs S' qs rs
  | [], [], _ => trivial
  | _ :: _, _ :: _, h => ⟨e.getL h.1, LLs.ext e h.2⟩
theorem LLs.set {S : Store} {n : Nat} {c : Cell} : ∀ {qs : List Nat} {rs : List (List Ent)}, LLs S qs rs → n ∉ qs → LLs (S.set n c) qs rs
  | [], [], _, _ => trivial
  | q :: qs, _ :: _, h, hn => by
    rw [List.mem_cons, not_or] at hn
    exact ⟨by rw [getL_set_ne hn.1]; exact h.1, LLs.set h.2 hn.2⟩
theorem LLs.get {S : Store} : ∀ {qs : List Nat} {rs : List (List Ent)} {i : Nat} {q : Nat}, LLs S qs rs → qs[i]? = some q → ∃ r, rs[i]? = some r ∧ getL S q = some (r.map entD)
  | [], [], _, _, _, e => by simp at e
  | q :: qs, r :: rs, i, p, h, e => by
    cases i with
    | zero => simp at e; subst e; exact ⟨r, by simp, h.1⟩
    | succ i => simp at e; obtain ⟨x, h1, h2⟩ := LLs.get h.2 e; exact ⟨x, by simpa using h1, h2⟩
theorem LLs.mem {S : Store} : ∀ {qs : List Nat} {rs : List (List Ent)}, LLs S qs rs → ∀ q ∈ qs, ∃ r ∈ rs, getL S q = some (r.map entD)
  | [], [], _, q, hq => by cases hq
  | p :: qs, r :: rs, h, q, hq => by
    rcases List.mem_cons.mp hq with rfl | hq
    · exact ⟨r, List.mem_cons_self .., h.1⟩
    · obtain ⟨x, h1, h2⟩ := LLs.mem h.2 q hq
      exact ⟨x, List.mem_cons_of_mem _ h1, h2⟩
end Lt
set_option maxRecDepth 100000
set_option maxHeartbeats 2000000
namespace Lt
open PySem (Str)
open LawT
/-- a def by its body alone -/
structure Has (P : Prog) (f : Str) (np nn : Nat) (b : List St) : Prop where
  ex : ∃ ps ns, P.defs.lookup f = some ⟨ps, ns, [], b⟩ ∧ ps.length = np ∧ ns.length = nn
theorem wp_has {P : Prog} {F k np nn : Nat} {f : Str} {b : List St} {ds : List D} {S : Store} {E : XP} {Q : D → Store → Prop} (h : Has P f np nn b) (hl : ds.length = np)
    (w : WpS (exB (P.cx F (callN P F k)) b (ds.map some ++ List.replicate (nn - ds.length) none) S) { nx := fun _ S => Q .non S, rt := Q, ex := fun c _ S => E c S }) : Wp (callN P F (k + 1) f ds S) E Q := by
  obtain ⟨ps, ns, h1, h2, h3⟩ := h.ex
  exact wp_callN h1 (by rw [hl, h2]) (by rw [h3]; exact w)
end Lt
set_option maxRecDepth 100000
set_option maxHeartbeats 2000000
namespace Lt
set_option exponentiation.threshold 9000
open PySem (Str)
open LawT
section
variable {S : Store} {a b : List Nat}
abbrev tD (l : List Nat) : D := .str (tx l)
theorem tx_len : (tx a).length = a.length := SX.S_len a
theorem tx_cat : tx a ++ tx b = tx (a ++ b) := SX.S_cat a b
theorem tx_inj (h : tx a = tx b) : a = b := SX.S_inj h
theorem bo_addT : binop .add (D.str (tx a)) (D.str (tx b)) S = if a.length + b.length ≤ lim then R.ok (D.str (tx (a ++ b))) S else R.bad := by
  show (if (tx a).length + (tx b).length ≤ lim then R.ok (D.str (tx a ++ tx b)) S else R.bad) = _
  rw [tx_len, tx_len, tx_cat]
theorem eqD_tx (ha : Asc a) (hb : Asc b) : eqD S (.str (tx a)) (.str (tx b)) = some (decide (a = b)) := by
  rw [eqD_str (asc_ok ha) (asc_ok hb)]
  congr 1
  by_cases h : a = b
  · subst h; simp
  · rw [decide_eq_false h, decide_eq_false fun z => h (tx_inj z)]
theorem bi_lenT : biop .len [D.str (tx a)] S = if a.length ≤ lim then R.ok (D.int a.length) S else R.bad := by
  have : biop .len [D.str (tx a)] S = if (tx a).length ≤ lim then R.ok (D.int ((tx a).length : Nat)) S else R.bad := rfl
  rw [this, tx_len]
theorem slc_T1 : PySem.Txt.slice (tx a) none (some 1) = tx (a.take 1) := SX.slice_to (i := 1) (by decide)
theorem slc_F1 : PySem.Txt.slice (tx a) (some 1) none = tx (a.drop 1) := SX.slice_from (i := 1) (by decide)
theorem cx_gx {P : Prog} {F : Nat} {c : Str → List D → Store → R D} {x : Str} : (P.cx F c).glo x = P.glob.lookup x := rfl
def gxR (x : Option D) (S : Store) : R D := match x with
  | some d => .ok d S
  | none => .bad
theorem ev_gx {G : Cxt} {e : Env} {x : Str} : ev G (.glo x) e S = gxR (G.glo x) S := by
  simp only [ev, gxR]
  try (cases G.glo x <;> rfl)
theorem gxR_some {d : D} : gxR (some d) S = .ok d S := rfl
theorem cm_notinT {x y : D} : cmpop .notin x y S = neR (inO S x y) S := by
  unfold cmpop neR; cases inO S x y <;> rfl
theorem k_e : ("" : Str) = tx [] := rfl
theorem k_m : ("-" : Str) = tx [45] := rfl
theorem k_0 : ("0" : Str) = tx [48] := rfl
theorem k_sl : ("/" : Str) = tx [47] := rfl
theorem k_sp : (" " : Str) = tx [32] := rfl
theorem k_gap : ("gap" : Str) = tx gapL := rfl
theorem k_sgap : (" gap" : Str) = tx (32 :: gapL) := rfl
theorem k_fig : ("0123456789" : Str) = tx [48, 49, 50, 51, 52, 53, 54, 55, 56, 57] := rfl
theorem asc_lit {l : List Nat} (h : (l.all fun c => decide (c < 128)) = true) : Asc l := fun c hc => of_decide_eq_true (List.all_eq_true.mp h c hc)
theorem in_fig {c : Nat} : inO S (sign c) (.str (tx [48, 49, 50, 51, 52, 53, 54, 55, 56, 57])) = some (dgB c) := by
  show some (!(PySem.Builtin.Str.occurrences (SX.S [48, 49, 50, 51, 52, 53, 54, 55, 56, 57]) (SX.S [c]) 0 (SX.S [48, 49, 50, 51, 52, 53, 54, 55, 56, 57]).length 1).isEmpty) = _
  rw [SX.in_one]
  congr 1
  by_cases h : 48 ≤ c ∧ c ≤ 57
  · rw [dgB_iff.mpr h]
    exact decide_eq_true (by simp; omega)
  · have : dgB c = false := by
      cases hd : dgB c with
      | false => rfl
      | true => exact absurd (dgB_iff.mp hd) h
    rw [this]
    exact decide_eq_false (by simp; omega)
theorem item0_T (h : a.length ≤ 10000) {c : Nat} {r : List Nat} (e : a = c :: r) : itemS (tx a) 0 S = R.ok (sign c) S := by
  subst e
  unfold itemS
  rw [if_pos (by rw [tx_len]; unfold lim; omega)]
  have : L2.atI (tx (c :: r)).cps.toList 0 = some c := by
    unfold L2.atI L2.ixN
    simp
  rw [this]
theorem sign_tx {c : Nat} : sign c = D.str (tx [c]) := rfl
theorem par_T {w : List Nat} {c : Nat} : PySem.Txt.partition (tx w) (tx [c]) = match TL.par [c] [] w with
  | some (p, q) => (tx p, tx [c], tx q)
  | none => (tx w, tx [], tx []) := by
  cases h : TL.par [c] [] w with
  | none => exact SX.partition_none (by simp) h
  | some p => obtain ⟨p, q⟩ := p; exact SX.partition_some (by simp) h
theorem spl_T {w : List Nat} {c : Nat} (h : c < 256) : PySem.Txt.split (tx w) (tx [c]) = (TL.spl [c] 0 [] w).map tx := SX.split_S (by simp) (by simp [h])
end
section
variable {α : Type} {S S' : Store} {e : Env} {E : XP} {Z : Zs}
/-- a loop over a text, sign by sign -/
theorem for_txt {t : Tg} {w : List Nat} {b : Env → Store → SR} {X : XP} (I : Nat → Env → Store → Prop) (h0 : I 0 e S)
    (step : ∀ i c e S, w[i]? = some c → I i e S → ∃ e1, bindT t (sign c) e S = some e1 ∧ WpS (b e1 S) { nx := I (i + 1), rt := Z.rt, bk := Z.nx, ex := Z.ex })
    (fin : ∀ e S, I w.length e S → Z.nx e S) : Wp (optR (seqItr (.str (tx w)) S) S) X fun j S1 => WpS (forGo t j b j.n 0 e S1) Z := by
  have h1 : seqItr (.str (tx w)) S = some ⟨w.length, fun i _ => (w[i]?).map sign, fun _ => true⟩ := by
    unfold seqItr strItr
    simp [seqOf, tx]
  rw [h1, optR_some, wp_ok]
  refine for_rule I w.length (fun i e S hi hI => ?_) (fun e S hI => ?_) _ 0 e S (by simp) h0
  · obtain ⟨c, hc⟩ : ∃ c, w[i]? = some c := ⟨_, List.getElem?_eq_getElem hi⟩
    obtain ⟨e1, g2, g3⟩ := step i c e S hc hI
    exact ⟨sign c, e1, by simp [hc], g2, g3⟩
  · exact ⟨rfl, fin e S hI⟩
end
structure HasF (P : Prog) (f : Str) (np nn : Nat) (dfl : List D) (b : List St) : Prop where
  ex : ∃ ps ns, P.defs.lookup f = some ⟨ps, ns, dfl, b⟩ ∧ ps.length = np ∧ ns.length = nn
theorem wp_hasF {P : Prog} {F k np nn : Nat} {f : Str} {dfl : List D} {b : List St} {ds : List D} {S : Store} {E : XP} {Q : D → Store → Prop} (h : HasF P f np nn dfl b) (hl : ds.length = np)
    (w : WpS (exB (P.cx F (callN P F k)) b (ds.map some ++ List.replicate (nn - ds.length) none) S) { nx := fun _ S => Q .non S, rt := Q, ex := fun c _ S => E c S }) : Wp (callN P F (k + 1) f ds S) E Q := by
  obtain ⟨ps, ns, h1, h2, h3⟩ := h.ex
  exact wp_callN h1 (by rw [hl, h2]) (by rw [h3]; exact w)
theorem callN_pf {P : Prog} {F k np nn : Nat} {f : Str} {dfl : List D} {b : List St} {ds es : List D} {S : Store} (h : HasF P f np nn dfl b) (hl : es.length = np) (hp : ds ++ dfl.drop (dfl.length - (np - ds.length)) = es) : callN P F (k + 1) f ds S = callN P F (k + 1) f es S := by
  obtain ⟨ps, ns, h1, h2, h3⟩ := h.ex
  rw [callN, callN, h1]
  simp only
  have e1 : padD ⟨ps, ns, dfl, b⟩ es = es := padD_all (by rw [hl, h2])
  have e2 : padD ⟨ps, ns, dfl, b⟩ ds = es := by
    unfold padD
    simp only [h2]
    exact hp
  rw [e1, e2]
section
variable {P : Prog} {F k : Nat} {S : Store} {E : XP}
def WhR (S : Store) (o : Option Int) (x : D) (S' : Store) : Prop := S' = S ∧ ∃ n : Int, o = some n ∧ x = .int n
def WhE (S : Store) (o : Option Int) : XP := fun c S' => S' = S ∧ o = none ∧ c = ⟨"NoWord", none⟩
structure HRd (P : Prog) (F : Nat) : Prop where
  big : BIG ≤ F
  hr : HR P
  wh : HasF P "read_whole" 2 4 [.int 18] b_read_whole
  ra : HasF P "read_ratio" 2 6 [.int 18] b_read_ratio
  en : Has P "read_entry" 1 3 b_read_entry
  fig : P.glob.lookup ("FIGURES" : Str) = some (.str "0123456789")
def RwI (w : List Nat) (fg : Int) (S : Store) (i : Nat) (e : Env) (S2 : Store) : Prop := S2 = S ∧ (∃ x3, e = [some (tD w), some (.int fg), some (tD (plainL w)), x3]) ∧ ((plainL w).take i).all dgB = true
theorem read_whole_wp (h : HRd P F) {w : List Nat} {fg : Nat} (hw : Asc w) (hl : w.length ≤ 10000) (hf : fg ≤ 600) :
    Wp (callN P F (k + 1) "read_whole" [tD w, .int fg] S) (WhE S (wholeL fg w)) (WhR S (wholeL fg w)) := by
  apply wp_hasF h.wh rfl
  simp only [b_read_whole]
  have l1 : (tx w).length ≤ lim := by rw [tx_len]; unfold lim; omega
  have ap : Asc (plainL w) := by
    unfold plainL
    split
    · exact asc_sub hw fun c hc => List.mem_of_mem_drop hc
    · exact hw
  have a1 : Asc (w.take 1) := asc_sub hw fun c hc => List.mem_of_mem_take hc
  have am : Asc [45] := asc_lit rfl
  have a0 : Asc [48] := asc_lit rfl
  have ae : Asc [] := fun c hc => by cases hc
  have key : ∀ x3, WpS (exB (P.cx F (callN P F k)) (b_read_whole.drop 2) [some (tD w), some (.int fg), some (tD (plainL w)), x3] S) { nx := fun _ _ => False, rt := WhR S (wholeL fg w), ex := fun c _ S' => WhE S (wholeL fg w) c S' } := by
    intro x3
    simp only [b_read_whole, List.drop]
    have fire : (plainL w = [] ∨ fg < (plainL w).length) ∨ (plainL w).all dgB = false ∨ ((plainL w).head? = some 48 ∧ w ≠ [48]) → WhE S (wholeL fg w) ⟨"NoWord", none⟩ S := fun z => by
      refine ⟨rfl, ?_, rfl⟩
      unfold wholeL
      by_cases z1 : plainL w = [] ∨ fg < (plainL w).length
      · rw [if_pos z1]
      rw [if_neg z1]
      by_cases z2 : (plainL w).all dgB = false
      · rw [if_pos z2]
      rw [if_neg z2]
      rcases z with z | z | z
      · exact absurd z z1
      · exact absurd z z2
      · rw [if_pos z]
    have rest : ¬ (plainL w = [] ∨ fg < (plainL w).length) → WpS (exB (P.cx F (callN P F k)) (b_read_whole.drop 3) [some (tD w), some (.int fg), some (tD (plainL w)), x3] S) { nx := fun _ _ => False, rt := WhR S (wholeL fg w), ex := fun c _ S' => WhE S (wholeL fg w) c S' } := by
      intro hne
      simp only [b_read_whole, List.drop]
      simp [wpx, wpo, wps]
      refine for_txt (RwI w fg S) ⟨rfl, ⟨x3, rfl⟩, rfl⟩ ?_ ?_
      · rintro i c e S2 hc ⟨rfl, ⟨y3, rfl⟩, hall⟩
        refine ⟨_, bind_name (by simp), ?_⟩
        have tk : (plainL w).take (i + 1) = (plainL w).take i ++ [c] := by rw [List.take_succ, hc]; rfl
        simp [wpx, wpo, wps, ev_gx, cx_gx, h.fig, gxR_some, cm_notinT, k_fig, in_fig]
        cases hd : dgB c with
        | true =>
          simp [wpx, wpo, wps]
          exact ⟨rfl, ⟨_, rfl⟩, by rw [tk, List.all_append, hall]; simp [hd]⟩
        | false =>
          simp [wpx, wpo, wps]
          exact fire (.inr (.inl (by
            cases hz : (plainL w).all dgB with
            | false => rfl
            | true => have := List.all_eq_true.mp hz c (List.mem_of_getElem? hc); rw [hd] at this; cases this)))
      · rintro e S2 ⟨rfl, ⟨y3, rfl⟩, hall⟩
        rw [List.take_length] at hall
        have hn2 : plainL w ≠ [] := fun z => hne (.inl z)
        obtain ⟨c, r, hcr⟩ : ∃ c r, plainL w = c :: r := by
          cases hp : plainL w with
          | nil => exact absurd hp hn2
          | cons c r => exact ⟨c, r, rfl⟩
        have hpl : (plainL w).length ≤ w.length := by
          unfold plainL
          split
          · simp
          · exact Nat.le_refl _
        have hlw : w.length ≤ (plainL w).length + 1 := by
          unfold plainL
          split
          · simp; omega
          · omega
        have hpf : (plainL w).length ≤ fg := by
          rcases Nat.lt_or_ge fg (plainL w).length with z | z
          · exact absurd (.inr z) hne
          · exact z
        have e0 : ∀ S', eqD S' (D.str (tx [c])) (D.str (tx [48])) = some (decide (c = 48)) := fun S' => by
          rw [eqD_tx (fun d hd => by rw [List.mem_singleton] at hd; subst hd; exact ap d (by rw [hcr]; simp)) a0]
          congr 1
          simp
        have ew : ∀ S', eqD S' (D.str (tx w)) (D.str (tx [48])) = some (decide (w = [48])) := fun S' => eqD_tx hw a0
        have rd : biop .int [D.str (tx w)] S2 = .ok (.int (valL w)) S2 := by
          rw [bi_intS, if_pos (by rw [tx_len]; omega), int_valL hn2 hall (by omega)]
        have it := item0_T (S := S2) (a := plainL w) (by omega) hcr
        have hh : (plainL w).head? = some c := by rw [hcr]; rfl
        have good : ¬ (c = 48 ∧ w ≠ [48]) → WhR S2 (wholeL fg w) (.int (valL w)) S2 := fun z => by
          refine ⟨rfl, valL w, ?_, rfl⟩
          unfold wholeL
          rw [if_neg hne, if_neg (by rw [hall]; decide), if_neg]
          rintro ⟨y1, y2⟩
          rw [hh] at y1
          cases y1
          exact z ⟨rfl, y2⟩
        by_cases c0 : c = 48
        · subst c0
          have e0 : ∀ S', eqD S' (D.str (tx [48])) (D.str (tx [48])) = some true := fun S' => by rw [e0]; rfl
          by_cases w0 : w = [48]
          · have g := good fun z => z.2 w0
            simp [wpx, wpo, wps, it, sign_tx, k_0, e0, ew, decide_eq_true w0, rd]
            exact g
          · simp [wpx, wpo, wps, it, sign_tx, k_0, e0, ew, decide_eq_false w0]
            exact fire (.inr (.inr ⟨hh, w0⟩))
        · simp [wpx, wpo, wps, it, sign_tx, k_0, e0, c0, rd]
          exact good fun z => c0 z.1
    simp only [b_read_whole, List.drop] at rest
    have ep : ∀ S', eqD S' (D.str (tx (plainL w))) (D.str (tx [])) = some (decide (plainL w = [])) := fun S' => eqD_tx ap ae
    have hpl : (plainL w).length ≤ w.length := by
      unfold plainL
      split
      · simp
      · exact Nat.le_refl _
    have lp : (plainL w).length ≤ lim := by unfold lim; omega
    by_cases h1 : plainL w = []
    · simp [wpx, wpo, wps, k_e, ep, decide_eq_true h1]
      exact fire (.inl (.inl h1))
    · by_cases h2 : fg < (plainL w).length
      · simp [wpx, wpo, wps, k_e, ep, decide_eq_false h1, bi_lenT, lp, h2]
        exact fire (.inl (.inr h2))
      · have := rest fun z => z.elim h1 h2
        simp [wpx, wpo, wps, k_e, ep, decide_eq_false h1, bi_lenT, lp, h2] at this ⊢
        exact this
  simp only [b_read_whole, List.drop] at key
  have e1 : ∀ S', eqD S' (D.str (tx (w.take 1))) (D.str (tx [45])) = some (decide (w.take 1 = [45])) := fun S' => eqD_tx a1 am
  by_cases hm : w.take 1 = [45]
  · have ep : plainL w = w.drop 1 := by unfold plainL; rw [if_pos hm]
    have := key none
    rw [ep] at this
    simp [wpx, wpo, wps, slcR_str, l1, slc_T1, slc_F1, k_m, e1, decide_eq_true hm] at this ⊢
    exact this
  · have ep : plainL w = w := by unfold plainL; rw [if_neg hm]
    have := key none
    rw [ep] at this
    simp [wpx, wpo, wps, slcR_str, l1, slc_T1, slc_F1, k_m, e1, decide_eq_false hm] at this ⊢
    exact this
theorem gcd_oneT {a b : Int} (hb : 0 < b) : (a / ((a.natAbs.gcd b.natAbs : Nat) : Int) = a ∧ b / ((a.natAbs.gcd b.natAbs : Nat) : Int) = b) ↔ a.natAbs.gcd b.natAbs = 1 := by
  constructor
  · rintro ⟨_, h⟩
    have hg : 0 < a.natAbs.gcd b.natAbs := Nat.gcd_pos_of_pos_right _ (by omega)
    by_cases h1 : a.natAbs.gcd b.natAbs = 1
    · exact h1
    · have : b / ((a.natAbs.gcd b.natAbs : Nat) : Int) < b := Int.ediv_lt_self_of_pos_of_ne_one hb (by omega)
      omega
  · intro h
    rw [h]
    simp
theorem eqD_ratT {u d : Int} (hd : 0 < d) : eqD S (rD (Rat.divInt u d)) (.tup [.int u, .int d]) = some (decide (u.natAbs.gcd d.natAbs = 1)) := by
  rw [divInt_rD hd, eqD_pair]
  congr 1
  exact decide_eq_decide.mpr (gcd_oneT hd)
def RaR (S : Store) (o : Option (Int × Int)) (x : D) (S' : Store) : Prop := S' = S ∧ ∃ u d : Int, o = some (u, d) ∧ x = .tup [.int u, .int d]
def RaE (S : Store) (o : Option (Int × Int)) : XP := fun c S' => S' = S ∧ o = none ∧ c = ⟨"NoWord", none⟩
theorem big_fig {fg : Nat} {d : Int} (hf : fg ≤ 600) (h : d.natAbs < 10 ^ fg) : d.natAbs < BIG := by
  unfold BIG
  have h1 : (10 : Nat) ^ fg ≤ 10 ^ 600 := Nat.pow_le_pow_right (by decide) hf
  have h2 : (10 : Nat) ^ 600 ≤ 2 ^ 8000 := by decide +kernel
  omega
theorem read_ratio_wp (h : HRd P F) {w : List Nat} {fg : Nat} (hw : Asc w) (hl : w.length ≤ 10000) (hf : fg ≤ 600) :
    Wp (callN P F (k + 3) "read_ratio" [tD w, .int fg] S) (RaE S (ratioL fg w)) (RaR S (ratioL fg w)) := by
  apply wp_hasF h.ra rfl
  simp only [b_read_ratio]
  have l1 : (tx w).length ≤ lim := by rw [tx_len]; unfold lim; omega
  have a0 : Asc [] := fun c hc => by cases hc
  have as : Asc [47] := asc_lit rfl
  have n1 : (tx [47]).length ≠ 0 := by rw [tx_len]; decide
  have ee : ∀ S', eqD S' (D.str (tx [])) (D.str (tx [])) = some true := fun S' => by rw [eqD_tx a0 a0]; rfl
  have es : ∀ S', eqD S' (D.str (tx [47])) (D.str (tx [])) = some false := fun S' => by rw [eqD_tx as a0]; rfl
  cases hp : TL.par [47] [] w with
  | none =>
    have er : ratioL fg w = (wholeL fg w).map fun n => (n, 1) := by unfold ratioL; rw [hp]
    simp [wpx, wpo, wps, k_sl, k_e, l1, par_T, hp, ee, bindT]
    refine ⟨n1, ?_⟩
    refine (read_whole_wp (k := k + 1) h hw hl hf).mono ?_ ?_
    · rintro x S' ⟨rfl, n, hn, rfl⟩
      exact ⟨rfl, n, 1, by rw [er, hn]; rfl, rfl⟩
    · rintro c S' ⟨rfl, hn, rfl⟩
      exact ⟨rfl, by rw [er, hn]; rfl, rfl⟩
  | some pq =>
    obtain ⟨t, b⟩ := pq
    have e := par_cut hp
    have e : w = t ++ 47 :: b := e
    have ht : Asc t := asc_sub hw fun c hc => by rw [e]; simp [hc]
    have hb : Asc b := asc_sub hw fun c hc => by rw [e]; simp [hc]
    have lt : t.length ≤ 10000 := by rw [e] at hl; simp at hl; omega
    have lb : b.length ≤ 10000 := by rw [e] at hl; simp at hl; omega
    have e1 : wholeL fg t = none → ratioL fg w = none := fun z => by unfold ratioL; rw [hp]; simp only [z]
    have e2 : wholeL fg b = none → ratioL fg w = none := fun z => by
      unfold ratioL; rw [hp]; simp only [z]
      cases wholeL fg t <;> rfl
    have e3 : ∀ u d : Int, wholeL fg t = some u → wholeL fg b = some d → ratioL fg w = if d < 2 ∨ u.natAbs.gcd d.natAbs ≠ 1 then none else some (u, d) := fun u d z1 z2 => by
      unfold ratioL; rw [hp]; simp only [z1, z2]
    simp [wpx, wpo, wps, k_sl, k_e, l1, par_T, hp, es, bindT]
    refine ⟨n1, ?_⟩
    refine (read_whole_wp (k := k + 1) h ht lt hf).mono ?_ ?_
    · rintro x S' ⟨rfl, u, hu, rfl⟩
      refine (read_whole_wp (k := k + 1) h hb lb hf).mono ?_ ?_
      · rintro y S' ⟨rfl, d, hd, rfl⟩
        have e3 := e3 u d hu hd
        have du := (whole_ok hd).1
        by_cases d2 : d < 2
        · simp [wpx, wpo, wps, d2]
          exact ⟨rfl, by rw [e3, if_pos (.inl d2)], rfl⟩
        · simp [wpx, wpo, wps, d2]
          refine (ratio_wp (k := k) h.hr (a := u) (b := d) (by omega) (big_fig hf du) h.big).imp ?_
          rintro z S' ⟨rfl, rfl⟩
          have eq := eqD_ratT (S := S') (u := u) (d := d) (by omega)
          by_cases hg : u.natAbs.gcd d.natAbs = 1
          · simp [wpx, wpo, wps, eq, hg]
            exact ⟨rfl, u, d, by rw [e3, if_neg (by rintro (z | z); exact d2 z; exact z hg)], rfl⟩
          · simp [wpx, wpo, wps, eq, hg]
            exact ⟨rfl, by rw [e3, if_pos (.inr hg)], rfl⟩
      · rintro c S' ⟨rfl, hn, rfl⟩
        exact ⟨rfl, e2 hn, rfl⟩
    · rintro c S' ⟨rfl, hn, rfl⟩
      exact ⟨rfl, e1 hn, rfl⟩
def tvD (v : Option (Int × Int)) : D := match v with
  | none => .non
  | some p => .tup [.int p.1, .int p.2]
def teD (e : TEnt) : D := .tup [.int e.1, tvD e.2]
def EnR (S : Store) (o : Option TEnt) (x : D) (S' : Store) : Prop := Ext S S' ∧ ∃ e : TEnt, o = some e ∧ x = teD e
def EnE (S : Store) (o : Option TEnt) : XP := fun c S' => Ext S S' ∧ o = none ∧ c = ⟨"NoWord", none⟩
theorem read_entry_wp (h : HRd P F) {w : List Nat} (hw : Asc w) (hl : w.length ≤ 9000) :
    Wp (callN P F (k + 4) "read_entry" [tD w] S) (EnE S (entryL w)) (EnR S (entryL w)) := by
  apply wp_has h.en rfl
  simp only [b_read_entry]
  have l1 : (tx w).length + 2 ≤ lim := by rw [tx_len]; unfold lim; omega
  have n1 : (tx [32]).length ≠ 0 := by rw [tx_len]; decide
  have hE : Ext S (S ++ [.lst ((TL.spl [32] 0 [] w).map tD)]) := Ext.one
  have g : getL (S ++ [.lst ((TL.spl [32] 0 [] w).map tD)]) S.length = some ((TL.spl [32] 0 [] w).map tD) := getL_new
  have em : ((TL.spl [32] 0 [] w).map tx).map D.str = (TL.spl [32] 0 [] w).map tD := by rw [List.map_map]; rfl
  have hj := (spl_cut (c := 32) (w := w) (acc := [])).1
  have no : (TL.spl [32] 0 [] w).length ≠ 2 → entryL w = none := fun z => by
    unfold entryL
    split
    · rename_i p q hs
      rw [hs] at z
      exact absurd rfl z
    · rfl
  simp [wpx, wpo, wps, k_sp, l1, spl_T]
  refine ⟨n1, ?_⟩
  rw [show (List.map (D.str ∘ tx) (TL.spl [32] 0 [] w)) = (TL.spl [32] 0 [] w).map tD from rfl]
  generalize hps : TL.spl [32] 0 [] w = ps at *
  generalize S ++ [.lst (ps.map tD)] = S1 at *
  by_cases h2 : ps.length = 2
  · obtain ⟨p, q, rfl⟩ : ∃ p q, ps = [p, q] := by
      match ps, h2 with
      | [p, q], _ => exact ⟨p, q, rfl⟩
    have hj : p ++ ([32] ++ q) = w := hj
    have hp : Asc p := asc_sub hw fun c hc => by rw [← hj]; simp [hc]
    have hq : Asc q := asc_sub hw fun c hc => by rw [← hj]; simp [hc]
    have lp : p.length ≤ 10000 := by rw [← hj] at hl; simp at hl; omega
    have lq : q.length ≤ 10000 := by rw [← hj] at hl; simp at hl; omega
    have e1 : wholeL 18 p = none → entryL w = none := fun z => by unfold entryL; rw [hps]; simp only [z]
    have e2 : ∀ m, wholeL 18 p = some m → q = gapL → entryL w = some (m, none) := fun m z y => by unfold entryL; rw [hps]; simp only [z, if_pos y]
    have e3 : ∀ m, wholeL 18 p = some m → q ≠ gapL → entryL w = (ratioL 18 q).map fun v => (m, some v) := fun m z y => by unfold entryL; rw [hps]; simp only [z, if_neg y]
    have eg : ∀ S', eqD S' (D.str (tx q)) (D.str (tx gapL)) = some (decide (q = gapL)) := fun S' => eqD_tx hq (asc_lit rfl)
    simp [wpx, wpo, wps, g]
    rw [callN_pf (es := [tD p, .int 18]) h.wh rfl rfl]
    refine (read_whole_wp (k := k + 2) h hp lp (by decide)).mono ?_ ?_
    · rintro x S' ⟨rfl, m, hm, rfl⟩
      by_cases hg : q = gapL
      · simp [wpx, wpo, wps, g, k_gap, eg, decide_eq_true hg]
        exact ⟨hE, _, e2 m hm hg, rfl⟩
      · simp [wpx, wpo, wps, g, k_gap, eg, decide_eq_false hg]
        rw [callN_pf (es := [tD q, .int 18]) h.ra rfl rfl]
        refine (read_ratio_wp (k := k) h hq lq (by decide)).mono ?_ ?_
        · rintro y S' ⟨rfl, u, d, hr, rfl⟩
          exact ⟨hE, (m, some (u, d)), by rw [e3 m hm hg, hr]; rfl, rfl⟩
        · rintro c S' ⟨rfl, hr, rfl⟩
          exact ⟨hE, by rw [e3 m hm hg, hr]; rfl, rfl⟩
    · rintro c S' ⟨rfl, hm, rfl⟩
      exact ⟨hE, e1 hm, rfl⟩
  · have h2i : ¬ (ps.length : Int) = 2 := by omega
    simp [wpx, wpo, wps, g, h2i]
    exact ⟨hE, no h2, rfl⟩
structure HSh (P : Prog) : Prop where
  wh : Has P "whole_word" 1 1 b_whole_word
  ra : Has P "ratio_word" 1 1 b_ratio_word
  row : Has P "show_row" 1 4 b_show_row
theorem log_fig {n : Int} (h : n.natAbs < 10 ^ 18) : n.natAbs.log2 < 1920 := by
  by_cases z : n.natAbs = 0
  · rw [z]; decide
  · have : n.natAbs < 2 ^ 1920 := Nat.lt_of_lt_of_le h (by decide +kernel)
    exact (Nat.log2_lt z).mpr this
theorem str_T {n : Int} (h : n.natAbs < 10 ^ 18) : biop .str [D.int n] S = R.ok (tD (numZ n)) S := by
  rw [bi_strI, if_pos (log_fig h)]
  show R.ok (D.str ((toString n : String) : Str)) S = _
  rw [str_num]
theorem whole_word_e (h : HSh P) {n : Int} (hn : n.natAbs < 10 ^ 18) : callN P F (k + 1) "whole_word" [.int n] S = .ok (tD (numZ n)) S := by
  refine eq_of_wp ?_
  apply wp_has h.wh rfl
  simp only [b_whole_word]
  simp [wpx, wpo, wps, str_T hn]
theorem fs_T {u d : Int} (hu : u.natAbs < 10 ^ 18) (hd : d.natAbs < 10 ^ 18) : x2Ok (.fs "/") (D.int u) S = true ∧ x2R (.fs "/") (D.int u) (D.int d) S = R.ok (tD (numZ u ++ 47 :: numZ d)) S := by
  have lu := numZ_len (k := 18) (by decide) hu
  have ld := numZ_len (k := 18) (by decide) hd
  have eu : (toString u : Str) = tx (numZ u) := str_num u
  have ed : (toString d : Str) = tx (numZ d) := str_num d
  have e1 : (("/" : Str)).length = 1 := rfl
  constructor
  · rw [x2_fs, eu]
    refine decide_eq_true ⟨log_fig hu, ?_⟩
    rw [tx_len, e1]
    unfold lim; omega
  · rw [x2R_fs, eu, ed, if_pos ⟨log_fig hu, log_fig hd, by rw [tx_len, tx_len]; show (numZ u).length + 1 + (numZ d).length ≤ lim; unfold lim; omega⟩, k_sl, tx_cat, tx_cat]
    simp
theorem ratio_word_e (h : HSh P) {u d : Int} (hu : u.natAbs < 10 ^ 18) (hd : d.natAbs < 10 ^ 18) : callN P F (k + 1) "ratio_word" [.tup [.int u, .int d]] S = .ok (tD (wordL (u, d))) S := by
  refine eq_of_wp ?_
  apply wp_has h.ra rfl
  simp only [b_ratio_word]
  have i0 : seqOf S (.tup [.int u, .int d]) = some [.int u, .int d] := rfl
  by_cases h1 : d = 1
  · have e : wordL (u, d) = numZ u := by unfold wordL; rw [if_pos h1]
    rw [e]
    simp [wpx, wpo, wps, i0, h1, str_T hu]
  · have e : wordL (u, d) = numZ u ++ 47 :: numZ d := by unfold wordL; rw [if_neg h1]
    rw [e]
    obtain ⟨f1, f2⟩ := fs_T (S := S) hu hd
    simp [wpx, wpo, wps, i0, h1, f1, f2]
theorem wordL_len {u d : Int} (hu : u.natAbs < 10 ^ 18) (hd : d.natAbs < 10 ^ 18) : (wordL (u, d)).length ≤ 40 := by
  have lu := numZ_len (k := 18) (by decide) hu
  have ld := numZ_len (k := 18) (by decide) hd
  unfold wordL
  split
  · simp; omega
  · simp; omega
theorem lineL_len {e : TEnt} (h : TOk e) : (lineL e).length ≤ 60 := by
  obtain ⟨m, v⟩ := e
  have lu : (numZ m).length ≤ 19 := numZ_len (k := 18) (by decide) h.1
  unfold lineL
  cases v with
  | none => simp [valT, gapL]; omega
  | some p =>
    obtain ⟨u, d⟩ := p
    obtain ⟨a, b, _⟩ := h.2 u d rfl
    have := wordL_len a b
    simp [valT]; omega
theorem te_seq {S : Store} {e : TEnt} : seqOf S (teD e) = some [.int e.1, tvD e.2] := rfl
def SwI (r : Nat) (es : List TEnt) (S : Store) (i : Nat) (e : Env) (S2 : Store) : Prop := S2 = S ++ [.lst (((es.take i).map lineL).map tD)] ∧ ∃ x2 x3, e = [some (.ref r), some (.ref S.length), x2, x3]
theorem show_row_wp (h : HSh P) {r : Nat} {es : List TEnt} (hr : getL S r = some (es.map teD)) (ho : ∀ e ∈ es, TOk e) (hl : es.length ≤ 1000) :
    Wp (callN P F (k + 2) "show_row" [.ref r] S) E fun x S' => x = .ref S.length ∧ S' = S ++ [.lst ((es.map lineL).map tD)] := by
  apply wp_has h.row rfl
  simp only [b_show_row]
  simp [wpx, wpo, wps]
  refine for_seq (xs := es.map teD) (SwI r es S) (Ext.one.getL hr) ⟨rfl, _, _, rfl⟩ ?_ ?_
  · rintro i x e S2 hx hi ⟨rfl, x2, x3, rfl⟩
    obtain ⟨c, hc, rfl⟩ := map_get hx
    refine ⟨Ext.one.getL hr, _, bind_two (by simp), ?_⟩
    have hok := ho c (List.mem_of_getElem? hc)
    have tk : es.take (i + 1) = es.take i ++ [c] := by rw [List.take_succ, hc]; rfl
    have g : getL (S ++ [.lst (((es.take i).map lineL).map tD)]) S.length = some (((es.take i).map lineL).map tD) := getL_new
    have hll := lineL_len hok
    have hlim : min i es.length < lim := by unfold lim; omega
    obtain ⟨m, v⟩ := c
    have lm : (numZ m).length ≤ 19 := numZ_len (k := 18) (by decide) hok.1
    cases v with
    | none =>
      have e1 : lineL (m, none) = numZ m ++ 32 :: gapL := rfl
      have z1 : isN (tvD none) = true := rfl
      have q1 : (numZ m).length + (32 :: gapL).length ≤ lim := by unfold lim; simp [gapL]; omega
      simp [wpx, wpo, wps, z1, whole_word_e h hok.1, k_sgap, bo_addT, q1, g, hlim]
      refine ⟨by unfold lim; simp [gapL]; omega, ?_, _, _, rfl⟩
      rw [tk]
      simp [e1]
    | some p =>
      obtain ⟨u, d⟩ := p
      obtain ⟨a, b, _⟩ := hok.2 u d rfl
      have lw := wordL_len a b
      have e1 : lineL (m, some (u, d)) = numZ m ++ 32 :: wordL (u, d) := rfl
      have z1 : isN (tvD (some (u, d))) = false := rfl
      have z2 : tvD (some (u, d)) = .tup [.int u, .int d] := rfl
      have q1 : (numZ m).length + [32].length ≤ lim := by unfold lim; simp; omega
      have q2 : (numZ m ++ [32]).length + (wordL (u, d)).length ≤ lim := by unfold lim; simp; omega
      simp [wpx, wpo, wps, z1, z2, whole_word_e h hok.1, ratio_word_e h a b, k_sp, bo_addT, q1, q2, g, hlim]
      refine ⟨by unfold lim; omega, by unfold lim; omega, ?_, _, _, rfl⟩
      rw [tk]
      simp [e1]
  · rintro e S2 ⟨rfl, x2, x3, rfl⟩
    refine ⟨Ext.one.getL hr, ?_⟩
    rw [List.take_of_length_le (by simp)]
    simp [wpx, wpo, wps]
end
end Lt
set_option maxRecDepth 100000
set_option maxHeartbeats 2000000
namespace LawP
set_option exponentiation.threshold 9000
open Lt LawT
open PySem (Str)
def fuel : Nat := BIG
theorem hF : BIG ≤ fuel := Nat.le_refl _
theorem hRd : HRd prog fuel := ⟨hF, ⟨lk_common, lk_ratio⟩, ⟨_, _, lk_read_whole, rfl, rfl⟩, ⟨_, _, lk_read_ratio, rfl, rfl⟩, ⟨_, _, lk_read_entry, rfl, rfl⟩, by kernel_rfl⟩
theorem hSh : HSh prog := ⟨⟨_, _, lk_whole_word, rfl, rfl⟩, ⟨_, _, lk_ratio_word, rfl, rfl⟩, ⟨_, _, lk_show_row, rfl, rfl⟩⟩
section
variable {k : Nat} {S : Store} {E : XP}
def oiD (o : Option Int) : D := match o with
  | some n => .int n
  | none => .non
def WdR (S : Store) (o : Option Int) (x : D) (S' : Store) : Prop := S' = S ∧ x = oiD o
def DwI (w : List Nat) (fg : Int) (S : Store) (i : Nat) (e : Env) (S2 : Store) : Prop := S2 = S ∧ (∃ x3, e = [some (tD w), some (.int fg), some (tD (plainL w)), x3]) ∧ ((plainL w).take i).all dgB = true
theorem whole_due_wp {w : List Nat} {fg : Nat} (hw : Asc w) (hl : w.length ≤ 10000) (hf : fg ≤ 600) :
    Wp (callN prog fuel (k + 1) "_law_whole_due" [tD w, .int fg] S) E (WdR S (wholeL fg w)) := by
  apply wp_callN lk__law_whole_due rfl
  simp only [d__law_whole_due]
  have l1 : (tx w).length ≤ lim := by rw [tx_len]; unfold lim; omega
  have ap : Asc (plainL w) := by
    unfold plainL
    split
    · exact asc_sub hw fun c hc => List.mem_of_mem_drop hc
    · exact hw
  have a1 : Asc (w.take 1) := asc_sub hw fun c hc => List.mem_of_mem_take hc
  have am : Asc [45] := asc_lit rfl
  have a0 : Asc [48] := asc_lit rfl
  have ae : Asc [] := fun c hc => by cases hc
  have key : ∀ x3, WpS (exB (prog.cx fuel (callN prog fuel k)) (d__law_whole_due.body.drop 2) [some (tD w), some (.int fg), some (tD (plainL w)), x3] S) { nx := fun _ _ => False, rt := WdR S (wholeL fg w), ex := fun c _ S' => E c S' } := by
    intro x3
    simp only [d__law_whole_due, List.drop]
    have fire : (plainL w = [] ∨ fg < (plainL w).length) ∨ (plainL w).all dgB = false ∨ ((plainL w).head? = some 48 ∧ w ≠ [48]) → WdR S (wholeL fg w) .non S := fun z => by
      refine ⟨rfl, ?_⟩
      have : wholeL fg w = none := ?_
      · rw [this]; rfl
      unfold wholeL
      by_cases z1 : plainL w = [] ∨ fg < (plainL w).length
      · rw [if_pos z1]
      rw [if_neg z1]
      by_cases z2 : (plainL w).all dgB = false
      · rw [if_pos z2]
      rw [if_neg z2]
      rcases z with z | z | z
      · exact absurd z z1
      · exact absurd z z2
      · rw [if_pos z]
    have rest : ¬ (plainL w = [] ∨ fg < (plainL w).length) → WpS (exB (prog.cx fuel (callN prog fuel k)) (d__law_whole_due.body.drop 3) [some (tD w), some (.int fg), some (tD (plainL w)), x3] S) { nx := fun _ _ => False, rt := WdR S (wholeL fg w), ex := fun c _ S' => E c S' } := by
      intro hne
      simp only [d__law_whole_due, List.drop]
      simp [wpx, wpo, wps]
      refine for_txt (DwI w fg S) ⟨rfl, ⟨x3, rfl⟩, rfl⟩ ?_ ?_
      · rintro i c e S2 hc ⟨rfl, ⟨y3, rfl⟩, hall⟩
        refine ⟨_, bind_name (by simp), ?_⟩
        have tk : (plainL w).take (i + 1) = (plainL w).take i ++ [c] := by rw [List.take_succ, hc]; rfl
        simp [wpx, wpo, wps, cm_notinT, k_fig, in_fig]
        cases hd : dgB c with
        | true =>
          simp [wpx, wpo, wps]
          exact ⟨rfl, ⟨_, rfl⟩, by rw [tk, List.all_append, hall]; simp [hd]⟩
        | false =>
          simp [wpx, wpo, wps]
          exact fire (.inr (.inl (by
            cases hz : (plainL w).all dgB with
            | false => rfl
            | true => have := List.all_eq_true.mp hz c (List.mem_of_getElem? hc); rw [hd] at this; cases this)))
      · rintro e S2 ⟨rfl, ⟨y3, rfl⟩, hall⟩
        rw [List.take_length] at hall
        have hn2 : plainL w ≠ [] := fun z => hne (.inl z)
        obtain ⟨c, r, hcr⟩ : ∃ c r, plainL w = c :: r := by
          cases hp : plainL w with
          | nil => exact absurd hp hn2
          | cons c r => exact ⟨c, r, rfl⟩
        have hpl : (plainL w).length ≤ w.length := by
          unfold plainL
          split
          · simp
          · exact Nat.le_refl _
        have hlw : w.length ≤ (plainL w).length + 1 := by
          unfold plainL
          split
          · simp; omega
          · omega
        have hpf : (plainL w).length ≤ fg := by
          rcases Nat.lt_or_ge fg (plainL w).length with z | z
          · exact absurd (.inr z) hne
          · exact z
        have e0 : ∀ S', eqD S' (D.str (tx [c])) (D.str (tx [48])) = some (decide (c = 48)) := fun S' => by
          rw [eqD_tx (fun d hd => by rw [List.mem_singleton] at hd; subst hd; exact ap d (by rw [hcr]; simp)) a0]
          congr 1
          simp
        have ew : ∀ S', eqD S' (D.str (tx w)) (D.str (tx [48])) = some (decide (w = [48])) := fun S' => eqD_tx hw a0
        have rd : biop .int [D.str (tx w)] S2 = .ok (.int (valL w)) S2 := by
          rw [bi_intS, if_pos (by rw [tx_len]; omega), int_valL hn2 hall (by omega)]
        have it := item0_T (S := S2) (a := plainL w) (by omega) hcr
        have hh : (plainL w).head? = some c := by rw [hcr]; rfl
        have good : ¬ (c = 48 ∧ w ≠ [48]) → WdR S2 (wholeL fg w) (.int (valL w)) S2 := fun z => by
          refine ⟨rfl, ?_⟩
          have : wholeL fg w = some (valL w) := ?_
          · rw [this]; rfl
          unfold wholeL
          rw [if_neg hne, if_neg (by rw [hall]; decide), if_neg]
          rintro ⟨y1, y2⟩
          rw [hh] at y1
          cases y1
          exact z ⟨rfl, y2⟩
        by_cases c0 : c = 48
        · subst c0
          have e0 : ∀ S', eqD S' (D.str (tx [48])) (D.str (tx [48])) = some true := fun S' => by rw [e0]; rfl
          by_cases w0 : w = [48]
          · have g := good fun z => z.2 w0
            simp [wpx, wpo, wps, it, sign_tx, k_0, e0, ew, decide_eq_true w0, rd]
            exact g
          · simp [wpx, wpo, wps, it, sign_tx, k_0, e0, ew, decide_eq_false w0]
            exact fire (.inr (.inr ⟨hh, w0⟩))
        · simp [wpx, wpo, wps, it, sign_tx, k_0, e0, c0, rd]
          exact good fun z => c0 z.1
    simp only [d__law_whole_due, List.drop] at rest
    have ep : ∀ S', eqD S' (D.str (tx (plainL w))) (D.str (tx [])) = some (decide (plainL w = [])) := fun S' => eqD_tx ap ae
    have hpl : (plainL w).length ≤ w.length := by
      unfold plainL
      split
      · simp
      · exact Nat.le_refl _
    have lp : (plainL w).length ≤ lim := by unfold lim; omega
    by_cases h1 : plainL w = []
    · simp [wpx, wpo, wps, k_e, ep, decide_eq_true h1]
      exact fire (.inl (.inl h1))
    · by_cases h2 : fg < (plainL w).length
      · simp [wpx, wpo, wps, k_e, ep, decide_eq_false h1, bi_lenT, lp, h2]
        exact fire (.inl (.inr h2))
      · have := rest fun z => z.elim h1 h2
        simp [wpx, wpo, wps, k_e, ep, decide_eq_false h1, bi_lenT, lp, h2] at this ⊢
        exact this
  simp only [d__law_whole_due, List.drop] at key
  have e1 : ∀ S', eqD S' (D.str (tx (w.take 1))) (D.str (tx [45])) = some (decide (w.take 1 = [45])) := fun S' => eqD_tx a1 am
  by_cases hm : w.take 1 = [45]
  · have ep : plainL w = w.drop 1 := by unfold plainL; rw [if_pos hm]
    have := key none
    rw [ep] at this
    simp [wpx, wpo, wps, slcR_str, l1, slc_T1, slc_F1, k_m, e1, decide_eq_true hm] at this ⊢
    exact this
  · have ep : plainL w = w := by unfold plainL; rw [if_neg hm]
    have := key none
    rw [ep] at this
    simp [wpx, wpo, wps, slcR_str, l1, slc_T1, slc_F1, k_m, e1, decide_eq_false hm] at this ⊢
    exact this
def oqD (o : Option (Int × Int)) : D := match o with
  | some p => .tup [.int p.1, .int p.2]
  | none => .non
def oeD (o : Option TEnt) : D := match o with
  | some e => teD e
  | none => .non
theorem isN_oi {n : Int} : isN (.int n) = false := rfl
theorem ratio_due_wp {w : List Nat} {fg : Nat} (hw : Asc w) (hl : w.length ≤ 10000) (hf : fg ≤ 600) :
    Wp (callN prog fuel (k + 2) "_law_ratio_due" [tD w, .int fg] S) E fun x S' => S' = S ∧ x = oqD (ratioL fg w) := by
  apply wp_callN lk__law_ratio_due rfl
  simp only [d__law_ratio_due]
  have l1 : (tx w).length ≤ lim := by rw [tx_len]; unfold lim; omega
  have a0 : Asc [] := fun c hc => by cases hc
  have as : Asc [47] := asc_lit rfl
  have n1 : (tx [47]).length ≠ 0 := by rw [tx_len]; decide
  have ee : ∀ S', eqD S' (D.str (tx [])) (D.str (tx [])) = some true := fun S' => by rw [eqD_tx a0 a0]; rfl
  have es : ∀ S', eqD S' (D.str (tx [47])) (D.str (tx [])) = some false := fun S' => by rw [eqD_tx as a0]; rfl
  have nn : isN D.non = true := rfl
  cases hp : TL.par [47] [] w with
  | none =>
    have er : ratioL fg w = (wholeL fg w).map fun n => (n, 1) := by unfold ratioL; rw [hp]
    simp [wpx, wpo, wps, k_sl, k_e, l1, par_T, hp, ee, bindT]
    refine ⟨n1, ?_⟩
    refine (whole_due_wp (k := k) hw hl hf).imp ?_
    rintro x S' ⟨rfl, rfl⟩
    cases hn : wholeL fg w with
    | none =>
      rw [er, hn]
      simp [wpx, wpo, wps, oiD, nn]
      rfl
    | some n =>
      rw [er, hn]
      simp [wpx, wpo, wps, oiD, isN_oi]
      rfl
  | some pq =>
    obtain ⟨t, b⟩ := pq
    have e : w = t ++ 47 :: b := par_cut hp
    have ht : Asc t := asc_sub hw fun c hc => by rw [e]; simp [hc]
    have hb : Asc b := asc_sub hw fun c hc => by rw [e]; simp [hc]
    have lt : t.length ≤ 10000 := by rw [e] at hl; simp at hl; omega
    have lb : b.length ≤ 10000 := by rw [e] at hl; simp at hl; omega
    have e1 : wholeL fg t = none → ratioL fg w = none := fun z => by unfold ratioL; rw [hp]; simp only [z]
    have e2 : wholeL fg b = none → ratioL fg w = none := fun z => by
      unfold ratioL; rw [hp]; simp only [z]
      cases wholeL fg t <;> rfl
    have e3 : ∀ u d : Int, wholeL fg t = some u → wholeL fg b = some d → ratioL fg w = if d < 2 ∨ u.natAbs.gcd d.natAbs ≠ 1 then none else some (u, d) := fun u d z1 z2 => by
      unfold ratioL; rw [hp]; simp only [z1, z2]
    simp [wpx, wpo, wps, k_sl, k_e, l1, par_T, hp, es, bindT]
    refine ⟨n1, ?_⟩
    refine (whole_due_wp (k := k) ht lt hf).imp ?_
    rintro x S' ⟨rfl, rfl⟩
    refine (whole_due_wp (k := k) hb lb hf).imp ?_
    rintro y S' ⟨rfl, rfl⟩
    cases hu : wholeL fg t with
    | none =>
      rw [e1 hu]
      simp [wpx, wpo, wps, oiD, nn]
      rfl
    | some u =>
      cases hd : wholeL fg b with
      | none =>
        rw [e2 hd]
        simp [wpx, wpo, wps, oiD, nn, isN_oi]
        rfl
      | some d =>
        have e3 := e3 u d hu hd
        have du := (whole_ok hd).1
        by_cases d2 : d < 2
        · have e4 : ratioL fg w = none := by rw [e3, if_pos (.inl d2)]
          rw [e4]
          simp [wpx, wpo, wps, oiD, isN_oi, d2]
          rfl
        · simp [wpx, wpo, wps, oiD, isN_oi, d2]
          refine (law_ratio_wp (k := k) lk__law_ratio (a := u) (b := d) (by omega) (big_fig hf du) hF).imp ?_
          rintro z S' ⟨rfl, rfl⟩
          have eq := eqD_ratT (S := S') (u := u) (d := d) (by omega)
          by_cases hg : u.natAbs.gcd d.natAbs = 1
          · have e4 : ratioL fg w = some (u, d) := by rw [e3, if_neg (by rintro (z | z); exact d2 z; exact z hg)]
            rw [e4]
            simp [wpx, wpo, wps, eq, hg]
            rfl
          · have e4 : ratioL fg w = none := by rw [e3, if_pos (.inr hg)]
            rw [e4]
            simp [wpx, wpo, wps, eq, hg]
            rfl
theorem entry_due_wp {w : List Nat} (hw : Asc w) (hl : w.length ≤ 9000) :
    Wp (callN prog fuel (k + 3) "_law_entry_due" [tD w] S) E fun x S' => Ext S S' ∧ x = oeD (entryL w) := by
  apply wp_callN lk__law_entry_due rfl
  simp only [d__law_entry_due]
  have nn : isN D.non = true := rfl
  have l1 : (tx w).length + 2 ≤ lim := by rw [tx_len]; unfold lim; omega
  have n1 : (tx [32]).length ≠ 0 := by rw [tx_len]; decide
  have hE : Ext S (S ++ [.lst ((TL.spl [32] 0 [] w).map tD)]) := Ext.one
  have g : getL (S ++ [.lst ((TL.spl [32] 0 [] w).map tD)]) S.length = some ((TL.spl [32] 0 [] w).map tD) := getL_new
  have hj := (spl_cut (c := 32) (w := w) (acc := [])).1
  have no : (TL.spl [32] 0 [] w).length ≠ 2 → entryL w = none := fun z => by
    unfold entryL
    split
    · rename_i p q hs
      rw [hs] at z
      exact absurd rfl z
    · rfl
  simp [wpx, wpo, wps, k_sp, l1, spl_T]
  refine ⟨n1, ?_⟩
  rw [show (List.map (D.str ∘ tx) (TL.spl [32] 0 [] w)) = (TL.spl [32] 0 [] w).map tD from rfl]
  generalize hps : TL.spl [32] 0 [] w = ps at *
  generalize S ++ [.lst (ps.map tD)] = S1 at *
  by_cases h2 : ps.length = 2
  · obtain ⟨p, q, rfl⟩ : ∃ p q, ps = [p, q] := by
      match ps, h2 with
      | [p, q], _ => exact ⟨p, q, rfl⟩
    have hj : p ++ ([32] ++ q) = w := hj
    have hp : Asc p := asc_sub hw fun c hc => by rw [← hj]; simp [hc]
    have hq : Asc q := asc_sub hw fun c hc => by rw [← hj]; simp [hc]
    have lp : p.length ≤ 10000 := by rw [← hj] at hl; simp at hl; omega
    have lq : q.length ≤ 10000 := by rw [← hj] at hl; simp at hl; omega
    have e1 : wholeL 18 p = none → entryL w = none := fun z => by unfold entryL; rw [hps]; simp only [z]
    have e2 : ∀ m, wholeL 18 p = some m → q = gapL → entryL w = some (m, none) := fun m z y => by unfold entryL; rw [hps]; simp only [z, if_pos y]
    have e3 : ∀ m, wholeL 18 p = some m → q ≠ gapL → entryL w = (ratioL 18 q).map fun v => (m, some v) := fun m z y => by unfold entryL; rw [hps]; simp only [z, if_neg y]
    have eg : ∀ S', eqD S' (D.str (tx q)) (D.str (tx gapL)) = some (decide (q = gapL)) := fun S' => eqD_tx hq (asc_lit rfl)
    simp [wpx, wpo, wps, g]
    refine (whole_due_wp (k := k + 1) (fg := 18) hp lp (by decide)).imp ?_
    rintro x S' ⟨rfl, rfl⟩
    cases hm : wholeL 18 p with
    | none =>
      rw [e1 hm]
      simp [wpx, wpo, wps, oiD, nn]
      exact ⟨hE, rfl⟩
    | some m =>
      by_cases hg : q = gapL
      · rw [e2 m hm hg]
        simp [wpx, wpo, wps, oiD, isN_oi, g, k_gap, eg, decide_eq_true hg]
        exact ⟨hE, rfl⟩
      · rw [e3 m hm hg]
        simp [wpx, wpo, wps, oiD, isN_oi, g, k_gap, eg, decide_eq_false hg]
        refine (ratio_due_wp (k := k) (fg := 18) hq lq (by decide)).imp ?_
        rintro y S' ⟨rfl, rfl⟩
        cases hr : ratioL 18 q with
        | none =>
          simp [wpx, wpo, wps, oqD, nn]
          exact ⟨hE, rfl⟩
        | some v =>
          have nv : isN (.tup [.int v.1, .int v.2]) = false := rfl
          simp [wpx, wpo, wps, oqD, nv]
          exact ⟨hE, rfl⟩
  · have h2i : ¬ (ps.length : Int) = 2 := by omega
    rw [no h2]
    simp [wpx, wpo, wps, g, h2i]
    exact ⟨hE, rfl⟩
theorem good_all {ls : List (List Nat)} (h : ∀ i, i < ls.length → ¬ badT ls i) {l : List Nat} (hl : l ∈ ls) : entryL l = some (entD? l) := by
  obtain ⟨i, hi, rfl⟩ := List.getElem_of_mem hl
  exact good_entry (h i hi) (List.getElem?_eq_getElem hi)
def ReE (S : Store) (ls : List (List Nat)) : XP := fun c S' => Ext S S' ∧ ∃ n : Nat, n < ls.length ∧ FirstT ls n ∧ c = ⟨"NoLine", some (.int n)⟩
def ReI (r : Nat) (ls : List (List Nat)) (S : Store) (i : Nat) (e : Env) (S2 : Store) : Prop := Ext S S2 ∧ getL S2 S.length = some (((ls.take i).map entD?).map teD) ∧ (∃ x2 x3 x4, e = [some (.ref r), some (.ref S.length), x2, x3, x4]) ∧ ∀ j, j < i → ¬ badT ls j
theorem read_row_wp {r : Nat} {ls : List (List Nat)} (hr : getL S r = some (ls.map tD)) (ha : ∀ l ∈ ls, Asc l ∧ l.length ≤ 9000) (hl : ls.length ≤ 1000) :
    Wp (callN prog fuel (k + 5) "read_row" [.ref r] S) (ReE S ls) fun x S' => FirstT ls ls.length ∧ x = .ref S.length ∧ Ext S S' ∧ getL S' S.length = some ((ls.map entD?).map teD) := by
  apply wp_callN lk_read_row rfl
  simp only [d_read_row]
  simp [wpx, wpo, wps]
  refine for_lst (xs := ls.map tD) (ReI r ls S) (fun i hi => hi) (by rw [lstOf_ref]; exact Ext.one.getL hr) ⟨Ext.one, getL_new, ⟨_, _, _, rfl⟩, fun j hj => absurd hj (Nat.not_lt_zero _)⟩ ?_ ?_
  · rintro i y e S2 hy hi ⟨hE, g, ⟨x2, x3, x4, rfl⟩, hb⟩
    obtain ⟨c, hc, rfl⟩ := map_get hy
    have hil := (List.getElem?_eq_some_iff.mp hc).1
    obtain ⟨ac, lc⟩ := ha c (List.mem_of_getElem? hc)
    refine ⟨by rw [lstOf_ref]; exact hE.getL hr, _, bind_two (by simp), ?_⟩
    have fire : ∀ S3, Ext S S3 → badT ls i → ReE S ls ⟨"NoLine", some (.int i)⟩ S3 := fun S3 h3 h => ⟨h3, i, hil, ⟨Nat.le_of_lt hil, hb, fun _ => h⟩, rfl⟩
    simp [wpx, wpo, wps]
    refine (read_entry_wp (k := k) hRd ac lc).mono ?_ ?_
    · rintro x S3 ⟨h3, en, hen, rfl⟩
      have g3 := h3.getL g
      have hE3 := hE.trans h3
      by_cases h40 : (40 : Int) ≤ (i : Int)
      · simp [wpx, wpo, wps, ev_gx, cx_gx, show prog.glob.lookup ("MOST" : Str) = some (.int 40) from by kernel_rfl, gxR_some, h40]
        exact fire _ hE3 (.inl (by omega))
      · have hent : entD? c = en := by unfold entD?; rw [hen]; rfl
        have tk : ((ls.take (i + 1)).map entD?).map teD = ((ls.take i).map entD?).map teD ++ [teD en] := by rw [List.take_succ, hc, Option.toList]; simp [hent]
        have hlim : min i ls.length < lim := by unfold lim; omega
        have h0 : S.length < S3.length := getL_lt g3
        have fin : ¬ badT ls i → ∀ x4, ReI r ls S (i + 1) [some (.ref r), some (.ref S.length), some (.int i), some (tD c), x4] (S3.set S.length (.lst (((ls.take i).map entD?).map teD ++ [teD en]))) := fun hbi x4 => by
          refine ⟨hE3.set (Nat.le_refl _), by rw [getL_set h0, tk], ⟨_, _, _, rfl⟩, fun j hj => ?_⟩
          by_cases hji : j = i
          · subst hji; exact hbi
          · exact hb j (by omega)
        have notb : (¬ ∃ l l' e f, 0 < i ∧ ls[i]? = some l ∧ ls[i - 1]? = some l' ∧ entryL l = some e ∧ entryL l' = some f ∧ e.1 ≤ f.1) → ¬ badT ls i := fun z => by
          rintro (y | ⟨l, y1, y2⟩ | y)
          · omega
          · rw [hc] at y1; cases y1; rw [hen] at y2; cases y2
          · exact z y
        by_cases hi0 : i = 0
        · subst hi0
          have := fin (notb (by rintro ⟨_, _, _, _, z, _⟩; omega))
          have hg0 : (min (0 : Nat) ls.length) = 0 := by omega
          simp [wpx, wpo, wps, ev_gx, cx_gx, show prog.glob.lookup ("MOST" : Str) = some (.int 40) from by kernel_rfl, gxR_some, g3] at this ⊢
          exact ⟨by unfold lim; decide, this _⟩
        · have hi1 : 0 < min i ls.length := by omega
          obtain ⟨c', hc'⟩ : ∃ c', ls[i - 1]? = some c' := ⟨_, List.getElem?_eq_getElem (by omega)⟩
          have he' := good_entry (hb (i - 1) (by omega)) hc'
          have hm1 : min i ls.length - 1 = i - 1 := by rw [Nat.min_eq_left (Nat.le_of_lt hil)]
          have hlast : (((ls.take i).map entD?).map teD).getLast? = some (teD (entD? c')) := by
            rw [List.getLast?_eq_getElem?, List.getElem?_map, List.getElem?_map, List.length_map, List.length_map, List.length_take, hm1, List.getElem?_take_of_lt (by omega), hc']; rfl
          have il : ∀ S', itemR (some (((ls.take i).map entD?).map teD)) (-1) S' = .ok (teD (entD? c')) S' := fun S' => itemR_last hlast
          have il2 : ∀ S', itemR (some (List.take i (List.map (teD ∘ entD?) ls))) (-1) S' = .ok (teD (entD? c')) S' := fun S' => by
            have := il S'
            simpa [List.map_map, List.map_take] using this
          by_cases hle : en.1 ≤ (entD? c').1
          · simp only [List.map_map] at il g3
            simp [wpx, wpo, wps, ev_gx, cx_gx, show prog.glob.lookup ("MOST" : Str) = some (.int 40) from by kernel_rfl, gxR_some, h40, g3, hi1, il2, te_seq, hle]
            exact fire _ hE3 (.inr (.inr ⟨c, c', en, _, by omega, hc, hc', hen, he', hle⟩))
          · have := fin (notb (by
              rintro ⟨l, l', e, f, _, y1, y2, y3, y4, y5⟩
              rw [hc] at y1; cases y1
              rw [hc'] at y2; cases y2
              rw [hen] at y3; cases y3
              rw [he'] at y4; cases y4
              exact hle y5))
            simp [wpx, wpo, wps, ev_gx, cx_gx, show prog.glob.lookup ("MOST" : Str) = some (.int 40) from by kernel_rfl, gxR_some, h40, g3, hi1, il2, te_seq, hle, hlim] at this ⊢
            exact this _
    · rintro c' S3 ⟨h3, hn, rfl⟩
      left
      refine ⟨rfl, ?_⟩
      exact fire _ (hE.trans h3) (.inr (.inl ⟨c, hc, hn⟩))
  · rintro e S2 ⟨hE, g, ⟨x2, x3, x4, rfl⟩, hb⟩
    refine ⟨by rw [lstOf_ref]; exact hE.getL hr, ?_⟩
    rw [List.length_map] at hb
    rw [List.take_of_length_le (by simp)] at g
    simp [wpx, wpo, wps]
    exact ⟨⟨Nat.le_refl _, hb, fun h => absurd h (Nat.lt_irrefl _)⟩, hE, by simpa using g⟩
def WgI (r : Nat) (ls : List (List Nat)) (S : Store) (i : Nat) (e : Env) (S2 : Store) : Prop := Ext S S2 ∧ (∃ a x2 x3, e = [some (.ref r), some a, x2, x3] ∧ ((i = 0 ∧ a = .non) ∨ ∃ l f, 0 < i ∧ ls[i - 1]? = some l ∧ entryL l = some f ∧ a = .int f.1)) ∧ ∀ j, j < i → ¬ badT ls j
theorem wrong_wp {r : Nat} {ls : List (List Nat)} (hr : getL S r = some (ls.map tD)) (ha : ∀ l ∈ ls, Asc l ∧ l.length ≤ 9000) (hl : ls.length ≤ 1000) :
    Wp (callN prog fuel (k + 4) "_law_wrong" [.ref r] S) E fun x S' => Ext S S' ∧ ∃ n, FirstT ls n ∧ x = if n < ls.length then .int (n : Int) else .non := by
  apply wp_callN lk__law_wrong rfl
  simp only [d__law_wrong]
  simp [wpx, wpo, wps, hr]
  refine for_rng (WgI r ls S) (by omega) (by omega) (by omega) (by omega) ⟨Ext.refl, ⟨.non, _, _, rfl, .inl ⟨rfl, rfl⟩⟩, fun j hj => absurd hj (Nat.not_lt_zero _)⟩ ?_ ?_
  · rintro i e S2 hi ⟨hE, ⟨a, x2, x3, rfl, hav⟩, hb⟩
    have hil : i < ls.length := by omega
    obtain ⟨c, hc⟩ : ∃ c, ls[i]? = some c := ⟨_, List.getElem?_eq_getElem hil⟩
    obtain ⟨ac, lc⟩ := ha c (List.mem_of_getElem? hc)
    have it : ∀ S', itemR (some (ls.map tD)) (i : Int) S' = .ok (tD c) S' := fun S' => itemR_nat (by rw [List.getElem?_map, hc]; rfl)
    have fire : ∀ S3, Ext S S3 → badT ls i → Ext S S3 ∧ ∃ n, FirstT ls n ∧ D.int (i : Int) = if n < ls.length then .int (n : Int) else .non := fun S3 h3 h => ⟨h3, i, ⟨Nat.le_of_lt hil, hb, fun _ => h⟩, by rw [if_pos hil]⟩
    refine ⟨_, bind_name (by simp), ?_⟩
    simp [wpx, wpo, wps, hE.getL hr, it]
    refine (entry_due_wp (k := k) ac lc).imp ?_
    rintro x S3 ⟨h3, rfl⟩
    have hE3 := hE.trans h3
    have nn : isN D.non = true := rfl
    cases hen : entryL c with
    | none =>
      simp [wpx, wpo, wps, oeD, nn]
      exact fire _ hE3 (.inr (.inl ⟨c, hc, hen⟩))
    | some en =>
      have ne : isN (teD en) = false := rfl
      by_cases h40 : (40 : Int) ≤ (i : Int)
      · simp [wpx, wpo, wps, oeD, ne, h40]
        exact fire _ hE3 (.inl (by omega))
      have notb : (¬ ∃ l l' e f, 0 < i ∧ ls[i]? = some l ∧ ls[i - 1]? = some l' ∧ entryL l = some e ∧ entryL l' = some f ∧ e.1 ≤ f.1) → ¬ badT ls i := fun z => by
        rintro (y | ⟨l, y1, y2⟩ | y)
        · omega
        · rw [hc] at y1; cases y1; rw [hen] at y2; cases y2
        · exact z y
      have fin : ¬ badT ls i → ∀ x2 x3, WgI r ls S (i + 1) [some (.ref r), some (.int en.1), x2, x3] S3 := fun hbi x2 x3 => by
        refine ⟨hE3, ⟨_, _, _, rfl, .inr ⟨c, en, by omega, by simpa using hc, hen, rfl⟩⟩, fun j hj => ?_⟩
        by_cases hji : j = i
        · subst hji; exact hbi
        · exact hb j (by omega)
      rcases hav with ⟨rfl, rfl⟩ | ⟨l, f, hp, y2, y4, rfl⟩
      · simp [wpx, wpo, wps, oeD, ne, nn, te_seq]
        exact fin (notb (by rintro ⟨_, _, _, _, z, _⟩; omega)) _ _
      · by_cases hle : en.1 ≤ f.1
        · simp [wpx, wpo, wps, oeD, ne, isN_oi, h40, te_seq, hle]
          exact fire _ hE3 (.inr (.inr ⟨c, l, en, f, hp, hc, y2, hen, y4, hle⟩))
        · simp [wpx, wpo, wps, oeD, ne, isN_oi, h40, te_seq, hle]
          exact fin (notb (by
            rintro ⟨l1, l2, e, f2, _, z1, z2, z3, z4, z5⟩
            rw [hc] at z1; cases z1
            rw [y2] at z2; cases z2
            rw [hen] at z3; cases z3
            rw [y4] at z4; cases z4
            exact hle z5)) _ _
  · rintro e S2 ⟨hE, ⟨a, x2, x3, rfl, hav⟩, hb⟩
    simp [wpx, wpo, wps]
    exact ⟨hE, ls.length, ⟨Nat.le_refl _, fun j hj => hb j (by omega), fun h => absurd h (Nat.lt_irrefl _)⟩, by simp⟩
end
end LawP
set_option maxRecDepth 100000
set_option maxHeartbeats 2000000
namespace LawP
set_option exponentiation.threshold 9000
open Lt LawT
open PySem (Str)
section
variable {k : Nat} {S : Store} {E : XP}
theorem word_e {u d : Int} (hu : u.natAbs < 10 ^ 18) (hd : d.natAbs < 10 ^ 18) : callN prog fuel (k + 1) "_law_word" [.tup [.int u, .int d]] S = .ok (tD (wordL (u, d))) S := by
  refine eq_of_wp ?_
  apply wp_callN lk__law_word rfl
  simp only [d__law_word]
  have i0 : seqOf S (.tup [.int u, .int d]) = some [.int u, .int d] := rfl
  have lu := numZ_len (k := 18) (by decide) hu
  have ld := numZ_len (k := 18) (by decide) hd
  by_cases h1 : d = 1
  · have e : wordL (u, d) = numZ u := by unfold wordL; rw [if_pos h1]
    rw [e]
    simp [wpx, wpo, wps, i0, h1, str_T hu]
  · have e : wordL (u, d) = numZ u ++ 47 :: numZ d := by unfold wordL; rw [if_neg h1]
    have q1 : (numZ u).length + 1 ≤ lim := by unfold lim; omega
    have q2 : (numZ u).length + ((numZ d).length + 1) ≤ lim := by unfold lim; omega
    have q3 : (numZ u).length + 1 + (numZ d).length ≤ lim := by unfold lim; omega
    rw [e]
    simp [wpx, wpo, wps, i0, h1, str_T hu, str_T hd, k_sl, bo_addT, q1, q2, q3]
theorem line_e {e : TEnt} (h : TOk e) : callN prog fuel (k + 2) "_law_line" [teD e] S = .ok (tD (lineL e)) S := by
  refine eq_of_wp ?_
  apply wp_callN lk__law_line rfl
  simp only [d__law_line]
  obtain ⟨m, v⟩ := e
  have lm : (numZ m).length ≤ 19 := numZ_len (k := 18) (by decide) h.1
  have hm : m.natAbs < 10 ^ 18 := h.1
  cases v with
  | none =>
    have e1 : lineL (m, none) = numZ m ++ 32 :: gapL := rfl
    have z1 : isN (tvD none) = true := rfl
    have q1 : (numZ m).length + (gapL.length + 1) ≤ lim := by unfold lim; simp [gapL]; omega
    rw [e1]
    simp [wpx, wpo, wps, te_seq, z1, str_T hm, k_sgap, bo_addT, q1]
  | some p =>
    obtain ⟨u, d⟩ := p
    obtain ⟨a, b, _⟩ := h.2 u d rfl
    have lw := wordL_len a b
    have e1 : lineL (m, some (u, d)) = numZ m ++ 32 :: wordL (u, d) := rfl
    have z1 : isN (.tup [.int u, .int d]) = false := rfl
    have z2 : tvD (some (u, d)) = .tup [.int u, .int d] := rfl
    have q1 : (numZ m).length + 1 ≤ lim := by unfold lim; omega
    have q2 : (numZ m).length + 1 + (wordL (u, d)).length ≤ lim := by unfold lim; omega
    rw [e1]
    simp [wpx, wpo, wps, te_seq, z1, z2, str_T hm, word_e a b, k_sp, bo_addT, q1, q2]
theorem divInt_le {a b : Int} (hb : 0 < b) : (Rat.divInt a b).num.natAbs ≤ a.natAbs ∧ (Rat.divInt a b).den ≤ b.natAbs := by
  have e : b.gcd a = a.natAbs.gcd b.natAbs := Nat.gcd_comm _ _
  rw [Rat.num_divInt, Rat.den_divInt, if_neg (by omega), Int.sign_eq_one_of_pos hb, Int.one_mul, e]
  refine ⟨?_, Nat.div_le_self _ _⟩
  have hd : ((a.natAbs.gcd b.natAbs : Nat) : Int) ∣ a := by
    rw [← Int.dvd_natAbs]
    exact Int.ofNat_dvd.mpr (Nat.gcd_dvd_left _ _)
  have hg : 0 < a.natAbs.gcd b.natAbs := Nat.gcd_pos_of_pos_right _ (by omega)
  obtain ⟨c, hc⟩ := hd
  generalize a.natAbs.gcd b.natAbs = g at *
  subst hc
  rw [Int.mul_ediv_cancel_left _ (by omega), Int.natAbs_mul, Int.natAbs_natCast]
  exact Nat.le_mul_of_pos_left _ hg
def zsG (c : Nat) : List Int := (List.replicate c [5, 5, 1000000, 12, 2]).flatten
theorem zsG_len (c : Nat) : (zsG c).length = 5 * c := by
  unfold zsG
  rw [List.length_flatten]
  simp
  omega
theorem zsG_get {c i j : Nat} (hi : i < c) (hj : j < 5) : (zsG c)[5 * i + j]? = ([5, 5, 1000000, 12, 2] : List Int)[j]? := flat_get (l := ([5, 5, 1000000, 12, 2] : List Int)) hi hj
theorem zsG_pos (c : Nat) : ∀ z ∈ zsG c, 0 < z ∧ z < 2 ^ 8000 := fun z hz => by
  have h2 : (2 : Int) ^ 60 < 2 ^ 8000 := Int.pow_lt_pow_of_lt (by decide) (by decide)
  have : 0 < z ∧ z < 10000000 := by
    unfold zsG at hz
    obtain ⟨l, hl, hz⟩ := List.mem_flatten.mp hz
    have := List.eq_of_mem_replicate hl
    subst this
    simp at hz
    omega
  omega
def TEI (d : D) (B : Store) (m1 c q o : Nat) (i : Nat) (e : Env) (S2 : Store) : Prop := Ext B S2 ∧ ∃ (es : List TEnt) (M : Int) (x6 x7 : Option D), e = [some d, some (.ref m1), some (.int c), some (.ref q), some (.int M), some (.ref o), x6, x7] ∧ getL S2 o = some (es.map teD) ∧ es.length = i ∧ M.natAbs ≤ 10 ^ 17 + 5 * i ∧ ∀ e ∈ es, TOk e
def EsR (S : Store) (x : D) (S' : Store) : Prop := Ext S S' ∧ ∃ (q : Nat) (es : List TEnt), x = .ref q ∧ S.length ≤ q ∧ getL S' q = some (es.map teD) ∧ es.length ≤ 42 ∧ ∀ e ∈ es, TOk e
theorem entries_wp {ns : List Int} : Wp (callN prog fuel (k + 3) "_law_entries" [.frl (ns.map .int)] S) E (EsR S) := by
  apply wp_callN lk__law_entries rfl
  simp only [d__law_entries]
  simp [wpx, wpo, wps]
  refine (row_wp (zs := [9, 8, 5, 4]) lk__law_row lk__law_cell lk__law_mix lstOf_frl (by decide) (by decide) (r := S.length) (by simp [wps]) (hz_of (by decide)) (by decide)).imp ?_
  rintro x S1 ⟨h1, m1, rfl, g1⟩
  have b0 := draw_bd (ns := ns) (p := 0) (zs := [9, 8, 5, 4]) (i := 0) (z := 9) rfl (by decide)
  have b2 := draw_bd (ns := ns) (p := 0) (zs := [9, 8, 5, 4]) (i := 2) (z := 5) rfl (by decide)
  have b3 := draw_bd (ns := ns) (p := 0) (zs := [9, 8, 5, 4]) (i := 3) (z := 4) rfl (by decide)
  have i0 : ∀ S', itemR (some ((rowF ns 0 [9, 8, 5, 4]).map .int)) 0 S' = .ok (.int (drawF ns 0 [9, 8, 5, 4] 0)) S' := fun S' => row_item (by decide) (by decide)
  have i1 : ∀ S', itemR (some ((rowF ns 0 [9, 8, 5, 4]).map .int)) 1 S' = .ok (.int (drawF ns 0 [9, 8, 5, 4] 1)) S' := fun S' => row_item (by decide) (by decide)
  have i2 : ∀ S', itemR (some ((rowF ns 0 [9, 8, 5, 4]).map .int)) 2 S' = .ok (.int (drawF ns 0 [9, 8, 5, 4] 2)) S' := fun S' => row_item (by decide) (by decide)
  have i3 : ∀ S', itemR (some ((rowF ns 0 [9, 8, 5, 4]).map .int)) 3 S' = .ok (.int (drawF ns 0 [9, 8, 5, 4] 3)) S' := fun S' => row_item (by decide) (by decide)
  generalize drawF ns 0 [9, 8, 5, 4] 0 = c0 at *
  generalize drawF ns 0 [9, 8, 5, 4] 1 = c1 at *
  generalize drawF ns 0 [9, 8, 5, 4] 2 = c2 at *
  generalize drawF ns 0 [9, 8, 5, 4] 3 = c3 at *
  generalize (rowF ns 0 [9, 8, 5, 4]).map D.int = ds at *
  have hE1 : Ext S S1 := Ext.one.trans h1
  have key : ∀ c : Nat, c ≤ 42 → WpS (exB (prog.cx fuel (callN prog fuel (k + 2))) (d__law_entries.body.drop 3) [some (.frl (ns.map .int)), some (.ref m1), some (.int c), none, none, none, none, none] S1) { nx := fun _ _ => False, rt := EsR S, ex := fun c _ S' => E c S' } := by
    intro c hc
    simp only [d__law_entries, List.drop]
    have hl1 : (c : Int) ≤ 100000 := by omega
    have hl2 : c * 5 ≤ lim := by unfold lim; omega
    have hl3 : 5 * c ≤ lim := by unfold lim; omega
    simp [wpx, wpo, wps, hl1, hl2, hl3]
    have g1' : ∀ T, getL (S1 ++ T) m1 = some ds := fun T => Ext.one.getL g1
    refine (row_wp (zs := zsG c) lk__law_row lk__law_cell lk__law_mix lstOf_frl (by decide) (by decide) (r := S1.length + 1) (by simp [wps, zsG, List.map_flatten]) (zsG_pos c) (by rw [zsG_len]; omega)).imp ?_
    rintro x S3 ⟨h3, q, rfl, hq⟩
    have hE3 : Ext S S3 := hE1.trans (Ext.one.trans h3)
    have g13 : getL S3 m1 = some ds := h3.getL (g1' _)
    have bd : ∀ i z, (zsG c)[i]? = some z → 0 < z → 0 ≤ drawF ns 1 (zsG c) i ∧ drawF ns 1 (zsG c) i < z := fun i z h hz => draw_bd h hz
    have d0 := fun i (hi : i < c) => bd (5 * i + 0) 5 (by rw [zsG_get hi (by decide)]; rfl) (by decide)
    have d2 := fun i (hi : i < c) => bd (5 * i + 2) 1000000 (by rw [zsG_get hi (by decide)]; rfl) (by decide)
    have d3 := fun i (hi : i < c) => bd (5 * i + 3) 12 (by rw [zsG_get hi (by decide)]; rfl) (by decide)
    have d4 := fun i (hi : i < c) => bd (5 * i + 4) 2 (by rw [zsG_get hi (by decide)]; rfl) (by decide)
    have it : ∀ (i : Int) S', 0 ≤ i → i < 5 * c → itemR (some ((rowF ns 1 (zsG c)).map .int)) i S' = .ok (.int (drawF ns 1 (zsG c) i.toNat)) S' := fun i S' h0 h1 => row_item h0 (by rw [zsG_len]; omega)
    generalize drawF ns 1 (zsG c) = v at *
    generalize (rowF ns 1 (zsG c)).map D.int = dz at *
    obtain ⟨w0, hw0, p0⟩ := pick (xs := [0, -9, 100000000000000000, -100000000000000000]) (i := c3) b3.1 b3.2
    have l0 : w0.natAbs ≤ 10 ^ 17 := by simp at hw0; omega
    simp at p0
    have hq1 : ∀ T, getL (S3 ++ T) q = some dz := fun T => Ext.one.getL hq
    have g13' : ∀ T, getL (S3 ++ T) m1 = some ds := fun T => Ext.one.getL g13
    simp [wpx, wpo, wps, g13', i3, p0]
    have hEB : Ext S (S3 ++ [Cell.lst [D.int 0, D.int (-9), D.int 100000000000000000, D.int (-100000000000000000)], Cell.lst []]) := hE3.trans Ext.one
    have hqB := hq1 [Cell.lst [D.int 0, D.int (-9), D.int 100000000000000000, D.int (-100000000000000000)], Cell.lst []]
    have goB : getL (S3 ++ [Cell.lst [D.int 0, D.int (-9), D.int 100000000000000000, D.int (-100000000000000000)], Cell.lst []]) (S3.length + 1) = some [] := by
      have : S3 ++ [Cell.lst [D.int 0, D.int (-9), D.int 100000000000000000, D.int (-100000000000000000)], Cell.lst []] = (S3 ++ [Cell.lst [D.int 0, D.int (-9), D.int 100000000000000000, D.int (-100000000000000000)]]) ++ [Cell.lst []] := by simp
      rw [this]
      have e : S3.length + 1 = (S3 ++ [Cell.lst [D.int 0, D.int (-9), D.int 100000000000000000, D.int (-100000000000000000)]]).length := by simp
      rw [e]
      exact getL_new
    have ho : S.length ≤ S3.length + 1 := by have := hE3.len; omega
    have hqo : q < S3.length + 1 := by have := getL_lt hq; omega
    generalize S3 ++ [Cell.lst [D.int 0, D.int (-9), D.int 100000000000000000, D.int (-100000000000000000)], Cell.lst []] = B at *
    generalize S3.length + 1 = o at *
    refine for_rng (fun i e S2 => TEI (.frl (ns.map .int)) S m1 c q o i e S2 ∧ getL S2 q = some dz) (by omega) (by omega) (by omega) (by omega) ⟨⟨hEB, [], w0, none, none, rfl, goB, rfl, by omega, fun e he => by cases he⟩, hqB⟩ ?_ ?_
    · rintro i e S2 hi ⟨⟨hE2, es, M, x6, x7, rfl, hg, hlen, hM, hok⟩, hqS⟩
      have hi' : i < c := by omega
      have m5 : Sm 5 (i : Int) := sm100 (by decide) (by omega)
      have a0 := d0 i hi'
      have a2 := d2 i hi'
      have a3 := d3 i hi'
      have a4 := d4 i hi'
      have y0 : ∀ S', itemR (some dz) (5 * (i : Int)) S' = .ok (.int (v (5 * i + 0))) S' := fun S' => by
        rw [it _ S' (by omega) (by omega)]
        congr 3
      have y1 : ∀ S', itemR (some dz) (5 * (i : Int) + 1) S' = .ok (.int (v (5 * i + 1))) S' := fun S' => by
        rw [it _ S' (by omega) (by omega)]
        congr 3
      have y2 : ∀ S', itemR (some dz) (5 * (i : Int) + 2) S' = .ok (.int (v (5 * i + 2))) S' := fun S' => by
        rw [it _ S' (by omega) (by omega)]
        congr 3
      have y3 : ∀ S', itemR (some dz) (5 * (i : Int) + 3) S' = .ok (.int (v (5 * i + 3))) S' := fun S' => by
        rw [it _ S' (by omega) (by omega)]
        congr 3
      have y4 : ∀ S', itemR (some dz) (5 * (i : Int) + 4) S' = .ok (.int (v (5 * i + 4))) S' := fun S' => by
        rw [it _ S' (by omega) (by omega)]
        congr 3
      generalize v (5 * i + 0) = s0 at *
      generalize v (5 * i + 1) = s1 at *
      generalize v (5 * i + 2) = s2 at *
      generalize v (5 * i + 3) = s3 at *
      generalize v (5 * i + 4) = s4 at *
      obtain ⟨w4, hw4, p4⟩ := pick (xs := [1, 1000000000000]) (i := s4) a4.1 a4.2
      have l4 : 0 < w4 ∧ w4 ≤ 10 ^ 12 := by simp at hw4; omega
      simp at p4
      have m6 : Sm 5 100000 := sm_of 3 20 (by decide) (by decide) (by decide)
      have n4 : Sm (s2 - 500000) w4 := sm_of 30 41 (by omega) (by omega) (by decide)
      have hnum : ((s2 - 500000) * w4).natAbs < 10 ^ 18 := by
        rw [Int.natAbs_mul]
        have h1 : (s2 - 500000).natAbs ≤ 500000 := by omega
        have h2 : w4.natAbs ≤ 10 ^ 12 := by omega
        have := Nat.mul_le_mul h1 h2
        omega
      have hqc : ∀ T, getL (S2 ++ T) q = some dz := fun T => Ext.one.getL hqS
      have hgc : ∀ T, getL (S2 ++ T) o = some (es.map teD) := fun T => Ext.one.getL hg
      have hoL := getL_lt hg
      have hel : es.length < lim := by unfold lim; omega
      have hil : i < lim := by unfold lim; omega
      have hMB : (M + 1 + s0).natAbs < 10 ^ 18 := by omega
      refine ⟨_, bind_name (by simp), ?_⟩
      try simp [wpx, wpo, wps, hqS, hqc, hgc, y0, y1, y2, y3, y4, p4, m5, m6, n4]
      have fin : ∀ (w : Option (Int × Int)) (x6 x7 : Option D), TOk (M + 1 + s0, w) → (fun i e S2 => TEI (.frl (ns.map .int)) S m1 c q o i e S2 ∧ getL S2 q = some dz) (i + 1) [some (.frl (ns.map .int)), some (.ref m1), some (.int c), some (.ref q), some (.int (M + 1 + s0)), some (.ref o), x6, x7] ((S2 ++ [Cell.lst [D.int 1, D.int 1000000000000]]).set o (.lst (es.map teD ++ [teD (M + 1 + s0, w)]))) := fun w x6 x7 hw => by
        refine ⟨⟨hE2.app.set ho, es ++ [(M + 1 + s0, w)], _, _, _, rfl, ?_, by simp [hlen], by omega, fun e he => ?_⟩, ?_⟩
        · rw [getL_set (by simp; omega)]
          simp
        · rcases List.mem_append.mp he with z | z
          · exact hok e z
          · rw [List.mem_singleton] at z
            subst z
            exact hw
        · rw [getL_set_ne]
          · exact hqc _
          · omega
      by_cases h1 : s1 = 0
      · have f := fin none (some (.int i)) (some (.int ((s2 - 500000) * w4))) ⟨hMB, fun u d z => by cases z⟩
        simp [wpx, h1, hel]
        simpa [teD, tvD] using f
      · simp [wpx, h1]
        refine (law_ratio_wp lk__law_ratio (by omega) (big_pow (n := 41) (by omega) (by decide)) hF).imp ?_
        rintro r S4 ⟨rfl, rfl⟩
        obtain ⟨z1, z2⟩ := divInt_le (a := (s2 - 500000) * w4) (b := s3 + 1) (by omega)
        generalize Rat.divInt ((s2 - 500000) * w4) (s3 + 1) = Q at *
        have f := fin (some (Q.num, (Q.den : Int))) (some (.int i)) (some (.int ((s2 - 500000) * w4))) ⟨hMB, fun u d z => by
          cases z
          have := Q.den_pos
          exact ⟨by omega, by omega, by omega, Q.reduced⟩⟩
        simp [wpx, wpo, wps, hgc, hel]
        simpa [teD, tvD, rD] using f
    · rintro e S2 ⟨⟨hE2, es, M, x6, x7, rfl, hg, hlen, hM, hok⟩, hqS⟩
      simp [wpx, wpo, wps]
      exact ⟨hE2, o, es, rfl, ho, hg, by omega, hok⟩
  simp only [d__law_entries, List.drop] at key
  obtain ⟨n0, rfl⟩ : ∃ n : Nat, c0 = n := ⟨c0.toNat, by omega⟩
  obtain ⟨n2, rfl⟩ : ∃ n : Nat, c2 = n := ⟨c2.toNat, by omega⟩
  by_cases h1 : c1 = 1
  · have := key (38 + n2) (by omega)
    have e : (((38 + n2 : Nat) : Int)) = 38 + (n2 : Int) := by omega
    rw [e] at this
    simp [wpx, wpo, wps, g1, i0, i1, i2, h1] at this ⊢
    exact this
  · have := key n0 (by omega)
    simp [wpx, wpo, wps, g1, i0, i1, i2, h1] at this ⊢
    exact this
theorem kk0 : (" 1" : Str) = tx [32, 49] := rfl
theorem kk1 : ("\n" : Str) = tx [10] := rfl
theorem kk2 : ("  " : Str) = tx [32, 32] := rfl
theorem kk3 : ("+" : Str) = tx [43] := rfl
theorem kk4 : ("-0 " : Str) = tx [45, 48, 32] := rfl
theorem kk5 : ("gap " : Str) = tx [103, 97, 112, 32] := rfl
theorem kk6 : ("1234567890123456789 " : Str) = tx [49, 50, 51, 52, 53, 54, 55, 56, 57, 48, 49, 50, 51, 52, 53, 54, 55, 56, 57, 32] := rfl
theorem kk7 : (" 1/2" : Str) = tx [32, 49, 47, 50] := rfl
def badA : List (List Nat) := [[50, 47, 52], [51, 47, 49], [49, 47, 48], [49, 47, 45, 50], [43, 49], [48, 49], [45, 48], [49, 50, 51, 52, 53, 54, 55, 56, 57, 48, 49, 50, 51, 52, 53, 54, 55, 56, 57], [71, 97, 112], [], [49, 47], [47, 50], [49, 47, 49, 50, 51, 52, 53, 54, 55, 56, 57, 48, 49, 50, 51, 52, 53, 54, 55, 56, 57], [51, 53, 47, 52, 57]]
theorem badA_asc : ∀ l ∈ badA, Asc l ∧ l.length ≤ 40 := by
  have : (badA.all fun l => l.all (fun c => decide (c < 128)) && decide (l.length ≤ 40)) = true := by decide +kernel
  intro l hl
  have := List.all_eq_true.mp this l hl
  rw [Bool.and_eq_true] at this
  exact ⟨asc_lit this.1, of_decide_eq_true this.2⟩
theorem bo_addC {a b : List Nat} {S : Store} (h : a.length + b.length ≤ 100000) : binop .add (D.str (tx a)) (D.str (tx b)) S = R.ok (D.str (tx (a ++ b))) S := by
  rw [bo_addT, if_pos (by unfold lim; exact h)]
theorem str_T2 {n : Int} {S : Store} (h : n.natAbs < 10 ^ 19) : biop .str [D.int n] S = R.ok (tD (numZ n)) S := by
  have hl : n.natAbs.log2 < 1920 := by
    by_cases z : n.natAbs = 0
    · rw [z]; decide
    · have : n.natAbs < 2 ^ 1920 := Nat.lt_of_lt_of_le h (by decide +kernel)
      exact (Nat.log2_lt z).mpr this
  rw [bi_strI, if_pos hl]
  show R.ok (D.str ((toString n : String) : Str)) S = _
  rw [str_num]
theorem pick_T {Ls : List (List Nat)} {i : Int} (h0 : 0 ≤ i) (h1 : i < Ls.length) : ∃ l ∈ Ls, ∀ S : Store, itemR (some (Ls.map tD)) i S = R.ok (tD l) S := by
  have hi : i.toNat < Ls.length := by omega
  refine ⟨Ls[i.toNat], List.getElem_mem _, fun S => ?_⟩
  have e : i = ((i.toNat : Nat) : Int) := by omega
  have := itemR_nat (S := S) (xs := Ls.map tD) (i := i.toNat) (d := tD Ls[i.toNat]) (by rw [List.getElem?_map, List.getElem?_eq_getElem hi]; rfl)
  rwa [← e] at this
def BaR (S : Store) (a : List Nat) (x : D) (S' : Store) : Prop := Ext S S' ∧ ∃ l, x = tD l ∧ Asc l ∧ l.length ≤ a.length + 200
theorem line_par (m : Int) (v : Option (Int × Int)) : TL.par [32] [] (lineL (m, v)) = some (numZ m, valT v) := by
  have h1 : 32 ∉ numZ m := fun z => by have := numZ_sign m 32 z; omega
  have := SX.par_head (c := 32) (sep := []) (valT v) h1
  exact this
theorem valT_len {m : Int} {v : Option (Int × Int)} (h : TOk (m, v)) : (valT v).length ≤ 40 := by
  cases v with
  | none => decide
  | some p =>
    obtain ⟨u, d⟩ := p
    obtain ⟨a, b, _⟩ := h.2 u d rfl
    exact wordL_len a b
theorem bad_wp {e : TEnt} {a : List Nat} {pk : Int} (he : TOk e) (ha : Asc a) (hal : a.length ≤ 5000) (h0 : 0 ≤ pk) (h1 : pk < 32) :
    Wp (callN prog fuel (k + 1) "_law_bad" [tD (lineL e), tD a, .int pk] S) E (BaR S a) := by
  apply wp_callN lk__law_bad rfl
  simp only [d__law_bad]
  obtain ⟨m, v⟩ := e
  have hm : m.natAbs < 10 ^ 18 := he.1
  have lm : (numZ m).length ≤ 19 := numZ_len (k := 18) (by decide) hm
  have lv := valT_len he
  have ll : (lineL (m, v)).length ≤ 60 := lineL_len he
  have am := asc_num m
  have av := asc_val v
  have al := asc_line (m, v)
  have n1 : (tx [32]).length ≠ 0 := by rw [tx_len]; decide
  have l1 : (tx (lineL (m, v))).length ≤ lim := by rw [tx_len]; unfold lim; omega
  have l2 : (tx a).length ≤ lim := by rw [tx_len]; unfold lim; omega
  have hlim14 : 14 ≤ lim := by unfold lim; decide
  have pl : PySem.Txt.partition (tx (lineL (m, v))) (tx [32]) = (tx (numZ m), tx [32], tx (valT v)) := by rw [par_T, line_par]
  obtain ⟨nr, pb, pc, pa, anr, lnr⟩ : ∃ (nr pb pc : List Nat), PySem.Txt.partition (tx a) (tx [32]) = (tx nr, tx pb, tx pc) ∧ Asc nr ∧ nr.length ≤ a.length := by
    rw [par_T]
    cases hp : TL.par [32] [] a with
    | none => exact ⟨a, _, _, rfl, ha, Nat.le_refl _⟩
    | some pq =>
      obtain ⟨p, q⟩ := pq
      have e : a = p ++ 32 :: q := par_cut hp
      exact ⟨p, _, _, rfl, asc_sub ha fun c hc => by rw [e]; simp [hc], by rw [e]; simp⟩
  simp [wpx, wpo, wps, k_sp, l1, pl, pa, bindT, hlim14]
  refine ⟨n1, ?_⟩
  have gb : getL (S ++ [Cell.lst [D.str "2/4", D.str "3/1", D.str "1/0", D.str "1/-2", D.str "+1", D.str "01", D.str "-0", D.str "1234567890123456789", D.str "Gap", D.str "", D.str "1/", D.str "/2"], Cell.lst [D.str "1/1234567890123456789", D.str "35/49"], Cell.lst [D.str "2/4", D.str "3/1", D.str "1/0", D.str "1/-2", D.str "+1", D.str "01", D.str "-0", D.str "1234567890123456789", D.str "Gap", D.str "", D.str "1/", D.str "/2", D.str "1/1234567890123456789", D.str "35/49"]]) (S.length + 2) = some (badA.map tD) := getL_app (n := 2)
  have hE : Ext S (S ++ [Cell.lst [D.str "2/4", D.str "3/1", D.str "1/0", D.str "1/-2", D.str "+1", D.str "01", D.str "-0", D.str "1234567890123456789", D.str "Gap", D.str "", D.str "1/", D.str "/2"], Cell.lst [D.str "1/1234567890123456789", D.str "35/49"], Cell.lst [D.str "2/4", D.str "3/1", D.str "1/0", D.str "1/-2", D.str "+1", D.str "01", D.str "-0", D.str "1234567890123456789", D.str "Gap", D.str "", D.str "1/", D.str "/2", D.str "1/1234567890123456789", D.str "35/49"]]) := Ext.one
  generalize S ++ [Cell.lst [D.str "2/4", D.str "3/1", D.str "1/0", D.str "1/-2", D.str "+1", D.str "01", D.str "-0", D.str "1234567890123456789", D.str "Gap", D.str "", D.str "1/", D.str "/2"], Cell.lst [D.str "1/1234567890123456789", D.str "35/49"], Cell.lst [D.str "2/4", D.str "3/1", D.str "1/0", D.str "1/-2", D.str "+1", D.str "01", D.str "-0", D.str "1234567890123456789", D.str "Gap", D.str "", D.str "1/", D.str "/2", D.str "1/1234567890123456789", D.str "35/49"]] = S1 at *
  by_cases h14 : pk < 14
  · rw [if_pos h14]
    obtain ⟨l, hl, pl⟩ := pick_T (Ls := badA) h0 (by show pk < 14; exact h14)
    obtain ⟨l3, l4⟩ := badA_asc l hl
    rw [bo_addC (by simp; omega), wp_ok, gb, pl, wp_ok, bo_addC (by simp; omega), wp_ok]
    refine ⟨hE, _, rfl, asc_app (asc_app am (asc_lit rfl)) l3, by simp; omega⟩
  · rw [if_neg h14]
    simp only [kk0, kk1, kk2, kk3, kk4, kk5, kk6, kk7, k_0, k_e]
    simp (disch := (simp only [List.length_append, List.length_cons, List.length_nil]; omega)) only [bo_addC, wp_ok]
    have i1 : PySem.intText? (tx (numZ m)) = some m := int_num m (by omega)
    have l3 : (tx (numZ m)).length ≤ 640 := by rw [tx_len]; omega
    have s1 : ∀ S', biop .str [D.int (m - 300)] S' = R.ok (tD (numZ (m - 300))) S' := fun S' => str_T2 (by omega)
    have s2 : ∀ S', biop .str [D.int (m - 2)] S' = R.ok (tD (numZ (m - 2))) S' := fun S' => str_T2 (by omega)
    have z1 : (numZ (m - 300)).length ≤ 20 := numZ_len (k := 19) (by decide) (by omega)
    have z2 : (numZ (m - 2)).length ≤ 20 := numZ_len (k := 19) (by decide) (by omega)
    have gA : ∀ (X : List D) (T : Store), getL (S1 ++ [Cell.lst X] ++ T) S1.length = some X := fun X T => by rw [List.append_assoc]; exact getL_app0
    simp only [gA]
    have ca : ∀ (X Y : List D) (S' : Store), X.length + Y.length ≤ 100000 → catR (some X) (some Y) S' = R.ok (D.ref S'.length) (S' ++ [Cell.lst (X ++ Y)]) := fun X Y S' h => by
      rw [catR_some, if_pos (by unfold lim; exact h)]
      rfl
    rw [ca _ _ _ (by simp), wp_ok]
    refine ⟨⟨n1, l2⟩, ?_⟩
    have cb : ∀ (B : Store) (X Y : List D), X.length + Y.length ≤ 100000 → binop .add (.ref B.length) (.ref (B ++ [Cell.lst X]).length) (B ++ [Cell.lst X] ++ [Cell.lst Y]) = R.ok (D.ref (B ++ [Cell.lst X] ++ [Cell.lst Y]).length) (B ++ [Cell.lst X] ++ [Cell.lst Y] ++ [Cell.lst (X ++ Y)]) := fun B X Y h => by
      have e1 : getL (B ++ [Cell.lst X] ++ [Cell.lst Y]) B.length = some X := by rw [List.append_assoc]; exact getL_app0
      have e2 : getL (B ++ [Cell.lst X] ++ [Cell.lst Y]) (B ++ [Cell.lst X]).length = some Y := getL_new
      rw [bo_cat, e1, e2, ca _ _ _ h]
    rw [cb _ _ _ (by simp), wp_ok]
    refine ⟨l3, ?_⟩
    have sb : ∀ (x y : Int) (S' : Store), binop .sub (.int x) (.int y) S' = R.ok (D.int (x - y)) S' := fun _ _ _ => rfl
    simp (disch := (simp only [List.length_append, List.length_cons, List.length_nil]; omega)) only [i1, sb, s1, bo_addC, wp_ok]
    refine ⟨l3, ?_⟩
    simp (disch := (simp only [List.length_append, List.length_cons, List.length_nil]; omega)) only [i1, sb, s2, bo_addC, wp_ok]
    rw [cb _ _ _ (by simp), wp_ok]
    have sq : ∀ (B : Store) (X : List D), seqOf (B ++ [Cell.lst X]) (.ref B.length) = some X := fun B X => getL_new
    rw [sq]
    have hx : ([D.str (tx (lineL (m, v) ++ [32])), D.str (tx (lineL (m, v) ++ [10])), D.str (tx ([32] ++ lineL (m, v))), D.str (tx (numZ m ++ [32, 32] ++ valT v)), D.str (tx (lineL (m, v) ++ [32, 49])), D.str (tx []), D.str (tx (numZ m))] ++ [D.str (tx ([48] ++ numZ m ++ [32] ++ valT v)), D.str (tx ([43] ++ numZ m ++ [32] ++ valT v)), D.str (tx ([45, 48, 32] ++ valT v)), D.str (tx ([103, 97, 112, 32] ++ valT v))] ++ [D.str (tx ([49, 50, 51, 52, 53, 54, 55, 56, 57, 48, 49, 50, 51, 52, 53, 54, 55, 56, 57, 32] ++ valT v)), tD a, tD a, D.str (tx (nr ++ [32] ++ valT v)), D.str (tx (nr ++ [32, 49, 47, 50]))] ++ [D.str (tx (numZ (m - 300) ++ [32] ++ valT v)), D.str (tx (numZ (m - 2) ++ [32] ++ valT v))]) = ([lineL (m, v) ++ [32], lineL (m, v) ++ [10], [32] ++ lineL (m, v), numZ m ++ [32, 32] ++ valT v, lineL (m, v) ++ [32, 49], [], numZ m, [48] ++ numZ m ++ [32] ++ valT v, [43] ++ numZ m ++ [32] ++ valT v, [45, 48, 32] ++ valT v, [103, 97, 112, 32] ++ valT v, [49, 50, 51, 52, 53, 54, 55, 56, 57, 48, 49, 50, 51, 52, 53, 54, 55, 56, 57, 32] ++ valT v, a, a, nr ++ [32] ++ valT v, nr ++ [32, 49, 47, 50], numZ (m - 300) ++ [32] ++ valT v, numZ (m - 2) ++ [32] ++ valT v] : List (List Nat)).map tD := rfl
    rw [hx]
    obtain ⟨l, hl, pl⟩ := pick_T (Ls := [lineL (m, v) ++ [32], lineL (m, v) ++ [10], [32] ++ lineL (m, v), numZ m ++ [32, 32] ++ valT v, lineL (m, v) ++ [32, 49], [], numZ m, [48] ++ numZ m ++ [32] ++ valT v, [43] ++ numZ m ++ [32] ++ valT v, [45, 48, 32] ++ valT v, [103, 97, 112, 32] ++ valT v, [49, 50, 51, 52, 53, 54, 55, 56, 57, 48, 49, 50, 51, 52, 53, 54, 55, 56, 57, 32] ++ valT v, a, a, nr ++ [32] ++ valT v, nr ++ [32, 49, 47, 50], numZ (m - 300) ++ [32] ++ valT v, numZ (m - 2) ++ [32] ++ valT v]) (i := pk - 14) (by omega) (by show pk - 14 < 18; omega)
    rw [pl, wp_ok]
    refine ⟨hE.app.app.app.app.app.app.app, l, rfl, ?_⟩
    have a300 := asc_num (m - 300)
    have a2 := asc_num (m - 2)
    have anil : Asc [] := fun c hc => by cases hc
    simp only [List.mem_cons, List.not_mem_nil, or_false] at hl
    rcases hl with rfl | rfl | rfl | rfl | rfl | rfl | rfl | rfl | rfl | rfl | rfl | rfl | rfl | rfl | rfl | rfl | rfl | rfl
    all_goals
      refine ⟨?_, by (try simp only [List.length_append, List.length_cons, List.length_nil]); omega⟩
      repeat first | assumption | exact asc_lit rfl | refine asc_app ?_ ?_
theorem toP_txs {n : Nat} : ∀ {ls : List (List Nat)}, (∀ l ∈ ls, Asc l) → mapO (toP S (n + 1)) (ls.map tD) = some (ls.map fun l => PySem.PyData.str (tx l))
  | [], _ => rfl
  | l :: ls, h => by
    have h1 : toP S (n + 1) (tD l) = some (.str (tx l)) := by simp [toP, asc_ok (h l (by simp))]
    simp only [List.map_cons, mapO, h1, toP_txs (ls := ls) fun z hz => h z (by simp [hz])]
theorem eqD_txs {a b : Nat} {ls : List (List Nat)} (ha : getL S a = some (ls.map tD)) (hb : getL S b = some (ls.map tD)) (h : ∀ l ∈ ls, Asc l) : eqD S (.ref a) (.ref b) = some true := by
  have key : ∀ c, getL S c = some (ls.map tD) → toP S 12 (.ref c) = some (.list (ls.map fun l => PySem.PyData.str (tx l))) := fun c hc => by
    show (match getL S c with
      | some xs => (mapO (toP S 11) xs).map PySem.PyData.list
      | none => none) = _
    rw [hc]
    simp only [toP_txs (n := 10) h]
    rfl
  unfold eqD
  rw [key a ha, key b hb]
  have : ∀ l : List (List Nat), PySem.PyData.eqvAll (l.map fun l => PySem.PyData.str (tx l)) (l.map fun l => PySem.PyData.str (tx l)) = true := fun l => by
    induction l with
    | nil => simp [PySem.PyData.eqvAll]
    | cons x l ih => simp [PySem.PyData.eqvAll, PySem.PyData.eqv, ih]
  simp [PySem.PyData.eqv, this]
def tvP (v : Option (Int × Int)) : PySem.PyData := match v with
  | none => .none
  | some p => .tuple [.int p.1, .int p.2]
def teP (e : TEnt) : PySem.PyData := .tuple [.int e.1, tvP e.2]
theorem toP_te {n : Nat} (e : TEnt) : toP S (n + 3) (teD e) = some (teP e) := by
  obtain ⟨m, v⟩ := e
  cases v with
  | none => simp [teD, tvD, toP, mapO, teP, tvP]
  | some q => simp [teD, tvD, toP, mapO, teP, tvP]
theorem toP_tes {n : Nat} : ∀ es : List TEnt, mapO (toP S (n + 3)) (es.map teD) = some (es.map teP)
  | [] => rfl
  | e :: es => by simp [mapO, toP_te, toP_tes es]
theorem eqv_tes : ∀ es : List TEnt, PySem.PyData.eqvAll (es.map teP) (es.map teP) = true
  | [] => by simp [PySem.PyData.eqvAll]
  | (m, v) :: es => by
    cases v <;> simp [PySem.PyData.eqvAll, PySem.PyData.eqv, teP, tvP, eqv_tes es]
theorem eqD_tes {a b : Nat} {es : List TEnt} (ha : getL S a = some (es.map teD)) (hb : getL S b = some (es.map teD)) : eqD S (.ref a) (.ref b) = some true := by
  have key : ∀ c, getL S c = some (es.map teD) → toP S 12 (.ref c) = some (.list (es.map teP)) := fun c hc => by
    show (match getL S c with
      | some xs => (mapO (toP S 11) xs).map PySem.PyData.list
      | none => none) = _
    rw [hc]
    simp only [toP_tes (n := 8) es]
    rfl
  unfold eqD
  rw [key a ha, key b hb]
  simp [PySem.PyData.eqv, eqv_tes]
theorem refused_wp {r n : Nat} {ls : List (List Nat)} (hr : getL S r = some (ls.map tD)) (ha : ∀ l ∈ ls, Asc l ∧ l.length ≤ 9000) (hl : ls.length ≤ 1000) (hf : FirstT ls n) (hn : n < ls.length) :
    Wp (callN prog fuel (k + 6) "_law_refused" [.ref r, .int n] S) E fun x _ => x = .bl true := by
  apply wp_callN lk__law_refused rfl
  simp only [d__law_refused]
  have g : getL (S ++ [.lst (ls.map tD)]) S.length = some (ls.map tD) := getL_new
  have gr : getL (S ++ [.lst (ls.map tD)]) r = some (ls.map tD) := Ext.one.getL hr
  simp [wpx, wpo, wp_tryA, hr]
  refine (read_row_wp (k := k) g ha hl).mono ?_ ?_
  · rintro x S1 ⟨h1, _⟩
    have := h1.uniq hf
    omega
  · rintro c S1 ⟨h1, n', h2, h3, rfl⟩
    have := h3.uniq hf
    subst this
    left
    refine ⟨rfl, ?_⟩
    have q1 : (prog.cx fuel (callN prog fuel (k + 5))).isc "NoLine" "NoWord" = some false := rfl
    have q2 : (prog.cx fuel (callN prog fuel (k + 5))).isc "NoLine" "NotARow" = some false := rfl
    have q3 : (prog.cx fuel (callN prog fuel (k + 5))).isc "NoLine" "NoLine" = some true := rfl
    have q4 : (prog.cx fuel (callN prog fuel (k + 5))).isc "NoLine" "ValueError" = some true := rfl
    have q5 : ((prog.cx fuel (callN prog fuel (k + 5))).isc "NoLine" "NoLine").isSome = true := rfl
    have e1 := eqD_txs (h1.getL g) (h1.getL gr) fun l hl => (ha l hl).1
    have iB : ∀ (S' : Store) (n : Int), isIR .bool (.int n) S' = .ok (.bl false) S' := fun _ _ => rfl
    simp [wpx, wpo, xisR, xatR, q1, q2, q3, q4, q5, e1, iB]
theorem kinds_wp {a b : Nat} {es : List TEnt} (ha : getL S a = some (es.map teD)) (hb : getL S b = some (es.map teD)) : Wp (callN prog fuel (k + 1) "_law_kinds" [.ref a, .ref b] S) E fun x S' => S' = S ∧ x = .bl true := by
  apply wp_callN lk__law_kinds rfl
  simp only [d__law_kinds]
  simp [wpx, wpo, wps, isIR_ref ha, eqD_tes ha hb]
  refine for_seq (xs := es.map teD) (fun _ e S2 => S2 = S ∧ ∃ x2, e = [some (.ref a), some (.ref b), x2]) ha ⟨rfl, _, rfl⟩ ?_ ?_
  · rintro i x e S2 hx hi ⟨rfl, x2, rfl⟩
    obtain ⟨c, hc, rfl⟩ := map_get hx
    refine ⟨ha, _, bind_name (by simp), ?_⟩
    have iT : ∀ (S' : Store), isIR .tuple (teD c) S' = .ok (.bl true) S' := fun _ => rfl
    have iB : ∀ (S' : Store) (n : Int), isIR .bool (.int n) S' = .ok (.bl false) S' := fun _ _ => rfl
    simp [wpx, wpo, wps, iT, iB, te_seq]
  · rintro e S2 ⟨rfl, x2, rfl⟩
    refine ⟨ha, ?_⟩
    simp [wpx, wpo, wps]
def zs5 : List Int := [3, 64, 32, 64, 32]
def tl5 : List St := d_law.body.drop 5
def tl3 : List St := d_law.body.drop 3
def LOk (ls : List (List Nat)) (n : Nat) : Prop := ls.length ≤ 42 ∧ ∀ l ∈ ls, Asc l ∧ l.length ≤ n
theorem due_lc {e : Env} {r : Nat} {ls : List (List Nat)} {X X' : XP} {Q : List D → Store → Prop} (hi : 10 < e.length) (hr : getL S r = some (ls.map tD)) (ho : LOk ls 1000) (hg : ∀ i, i < ls.length → ¬ badT ls i) (q : ∀ S2, Ext S S2 → Q ((ls.map entD?).map teD) S2) :
    Wp (optR (seqItr (.ref r) S) S) X fun j S1 => Wp (lcGo (.name 10) j none (ev (prog.cx fuel (callN prog fuel (k + 6))) (.call "_law_entry_due" [.var 10])) e j.n 0 [] S1) X' Q := by
  refine lc_seq (xs := ls.map tD) (fun i acc S2 => Ext S S2 ∧ acc = ((ls.take i).map entD?).map teD) hr ⟨Ext.refl, rfl⟩ ?_ ?_
  · rintro i x acc S2 hx hi2 ⟨hE, rfl⟩
    obtain ⟨c, hc, rfl⟩ := map_get hx
    have hil : i < ls.length := by simpa using hi2
    obtain ⟨ac, lc⟩ := ho.2 c (List.mem_of_getElem? hc)
    refine ⟨hE.getL hr, _, bind_name hi, ?_⟩
    have hlen := ho.1
    simp [wpx, wpo, List.getElem?_set_self hi]
    refine (entry_due_wp (k := k + 3) ac (by omega)).imp ?_
    rintro y S3 ⟨h3, rfl⟩
    rw [good_entry (hg i hil) hc]
    refine ⟨by unfold lim; omega, hE.trans h3, ?_⟩
    rw [List.take_succ, List.getElem?_map, hc]
    rfl
  · rintro acc S2 ⟨hE, rfl⟩
    refine ⟨hE.getL hr, ?_⟩
    rw [List.take_of_length_le (by simp)]
    exact q S2 hE
theorem line_back {ls : List (List Nat)} (hg : ∀ i, i < ls.length → ¬ badT ls i) : (ls.map entD?).map lineL = ls := by
  rw [List.map_map]
  have : ∀ l ∈ ls, (lineL ∘ entD?) l = l := fun l hl => entry_back (good_all hg hl)
  conv => rhs; rw [← List.map_id ls]
  exact List.map_congr_left fun l hl => by rw [this l hl]; rfl
theorem tail5_wp {r : Nat} {x1 x3 x4 x6 x8 : Option D} {d : D} {ls : List (List Nat)} (hr : getL S r = some (ls.map tD)) (ho : LOk ls 1000) :
    WpS (exB (prog.cx fuel (callN prog fuel (k + 6))) tl5 [some d, x1, some (.ref r), x3, x4, none, x6, none, x8, none, none] S) { nx := fun _ _ => False, rt := fun x _ => x = .bl true, ex := fun _ _ _ => False } := by
  have hl := ho.1
  have ha : ∀ l ∈ ls, Asc l ∧ l.length ≤ 9000 := fun l h => ⟨(ho.2 l h).1, by have := (ho.2 l h).2; omega⟩
  simp only [tl5, d_law, List.drop]
  simp [wpx, wpo, wps]
  refine (wrong_wp (k := k + 2) hr ha (by omega)).imp ?_
  rintro x S1 ⟨h1, n, hf, rfl⟩
  have hr1 := h1.getL hr
  by_cases hn : n < ls.length
  · rw [if_pos hn]
    have ni : isN (D.int (n : Int)) = false := rfl
    simp [wpx, wpo, wps, ni]
    exact refused_wp (k := k) hr1 ha (by omega) hf hn
  · rw [if_neg hn]
    have hn : n = ls.length := by have := hf.1; omega
    subst hn
    have hg : ∀ i, i < ls.length → ¬ badT ls i := hf.2.1
    have ni : isN D.non = true := rfl
    simp [wpx, wpo, wps, ni, hr1]
    have g2 : getL (S1 ++ [.lst (ls.map tD)]) S1.length = some (ls.map tD) := getL_new
    have hr2 : getL (S1 ++ [.lst (ls.map tD)]) r = some (ls.map tD) := Ext.one.getL hr1
    have hs1 : S1.length < (S1 ++ [Cell.lst (ls.map tD)]).length := by simp
    generalize S1.length = q2 at *
    generalize S1 ++ [Cell.lst (ls.map tD)] = S2 at *
    refine (read_row_wp (k := k + 1) g2 ha (by omega)).mono ?_ ?_
    · rintro x S3 ⟨_, rfl, h3, g3⟩
      have g23 := h3.getL g2
      have hr3 := h3.getL hr2
      simp [wpx, wpo, wps, eqD_txs g23 hr3 fun l hl => (ha l hl).1]
      refine due_lc (k := k) (by simp [wipeE]) hr3 ho hg fun S4 h4 => ?_
      have g4 : getL (S4 ++ [Cell.lst ((ls.map entD?).map teD)]) S4.length = some ((ls.map entD?).map teD) := getL_new
      have g34 : getL (S4 ++ [Cell.lst ((ls.map entD?).map teD)]) S2.length = some ((ls.map entD?).map teD) := Ext.one.getL (h4.getL g3)
      have g24 : getL (S4 ++ [Cell.lst ((ls.map entD?).map teD)]) q2 = some (ls.map tD) := Ext.one.getL (h4.getL g23)
      have gr4 : getL (S4 ++ [Cell.lst ((ls.map entD?).map teD)]) r = some (ls.map tD) := Ext.one.getL (h4.getL hr3)
      have q2l : q2 ≠ S2.length := by omega
      have rl : r ≠ S2.length := by have := getL_lt hr2; omega
      generalize S4 ++ [Cell.lst ((ls.map entD?).map teD)] = S5 at *
      refine (kinds_wp (k := k + 5) g34 g4).imp ?_
      rintro x S6 ⟨rfl, rfl⟩
      simp [wpx, wpo, wps, clear, g34]
      have h0 : S2.length < S6.length := getL_lt g34
      have g5 : getL (S6.set S2.length (.lst [])) q2 = some (ls.map tD) := by rw [getL_set_ne (Ne.symm q2l)]; exact g24
      have gr5 : getL (S6.set S2.length (.lst [])) r = some (ls.map tD) := by rw [getL_set_ne (Ne.symm rl)]; exact gr4
      generalize S6.set S2.length (.lst []) = S7 at *
      refine (read_row_wp (k := k + 1) g5 ha (by omega)).mono ?_ ?_
      · rintro x S8 ⟨_, rfl, h8, g8⟩
        have gr8 := h8.getL gr5
        try simp [wpx, wpo, wps]
        refine due_lc (k := k) (by simp [wipeE]) gr8 ho hg fun S9 h9 => ?_
        have e9 : eqD (S9 ++ [Cell.lst ((ls.map entD?).map teD)]) (.ref S7.length) (.ref S9.length) = some true := eqD_tes (Ext.one.getL (h9.getL g8)) getL_new
        have gr9 : getL (S9 ++ [Cell.lst ((ls.map entD?).map teD)]) r = some (ls.map tD) := Ext.one.getL (h9.getL gr8)
        generalize S9 ++ [Cell.lst ((ls.map entD?).map teD)] = S10 at *
        simp [wpx, wpo, wps, e9]
        refine (read_row_wp (k := k + 1) gr9 ha (by omega)).mono ?_ ?_
        · rintro x S11 ⟨_, rfl, h11, g11⟩
          have gr11 := h11.getL gr9
          try simp [wpx, wpo, wps]
          refine (show_row_wp (k := k + 4) hSh g11 (fun e he => ?_) (by simp; omega)).imp ?_
          · obtain ⟨l, hl, rfl⟩ := List.mem_map.mp he
            exact entry_ok (good_all hg hl)
          · rintro x S12 ⟨rfl, rfl⟩
            rw [line_back hg]
            have e12 : eqD (S11 ++ [Cell.lst (ls.map tD)]) (.ref S11.length) (.ref r) = some true := eqD_txs getL_new (Ext.one.getL gr11) fun l hl => (ha l hl).1
            simp [wpx, wpo, wps, e12]
        · rintro c S3 ⟨_, m, h2, h3, _⟩
          have := h3.uniq hf
          omega
      · rintro c S3 ⟨_, m, h2, h3, _⟩
        have := h3.uniq hf
        omega
    · rintro c S3 ⟨_, m, h2, h3, _⟩
      have := h3.uniq hf
      omega
def SpI (d : D) (r1 r2 m : Nat) (x6 : Option D) (es : List TEnt) (dz : List D) (i : Nat) (e : Env) (S2 : Store) : Prop := ∃ (x4 x8 : Option D) (ls : List (List Nat)), e = [some d, some (.ref r1), some (.ref r2), some (.ref m), x4, none, x6, none, x8, none, none] ∧ getL S2 r1 = some (es.map teD) ∧ getL S2 r2 = some (ls.map tD) ∧ getL S2 m = some dz ∧ ls.length = es.length ∧ ∀ l ∈ ls, Asc l ∧ l.length ≤ 60 + 200 * i
theorem tail3_wp {ns : List Int} {r1 r2 : Nat} {x6 : Option D} {es : List TEnt} (h1 : getL S r1 = some (es.map teD)) (h2 : getL S r2 = some ((es.map lineL).map tD)) (h12 : r1 ≠ r2) (hl : es.length ≤ 42) (ho : ∀ e ∈ es, TOk e) :
    WpS (exB (prog.cx fuel (callN prog fuel (k + 6))) tl3 [some (.frl (ns.map .int)), some (.ref r1), some (.ref r2), none, none, none, x6, none, none, none, none] S) { nx := fun _ _ => False, rt := fun x _ => x = .bl true, ex := fun _ _ _ => False } := by
  have hb : tl3 = (d_law.body.drop 3).take 2 ++ tl5 := rfl
  rw [hb, wp_app]
  simp only [d_law, List.drop, List.take]
  simp [wpx, wpo, wps]
  refine (row_wp (zs := zs5) lk__law_row lk__law_cell lk__law_mix lstOf_frl (by decide) (by decide) (r := S.length) (by simp [wps, zs5]) (hz_of (by decide)) (by decide)).imp ?_
  rintro x S3 ⟨h3, m, rfl, gm⟩
  have g1 := h3.getL (Ext.one.getL (S' := S ++ [Cell.lst (zs5.map .int)]) h1)
  have g2 := h3.getL (Ext.one.getL (S' := S ++ [Cell.lst (zs5.map .int)]) h2)
  have it : ∀ (j : Nat) (S' : Store), j < 5 → itemR (some ((rowF ns 2 zs5).map .int)) (j : Int) S' = .ok (.int (drawF ns 2 zs5 j)) S' := fun j S' hj => itemR_nat (by rw [List.getElem?_map, row_get (by exact hj)]; rfl)
  have b0 := draw_bd (ns := ns) (p := 2) (zs := zs5) (i := 0) (z := 3) rfl (by decide)
  have b2 := draw_bd (ns := ns) (p := 2) (zs := zs5) (i := 2) (z := 32) rfl (by decide)
  have b4 := draw_bd (ns := ns) (p := 2) (zs := zs5) (i := 4) (z := 32) rfl (by decide)
  have i0 : ∀ S', itemR (some ((rowF ns 2 zs5).map .int)) 0 S' = .ok (.int (drawF ns 2 zs5 0)) S' := fun S' => it 0 S' (by decide)
  have hm2 : m ≠ r2 := fun z => by
    subst z
    rw [gm] at g2
    have e0 : ((rowF ns 2 zs5).map D.int)[0]? = some (.int (drawF ns 2 zs5 0)) := by rw [List.getElem?_map, row_get (by decide)]; rfl
    rw [Option.some.inj g2] at e0
    rw [List.getElem?_map] at e0
    obtain ⟨c, _, hc⟩ := Option.map_eq_some_iff.mp e0
    cases hc
  generalize drawF ns 2 zs5 = v at *
  generalize (rowF ns 2 zs5).map D.int = dz at *
  obtain ⟨N, hN, hN1, hN2⟩ : ∃ N : Nat, (if (es.length : Int) < v 0 then (es.length : Int) else v 0) = N ∧ N ≤ es.length ∧ N ≤ 2 := by
    by_cases z : (es.length : Int) < v 0
    · exact ⟨es.length, by rw [if_pos z], Nat.le_refl _, by omega⟩
    · exact ⟨(v 0).toNat, by rw [if_neg z]; omega, by omega, by omega⟩
  simp [wpx, wpo, wps, gm, i0, g2, hN]
  refine for_rng (SpI (.frl (ns.map .int)) r1 r2 m x6 es dz) (by omega) (by omega) (by omega) (by omega) ⟨_, _, es.map lineL, rfl, g1, g2, gm, by simp, fun l hl => ?_⟩ ?_ ?_
  · obtain ⟨e, he, rfl⟩ := List.mem_map.mp hl
    exact ⟨asc_line e, by have := lineL_len (ho e he); omega⟩
  · rintro i e S2 hi ⟨x4, x8, ls, rfl, g1, g2, gm, hll, hls⟩
    have hi2 : i < 2 := by omega
    have hp : 0 < es.length := by omega
    have hln : (ls.length : Int) ≠ 0 := by omega
    have sm : Sm 2 (i : Int) := by
      have : i = 0 ∨ i = 1 := by omega
      rcases this with rfl | rfl <;> decide
    obtain ⟨a, ha, hal⟩ : ∃ a : Nat, (v (1 + 2 * i)).fmod (ls.length : Int) = a ∧ a < es.length := by
      have w1 := Int.fmod_nonneg_of_pos (v (1 + 2 * i)) (b := (ls.length : Int)) (by omega)
      have w2 := Int.fmod_lt_of_pos (v (1 + 2 * i)) (b := (ls.length : Int)) (by omega)
      exact ⟨_, (Int.toNat_of_nonneg w1).symm, by omega⟩
    have bp : 0 ≤ v (2 + 2 * i) ∧ v (2 + 2 * i) < 32 := by
      have : i = 0 ∨ i = 1 := by omega
      rcases this with rfl | rfl
      · exact b2
      · exact b4
    have y1 : ∀ S', itemR (some dz) (1 + 2 * (i : Int)) S' = .ok (.int (v (1 + 2 * i))) S' := fun S' => by
      have := it (1 + 2 * i) S' (by omega)
      rwa [show (((1 + 2 * i : Nat)) : Int) = 1 + 2 * (i : Int) by omega] at this
    have y2 : ∀ S', itemR (some dz) (2 + 2 * (i : Int)) S' = .ok (.int (v (2 + 2 * i))) S' := fun S' => by
      have := it (2 + 2 * i) S' (by omega)
      rwa [show (((2 + 2 * i : Nat)) : Int) = 2 + 2 * (i : Int) by omega] at this
    obtain ⟨c, hc⟩ : ∃ c, es[a]? = some c := ⟨_, List.getElem?_eq_getElem hal⟩
    obtain ⟨c', hc'⟩ : ∃ c', ls[a - 1]? = some c' := ⟨_, List.getElem?_eq_getElem (by omega)⟩
    have iA : ∀ S', itemR (some (es.map teD)) (a : Int) S' = .ok (teD c) S' := fun S' => itemR_nat (by rw [List.getElem?_map, hc]; rfl)
    have iB : ∀ S', itemR (some (ls.map tD)) ((a - 1 : Nat) : Int) S' = .ok (tD c') S' := fun S' => itemR_nat (by rw [List.getElem?_map, hc']; rfl)
    have eB : (if (a : Int) - 1 < 0 then 0 else (a : Int) - 1) = ((a - 1 : Nat) : Int) := by split <;> omega
    have hcok := ho c (List.mem_of_getElem? hc)
    obtain ⟨ac, lc⟩ := hls c' (List.mem_of_getElem? hc')
    refine ⟨_, bind_name (by simp), ?_⟩
    simp [wpx, wpo, wps, gm, g1, g2, hln, sm, y1, ha, iA, line_e hcok]
    refine ⟨by intro z; subst z; simp at hll; omega, ?_⟩
    rw [eB, iB, wp_ok, gm, y2, wp_ok]
    refine (bad_wp (k := k + 5) hcok ac (by omega) bp.1 bp.2).imp ?_
    rintro x S4 ⟨h4, l, rfl, al, ll⟩
    have g24 := h4.getL g2
    rw [g24, setR_nat (by simp; omega), wp_ok, ← List.map_set]
    have hs := getL_lt g24
    refine ⟨_, _, ls.set a l, rfl, by rw [getL_set_ne (Ne.symm h12)]; exact h4.getL g1, getL_set hs, by rw [getL_set_ne (Ne.symm hm2)]; exact h4.getL gm, by simp [hll], fun z hz => ?_⟩
    rcases List.mem_or_eq_of_mem_set hz with y | y
    · have := hls z y
      exact ⟨this.1, by omega⟩
    · subst y
      exact ⟨al, by omega⟩
  · rintro e S2 ⟨x4, x8, ls, rfl, g1, g2, gm, hll, hls⟩
    exact tail5_wp (k := k) g2 ⟨by omega, fun l hl => ⟨(hls l hl).1, by have := (hls l hl).2; omega⟩⟩
theorem line_lc {e : Env} {r : Nat} {es : List TEnt} {X X' : XP} {Q : List D → Store → Prop} (hi : 9 < e.length) (hr : getL S r = some (es.map teD)) (hl : es.length ≤ 42) (ho : ∀ e ∈ es, TOk e) (q : Q ((es.map lineL).map tD) S) :
    Wp (optR (seqItr (.ref r) S) S) X fun j S1 => Wp (lcGo (.name 9) j none (ev (prog.cx fuel (callN prog fuel (k + 6))) (.call "_law_line" [.var 9])) e j.n 0 [] S1) X' Q := by
  refine lc_seq (xs := es.map teD) (fun i acc S2 => S2 = S ∧ acc = ((es.take i).map lineL).map tD) hr ⟨rfl, rfl⟩ ?_ ?_
  · rintro i x acc S2 hx hi2 ⟨rfl, rfl⟩
    obtain ⟨c, hc, rfl⟩ := map_get hx
    have hil : i < es.length := by simpa using hi2
    refine ⟨hr, _, bind_name hi, ?_⟩
    simp [wpx, wpo, List.getElem?_set_self hi, line_e (ho c (List.mem_of_getElem? hc))]
    refine ⟨by unfold lim; omega, ?_⟩
    rw [List.take_succ, List.getElem?_map, hc]
    rfl
  · rintro acc S2 ⟨rfl, rfl⟩
    refine ⟨hr, ?_⟩
    rw [List.take_of_length_le (by simp)]
    exact q
theorem law_wp (ns : List Int) : Wp (callN prog fuel (k + 7) "law" [.frl (ns.map .int)] S) (fun _ _ => False) fun r _ => r = .bl true := by
  apply wp_callN lk_law rfl
  have hb : d_law.body = d_law.body.take 3 ++ tl3 := rfl
  rw [hb, wp_app]
  simp only [d_law, List.take]
  simp [wpx, wpo, wps]
  refine (entries_wp (k := k + 3)).imp ?_
  rintro x S1 ⟨h1, q, es, rfl, hq, g, hl, ho⟩
  simp [wpx, wpo, wps]
  refine line_lc (k := k) (by simp [wipeE]) g hl ho ?_
  have g2 : getL (S1 ++ [.lst ((es.map lineL).map tD)]) S1.length = some ((es.map lineL).map tD) := getL_new
  have gq : getL (S1 ++ [.lst ((es.map lineL).map tD)]) q = some (es.map teD) := Ext.one.getL g
  have hq1 : q ≠ S1.length := by have := getL_lt g; omega
  generalize hS : S1 ++ [.lst ((es.map lineL).map tD)] = S2 at *
  generalize S1.length = r2 at *
  by_cases h40 : (es.length : Int) ≤ 40
  · simp [wpx, wpo, wps, gq, h40]
    have g3 : getL (S2 ++ [.lst (es.map teD)]) S2.length = some (es.map teD) := getL_new
    have gq3 : getL (S2 ++ [.lst (es.map teD)]) q = some (es.map teD) := Ext.one.getL gq
    have g23 : getL (S2 ++ [.lst (es.map teD)]) r2 = some ((es.map lineL).map tD) := Ext.one.getL g2
    generalize S2.length = q6 at *
    generalize S2 ++ [.lst (es.map teD)] = S3 at *
    refine (show_row_wp (k := k + 4) hSh g3 ho (by omega)).imp ?_
    rintro x S4 ⟨rfl, rfl⟩
    have e1 : eqD (S3 ++ [Cell.lst ((es.map lineL).map tD)]) (.ref S3.length) (.ref r2) = some true := eqD_txs getL_new (Ext.one.getL g23) fun l hl => by
      obtain ⟨e, _, rfl⟩ := List.mem_map.mp hl
      exact asc_line e
    have e2 : eqD (S3 ++ [Cell.lst ((es.map lineL).map tD)]) (.ref q6) (.ref q) = some true := eqD_tes (Ext.one.getL g3) (Ext.one.getL gq3)
    have gq4 : getL (S3 ++ [Cell.lst ((es.map lineL).map tD)]) q = some (es.map teD) := Ext.one.getL gq3
    have g24 : getL (S3 ++ [Cell.lst ((es.map lineL).map tD)]) r2 = some ((es.map lineL).map tD) := Ext.one.getL g23
    generalize S3 ++ [Cell.lst ((es.map lineL).map tD)] = S4 at *
    simp [wpx, wpo, wps, e1, e2]
    exact tail3_wp (k := k) gq4 g24 hq1 hl ho
  · simp [wpx, wpo, wps, gq, h40]
    exact tail3_wp (k := k) gq g2 hq1 hl ho
theorem law_true (ns : List Int) (h1 : ns.length ≤ 63) (h2 : ∀ z ∈ ns, PySem.Builtin.Int.intBits z ≤ 1048576) : ∃ S', callN prog fuel 60 "law" [.frl (ns.map .int)] [] = .ok (.bl true) S' :=
  ok_of (law_wp (k := 53) ns)
end
end LawP
theorem PySem.Challenge.cw_lath_k85_rows_as_lines_holds : PySem.Challenge.rw_lath_k85_rows_as_lines.Holds :=
  LawE.fin LawP.fuel (fun ns h1 h2 => LawP.law_true ns h1 h2)
