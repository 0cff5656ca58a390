import PyProof.Rows.All
import Wide.All
import OpenK.AllK
import Wide.FinOn
import HandS.ForMost
import HandS.ForExc
import HandS.Wide
import HandS.StrMore
import HandS.IsInst
import HandS.TupAny
import HandS.Style
import HandS.Walk
import HandS.Flow
import PyProof.TupleKey
import PyProof.EqKinds
import HandS.WideBits
import HandS.TupMul
import HandS.ExcIs
import HandS.Deep
import HandS.Conv
import HandS.Dict
import HandS.More
import HandS.SortInts
import KE.KDictPairs
import HandS.SetTxt0
import HandS.SetFor
import KE.KItemsList
import HandS.ListItems
import KE.SortData
import HandS.TupLe
import PyProof.NeKinds
import PyProof.WalksMore
import PyProof.SetRoads
import HandS.Sort
import HandS.Zip
import HandS.Defaults
import PySem.Challenge.RW_cellsinstep_k36_what_is_an_array
set_option Elab.async false
set_option linter.all false
set_option maxRecDepth 100000
set_option maxHeartbeats 4000000
/-! plain data -/
namespace PL
open PySem PySem.Spec PyProof.Rows L2
/-- plain data that never changes -/
inductive Dt where
  | non
  | bl (b : Bool)
  | int (i : Int)
  | str (x : Str)
  | ref (a : Addr)
  | tup (xs : List Dt)
end PL
/-! plain data in the heap: equality at any depth; tuples of tuples as keys of dicts -/
namespace PL
open PySem PySem.Spec PyProof.Rows L2
open PySem.SeqAt (EqAt RcAt)
mutual
/-- the value is that datum -/
def DatAt (h : Heap) : Dt → Value → Prop
  | .non, v => v = .none
  | .bl b, v => v = .bool b
  | .int i, v => ∃ t, v = .int i t
  | .str x, v => ∃ t, v = .str x t
  | .ref _, _ => False
  | .tup ds, v => ∃ a items, v = .ref a ∧ h.IsTuple a items ∧ DatsAt h ds items.toList
def DatsAt (h : Heap) : List Dt → List Value → Prop
  | [], vs => vs = []
  | d :: ds, vs => ∃ v ws, vs = v :: ws ∧ DatAt h d v ∧ DatsAt h ds ws
end
mutual
/-- == of plain data -/
def deq : Dt → Dt → Bool
  | .non, .non => true
  | .bl a, .bl b => a == b
  | .bl a, .int b => (if a then 1 else 0) == b
  | .int a, .bl b => a == (if b then 1 else 0)
  | .int a, .int b => a == b
  | .str a, .str b => a == b
  | .tup a, .tup b => deqs a b
  | _, _ => false
def deqs : List Dt → List Dt → Bool
  | [], [] => true
  | a :: as, b :: bs => deq a b && deqs as bs
  | _, _ => false
end
mutual
def dpt : Dt → Nat
  | .tup ds => dpts ds + 1
  | _ => 0
def dpts : List Dt → Nat
  | [] => 0
  | d :: ds => max (dpt d) (dpts ds)
end
theorem dpts_mem : ∀ {ds : List Dt} {d : Dt}, d ∈ ds → dpt d ≤ dpts ds
  | [], _, h => by cases h
  | e :: ds, d, h => by
    unfold dpts
    rcases List.mem_cons.mp h with rfl | h
    · exact Nat.le_max_left _ _
    · exact Nat.le_trans (dpts_mem h) (Nat.le_max_right _ _)
theorem DatsAt.length {h : Heap} : ∀ {ds : List Dt} {vs : List Value}, DatsAt h ds vs → vs.length = ds.length
  | [], _, x => by rw [show _ = _ from x]; rfl
  | d :: ds, _, x => by
    obtain ⟨v, ws, rfl, _, h2⟩ := x
    simp [DatsAt.length h2]
mutual
theorem DatAt.inj {h : Heap} : ∀ {d e : Dt} {v : Value}, DatAt h d v → DatAt h e v → d = e
  | .non, e, _, x, y => by
    rw [show _ = _ from x] at y
    cases e <;> first | rfl | exact y.elim | (obtain ⟨_, _, q, _⟩ := y; exact absurd q nofun) | (obtain ⟨_, q⟩ := y; exact absurd q nofun) | exact absurd y nofun
  | .bl b, e, _, x, y => by
    rw [show _ = _ from x] at y
    cases e <;> first | (cases (show Value.bool _ = Value.bool _ from y); rfl) | exact y.elim | (obtain ⟨_, _, q, _⟩ := y; exact absurd q nofun) | (obtain ⟨_, q⟩ := y; exact absurd q nofun) | exact absurd y nofun
  | .int i, e, _, x, y => by
    obtain ⟨t, rfl⟩ := x
    cases e <;> first | (obtain ⟨_, q⟩ := y; injection q with q1 q2; rw [q1]; done) | exact y.elim | (obtain ⟨_, _, q, _⟩ := y; exact absurd q nofun) | (obtain ⟨_, q⟩ := y; exact absurd q nofun) | exact absurd y nofun
  | .str i, e, _, x, y => by
    obtain ⟨t, rfl⟩ := x
    cases e <;> first | (obtain ⟨_, q⟩ := y; injection q with q1 q2; rw [q1]; done) | exact y.elim | (obtain ⟨_, _, q, _⟩ := y; exact absurd q nofun) | (obtain ⟨_, q⟩ := y; exact absurd q nofun) | exact absurd y nofun
  | .ref _, _, _, x, _ => x.elim
  | .tup ds, e, _, x, y => by
    obtain ⟨a, items, rfl, ⟨o, g, _, n, hd⟩, x2⟩ := x
    cases e with
    | tup es =>
      obtain ⟨b, items', e1, ⟨o', g', _, n', hd'⟩, y2⟩ := y
      cases e1
      rw [g] at g'
      cases g'
      rw [hd] at hd'
      injection hd' with e2 _
      subst e2
      rw [DatsAt.inj x2 y2]
    | non => exact absurd (show Value.ref a = .none from y) nofun
    | bl b => exact absurd (show Value.ref a = .bool b from y) nofun
    | int i => obtain ⟨_, y⟩ := y; cases y
    | str i => obtain ⟨_, y⟩ := y; cases y
    | ref i => exact y.elim
theorem DatsAt.inj {h : Heap} : ∀ {ds es : List Dt} {vs : List Value}, DatsAt h ds vs → DatsAt h es vs → ds = es
  | [], es, _, x, y => by
    rw [show _ = _ from x] at y
    cases es with
    | nil => rfl
    | cons e es => obtain ⟨_, _, y, _⟩ := y; cases y
  | d :: ds, es, _, x, y => by
    obtain ⟨v, ws, rfl, x1, x2⟩ := x
    cases es with
    | nil => cases (show _ = _ from y)
    | cons e es =>
      obtain ⟨v', ws', e1, y1, y2⟩ := y
      cases e1
      rw [DatAt.inj x1 y1, DatsAt.inj x2 y2]
end
mutual
theorem deq_refl : ∀ {h : Heap} {d : Dt} {v : Value}, DatAt h d v → deq d d = true
  | _, .non, _, _ => rfl
  | _, .bl b, _, _ => by simp [deq]
  | _, .int i, _, _ => by simp [deq]
  | _, .str i, _, _ => by simp [deq]
  | _, .ref _, _, x => x.elim
  | h, .tup ds, _, x => by
    obtain ⟨_, _, _, _, x⟩ := x
    exact deqs_refl x
theorem deqs_refl : ∀ {h : Heap} {ds : List Dt} {vs : List Value}, DatsAt h ds vs → deqs ds ds = true
  | _, [], _, _ => rfl
  | h, d :: ds, _, x => by
    obtain ⟨v, ws, rfl, x1, x2⟩ := x
    simp only [deqs, deq_refl x1, deqs_refl x2, Bool.and_true]
end
section
variable {prog : Program} {w : World} {A : Around} {E : Value → Shared → Prop} {s : Shared}
theorem IsTuple_typeIs {a : Addr} {items : Array Value} (x : s.heap.IsTuple a items) : s.TypeIs (.ref a) "tuple" := let ⟨o, ho, hc, _⟩ := x; ⟨o, ho, hc⟩
/-- tuple.__eq__ over data, whose items' equality is known -/
theorem tuple_eqD {x y : List Dt} {a b : Addr} {xs ys : Array Value} {P : Fin → Shared → Prop} (hx : s.heap.IsTuple a xs) (hy : s.heap.IsTuple b ys) (dx : DatsAt s.heap x xs.toList) (dy : DatsAt s.heap y ys.toList)
    (ih : ∀ d ∈ x, ∀ e ∈ y, ∀ u v, DatAt s.heap d u → DatAt s.heap e v → EqAt A s u v (deq d e)) (h : P (.done (.ret (.bool (deqs x y)))) s) :
    wpAny (model prog w) A (Builtin.«tuple.__eq__» ⟨[.ref a, .ref b], []⟩) P E s := by
  have hTb := IsTuple_typeIs hy
  obtain ⟨oa, hoa, _, na, hda⟩ := hx
  obtain ⟨ob, hob, _, nb, hdb⟩ := hy
  show wpAny _ _ (isInstance (.ref b) (.type "tuple") >>= _) _ _ s
  refine wpAny_bind (wpAny_isInstance hTb isSubtype_tuple_tuple ?_)
  simp only [Bool.not_true, Bool.false_eq_true, if_false]
  refine wpAny_bind (wpAny_tupleItemsOf hoa hda ?_)
  refine wpAny_bind (wpAny_tupleItemsOf hob hdb ?_)
  refine wpAny_bind ?_
  refine wpAny_forIn_list _
    (fun rest r s' => r.1 = none ∧ s' = s ∧ ∃ x' y' xs' ys', rest = List.zip xs' ys' ∧ DatsAt s.heap x' xs' ∧ DatsAt s.heap y' ys' ∧ (∀ d ∈ x', d ∈ x) ∧ (∀ e ∈ y', e ∈ y) ∧ deqs x' y' = deqs x y ∧ (xs'.length == ys'.length) = (xs.size == ys.size))
    _ ?_ ?_ _ _ ⟨rfl, rfl, x, y, xs.toList, ys.toList, rfl, dx, dy, fun _ z => z, fun _ z => z, rfl, by simp⟩
  · rintro ⟨u, v⟩ rest r s' ⟨hr, rfl, x', y', xs', ys', hz, hx', hy', hm, hm2, hdec, hlen⟩
    cases x' with
    | nil => rw [show xs' = [] from hx'] at hz; simp at hz
    | cons k1 x'' =>
      obtain ⟨u', xs'', rfl, h1, hx''⟩ := hx'
      cases y' with
      | nil => rw [show ys' = [] from hy'] at hz; simp at hz
      | cons k2 y'' =>
        obtain ⟨v', ys'', rfl, h2, hy''⟩ := hy'
        simp only [List.zip_cons_cons, List.cons.injEq, Prod.mk.injEq] at hz
        obtain ⟨⟨rfl, rfl⟩, rfl⟩ := hz
        refine wpAny_bind (ih k1 (hm _ List.mem_cons_self) k2 (hm2 _ List.mem_cons_self) u v h1 h2 prog w E _ ?_)
        cases hk : deq k1 k2 with
        | true =>
          simp only [Bool.not_true, Bool.false_eq_true, if_false]
          refine wpAny_pure ⟨rfl, rfl, x'', y'', xs'', ys'', rfl, hx'', hy'', fun d hd => hm d (List.mem_cons_of_mem _ hd), fun d hd => hm2 d (List.mem_cons_of_mem _ hd), ?_, by simpa using hlen⟩
          rw [← hdec]
          simp only [deqs, hk, Bool.true_and]
        | false =>
          simp only [Bool.not_false, if_true]
          have hf : deqs x y = false := by rw [← hdec]; simp only [deqs, hk, Bool.false_and]
          rw [hf] at h
          exact wpAny_bind (wpAny_pure (wpAny_pure (wpAny_pure h)))
  · rintro ⟨r1, r2⟩ s' ⟨hr, rfl, x', y', xs', ys', hz, hx', hy', hm, hm2, hdec, hlen⟩
    simp only at hr
    subst hr
    refine wpAny_pure ?_
    have hfin : (xs.size == ys.size) = deqs x y := by
      rw [← hdec, ← hlen]
      cases x' with
      | nil =>
        rw [show xs' = [] from hx']
        cases y' with
        | nil => rw [show ys' = [] from hy']; rfl
        | cons _ _ => obtain ⟨_, _, rfl, _⟩ := hy'; rfl
      | cons _ _ =>
        obtain ⟨_, _, rfl, _⟩ := hx'
        cases y' with
        | nil => rw [show ys' = [] from hy']; rfl
        | cons _ _ =>
          obtain ⟨_, _, rfl, _⟩ := hy'
          simp at hz
    show P (.done (.ret (.bool (xs.size == ys.size)))) s'
    rw [hfin]; exact h
theorem eqAt_tuples {x y : List Dt} {a b : Addr} {xs ys : Array Value} (hu : A.units < cLine) (hx : s.heap.IsTuple a xs) (hy : s.heap.IsTuple b ys) (dx : DatsAt s.heap x xs.toList) (dy : DatsAt s.heap y ys.toList)
    (ih : ∀ (A' : Around), A'.units ≤ A.units + 2 → ∀ d ∈ x, ∀ e ∈ y, ∀ u v, DatAt s.heap d u → DatAt s.heap e v → EqAt A' s u v (deq d e)) : EqAt A s (.ref a) (.ref b) (deqs x y) := fun prog w E Q h => by
  unfold eqBool
  try with_reducible refine wpAny_holding ?_
  show wpAny _ _ (if (Value.ref a == Value.ref b) = true then _ else _) Q E s
  by_cases hab : (Value.ref a == Value.ref b) = true
  · rw [if_pos hab]
    have e : a = b := by have := eq_of_beq hab; injection this
    subst e
    obtain ⟨oa, hoa, _, na, hda⟩ := hx
    obtain ⟨ob, hob, _, nb, hdb⟩ := hy
    rw [hoa] at hob
    cases hob
    rw [hda] at hdb
    injection hdb with e2 _
    subst e2
    obtain rfl := DatsAt.inj dx dy
    rw [deqs_refl dx] at h
    exact wpAny_bind (wpAny_rule (wpAny_pure h))
  · rw [if_neg hab]
    refine wpAny_bind (wpAny_richCompare_same_room (op := .Eq) (IsTuple_typeIs hx) (IsTuple_typeIs hy) F.slot_tuple_eq
      (wpAny_call_entry F.slot_tuple_eq (IsTuple_typeIs hx) F.entry_tuple_eq (tuple_eqD hx hy dx dy (ih _ ?_) ⟨_, rfl, (fun e => nomatch e), wpAny_truthy_bool h⟩) (F.args_tuple_eq_2 _ _)) hu)
    show A.units + 1 ≤ A.units + 2
    omega
theorem eqAt_none : EqAt A s .none .none true := fun prog w E Q h => by
  unfold eqBool
  refine wpAny_holding ?_
  show wpAny _ _ (if (Value.none == Value.none) = true then _ else _) Q E s
  rw [if_pos (by rfl)]
  exact wpAny_bind (wpAny_rule (wpAny_pure h))
/-- == of plain data -/
theorem eqAt_dat : ∀ (n : Nat) {A : Around} {d e : Dt} {u v : Value}, (dpt d ≤ n ∨ dpt e ≤ n) → A.units + 2 * n < cLine → DatAt s.heap d u → DatAt s.heap e v → EqAt A s u v (deq d e) := by
  intro n
  induction n with
  | zero =>
    intro A d e u v hd hu x y
    have hu : A.units < cLine := by omega
    cases d with
    | tup ds =>
      obtain ⟨a, items, rfl, ha, x2⟩ := x
      cases e with
      | tup es => exact absurd hd (by simp [dpt])
      | non => cases (show v = _ from y); exact EqAt.tuple_none ha hu
      | bl b => cases (show v = _ from y); exact EqAt.tuple_bool b ha hu
      | int i => obtain ⟨t, rfl⟩ := y; exact EqAt.tuple_int i t ha hu
      | str i => obtain ⟨t, rfl⟩ := y; exact EqAt.tuple_str i t ha hu
      | ref a => exact y.elim
    | ref a => exact x.elim
    | non =>
      cases (show u = _ from x)
      cases e with
      | non => cases (show v = _ from y); exact eqAt_none
      | bl b => cases (show v = _ from y); exact EqAt.none_bool b
      | int i => obtain ⟨t, rfl⟩ := y; exact EqAt.none_int i t
      | str i => obtain ⟨t, rfl⟩ := y; exact EqAt.none_str i t
      | ref a => exact y.elim
      | tup es => obtain ⟨a, items, rfl, h, _⟩ := y; exact EqAt.none_tuple h hu
    | bl c =>
      cases (show u = _ from x)
      cases e with
      | non => cases (show v = _ from y); exact EqAt.bool_none c
      | bl b => cases (show v = _ from y); exact EqAt.bool_bool c b
      | int i => obtain ⟨t, rfl⟩ := y; exact EqAt.bool_int c i t
      | str i => obtain ⟨t, rfl⟩ := y; exact EqAt.bool_str c i t
      | ref a => exact y.elim
      | tup es => obtain ⟨a, items, rfl, h, _⟩ := y; exact EqAt.bool_tuple c h hu
    | int c =>
      obtain ⟨t0, rfl⟩ := x
      cases e with
      | non => cases (show v = _ from y); exact EqAt.int_none c t0
      | bl b => cases (show v = _ from y); exact EqAt.int_bool c t0 b
      | int i => obtain ⟨t, rfl⟩ := y; exact EqAt.int_int c t0 i t
      | str i => obtain ⟨t, rfl⟩ := y; exact EqAt.int_str c t0 i t
      | ref a => exact y.elim
      | tup es => obtain ⟨a, items, rfl, h, _⟩ := y; exact EqAt.int_tuple c t0 h hu
    | str c =>
      obtain ⟨t0, rfl⟩ := x
      cases e with
      | non => cases (show v = _ from y); exact EqAt.str_none c t0
      | bl b => cases (show v = _ from y); exact EqAt.str_bool c t0 b
      | int i => obtain ⟨t, rfl⟩ := y; exact EqAt.str_int c t0 i t
      | str i => obtain ⟨t, rfl⟩ := y; exact EqAt.str_str c t0 i t
      | ref a => exact y.elim
      | tup es => obtain ⟨a, items, rfl, h, _⟩ := y; exact EqAt.str_tuple c t0 h hu
  | succ n ih =>
    intro A d e u v hd hu x y
    cases d with
    | tup ds =>
      obtain ⟨a, items, rfl, ha, x2⟩ := x
      have hu0 : A.units < cLine := by omega
      cases e with
      | tup es =>
        obtain ⟨b, items', rfl, hb, y2⟩ := y
        exact eqAt_tuples hu0 ha hb x2 y2 fun A' hA d' hd' e' he' u' v' h1 h2 => ih (by have := dpts_mem hd'; have := dpts_mem he'; simp only [dpt] at hd; omega) (by omega) h1 h2
      | non => cases (show v = _ from y); exact EqAt.tuple_none ha hu0
      | bl b => cases (show v = _ from y); exact EqAt.tuple_bool b ha hu0
      | int i => obtain ⟨t, rfl⟩ := y; exact EqAt.tuple_int i t ha hu0
      | str i => obtain ⟨t, rfl⟩ := y; exact EqAt.tuple_str i t ha hu0
      | ref a => exact y.elim
    | _ => exact ih (.inl (by simp [dpt])) (by omega) x y
end
end PL
/-! tuples of tuples as keys: their hash, the kind of key -/
namespace PL
open PySem PySem.Spec PyProof.Rows L2
open PySem.SeqAt (EqAt RcAt)
noncomputable section
mutual
/-- may be (part of) a key -/
def kOk : Dt → Bool
  | .int _ => true
  | .str _ => true
  | .tup ds => kOks ds
  | _ => false
def kOks : List Dt → Bool
  | [] => true
  | d :: ds => kOk d && kOks ds
end
mutual
def hashD (w : World) : Dt → Int
  | .int i => keyH w (.inl i)
  | .str x => keyH w (.inr x)
  | .tup ds => reduceHash (Builtin.Tuple.tupleHashOf (hashDs w ds))
  | _ => 0
def hashDs (w : World) : List Dt → List Int
  | [] => []
  | d :: ds => hashD w d :: hashDs w ds
end
mutual
theorem DatAt.keep {h h' : Heap} {P : Addr → Prop} (hk : ∀ a items, ¬ P a → h.IsTuple a items → h'.IsTuple a items) (hP : ∀ a items, h.IsTuple a items → ¬ P a) : ∀ {d : Dt} {v : Value}, DatAt h d v → DatAt h' d v
  | .non, _, x => x
  | .bl _, _, x => x
  | .int _, _, x => x
  | .str _, _, x => x
  | .ref _, _, x => x.elim
  | .tup ds, _, x => by
    obtain ⟨a, items, e, ha, x2⟩ := x
    exact ⟨a, items, e, hk _ _ (hP _ _ ha) ha, DatsAt.keep hk hP x2⟩
theorem DatsAt.keep {h h' : Heap} {P : Addr → Prop} (hk : ∀ a items, ¬ P a → h.IsTuple a items → h'.IsTuple a items) (hP : ∀ a items, h.IsTuple a items → ¬ P a) : ∀ {ds : List Dt} {vs : List Value}, DatsAt h ds vs → DatsAt h' ds vs
  | [], _, x => x
  | d :: ds, _, x => by
    obtain ⟨v, ws, e, h1, h2⟩ := x
    exact ⟨v, ws, e, DatAt.keep hk hP h1, DatsAt.keep hk hP h2⟩
end
instance : DecidableEq (List Dt) := fun _ _ => Classical.propDecidable _
end
end PL
/-! PL: a layer of plain data over the hand layer: what a slot holds is told by plain data, no address is seen. -/
namespace PL
open PySem PySem.Spec PyProof.Rows L2
/-- containers that may change -/
inductive Cn where
  | lst (ds : List Dt)
  | dk (kvs : List (Key × Dt))
  | dn (w : World) (kvs : List (List Dt × Dt))
  | st (ns : List Int) (i r k : Int)
  | lls (dss : List (List Dt))
  | scr (ns : List Int)
/-- what a slot (or a temporary) holds -/
inductive Sl where
  | no
  | im (d : Dt)
  | own (c : Cn)
  | mu (c : Cn)
  | rd (c : Cn)
  | lk (m : Bool) (c : Cn)
  | al (i : Nat)
/-- a tuple without a dict of its own -/
def SqN (K : PySem.W.Frag) (H : Hp) (a : Addr) (xs : List V) : Prop :=
  (∃ o : Obj, o.dict = none ∧ H a = some (.frz o (.tup xs))) ∨ ∃ (o : Obj) (its : Array Value) (n : Nat), K.lookup a = some o ∧ o.cls = .type "tuple" ∧ o.dict = none ∧ o.data = .seq its n ∧ its.size ≤ sizeLine ∧ Vals xs its.toList
theorem SqN.t {K : PySem.W.Frag} {H : Hp} {a : Addr} {xs : List V} (h : SqN K H a xs) : SqT K H a xs := by
  rcases h with ⟨o, _, h⟩ | ⟨o, its, n, h1, h2, _, h3, h4, h5⟩
  · exact .inl (.inr ⟨o, h⟩)
  · exact .inr ⟨o, its, n, h1, h2, h3, h4, h5⟩
instance {K : PySem.W.Frag} {H : Hp} {a : Addr} {xs : List V} : Coe (SqN K H a xs) (SqT K H a xs) := ⟨SqN.t⟩
mutual
def Imm (K : PySem.W.Frag) (H : Hp) : Dt → V → Prop
  | .non, v => v = .non
  | .bl b, v => v = .bl b
  | .int i, v => v = .int i
  | .str x, v => v = .str x
  | .ref a, v => v = .ref a
  | .tup ds, v => ∃ a vs, v = .ref a ∧ SqN K H a vs ∧ Imms K H ds vs
def Imms (K : PySem.W.Frag) (H : Hp) : List Dt → List V → Prop
  | [], vs => vs = []
  | d :: ds, vs => ∃ v ws, vs = v :: ws ∧ Imm K H d v ∧ Imms K H ds ws
end
def Tups (H H' : Hp) : Prop := ∀ a o xs, H a = some (.frz o (.tup xs)) → H' a = some (.frz o (.tup xs))
theorem Tups.refl (H : Hp) : Tups H H := fun _ _ _ h => h
theorem Tups.trans {H H1 H2 : Hp} (a : Tups H H1) (b : Tups H1 H2) : Tups H H2 := fun c o xs h => b c o xs (a c o xs h)
theorem Tups.seq {K : PySem.W.Frag} {H H' : Hp} {a : Addr} {xs : List V} (t : Tups H H') (h : SqN K H a xs) : SqN K H' a xs := by
  rcases h with ⟨o, e, h⟩ | h
  · exact .inl ⟨o, e, t _ _ _ h⟩
  · exact .inr h
mutual
theorem Imm.mono {K : PySem.W.Frag} {H H' : Hp} (t : Tups H H') : ∀ (d : Dt) (v : V), Imm K H d v → Imm K H' d v
  | .non, _, h => h
  | .bl _, _, h => h
  | .int _, _, h => h
  | .str _, _, h => h
  | .ref _, _, h => h
  | .tup ds, _, h => by
    obtain ⟨a, vs, e, h1, h2⟩ := h
    exact ⟨a, vs, e, t.seq h1, Imms.mono t ds vs h2⟩
theorem Imms.mono {K : PySem.W.Frag} {H H' : Hp} (t : Tups H H') : ∀ (ds : List Dt) (vs : List V), Imms K H ds vs → Imms K H' ds vs
  | [], _, h => h
  | d :: ds, _, h => by
    obtain ⟨v, ws, e, h1, h2⟩ := h
    exact ⟨v, ws, e, Imm.mono t d v h1, Imms.mono t ds ws h2⟩
end
theorem Imms.length {K : PySem.W.Frag} {H : Hp} : ∀ {ds : List Dt} {vs : List V}, Imms K H ds vs → vs.length = ds.length
  | [], _, h => by rw [show _ = _ from h]; rfl
  | d :: ds, _, h => by
    obtain ⟨v, ws, e, h1, h2⟩ := h
    rw [e, List.length_cons, List.length_cons, Imms.length h2]
theorem Imms.get {K : PySem.W.Frag} {H : Hp} : ∀ {ds : List Dt} {vs : List V} {i : Nat} {d : Dt}, Imms K H ds vs → ds[i]? = some d → ∃ v, vs[i]? = some v ∧ Imm K H d v
  | [], _, _, _, _, e => by simp at e
  | d0 :: ds, _, 0, d, h, e => by
    obtain ⟨v, ws, e1, h1, h2⟩ := h
    simp at e
    subst e
    exact ⟨v, by rw [e1]; rfl, h1⟩
  | d0 :: ds, _, i + 1, d, h, e => by
    obtain ⟨v, ws, e1, h1, h2⟩ := h
    obtain ⟨w, e2, h3⟩ := Imms.get (i := i) (d := d) h2 (by simpa using e)
    exact ⟨w, by rw [e1]; simpa using e2, h3⟩
theorem Imms.nil {K : PySem.W.Frag} {H : Hp} : Imms K H [] [] := rfl
theorem Imms.cons {K : PySem.W.Frag} {H : Hp} {d : Dt} {v : V} {ds : List Dt} {vs : List V} (h : Imm K H d v) (t : Imms K H ds vs) : Imms K H (d :: ds) (v :: vs) := ⟨v, vs, rfl, h, t⟩
theorem Imms.append {K : PySem.W.Frag} {H : Hp} : ∀ {ds es : List Dt} {vs ws : List V}, Imms K H ds vs → Imms K H es ws → Imms K H (ds ++ es) (vs ++ ws)
  | [], _, _, _, h, t => by rw [show _ = _ from h]; exact t
  | d :: ds, es, _, ws, h, t => by
    obtain ⟨v, us, e, h1, h2⟩ := h
    rw [e]
    exact ⟨v, us ++ ws, rfl, h1, Imms.append h2 t⟩
theorem Imms.take {K : PySem.W.Frag} {H : Hp} : ∀ (n : Nat) {ds : List Dt} {vs : List V}, Imms K H ds vs → Imms K H (ds.take n) (vs.take n)
  | 0, _, _, _ => by simp; exact Imms.nil
  | n + 1, [], _, h => by rw [show _ = _ from h]; simp; exact Imms.nil
  | n + 1, d :: ds, _, h => by
    obtain ⟨v, us, e, h1, h2⟩ := h
    rw [e]
    exact ⟨v, us.take n, rfl, h1, Imms.take n h2⟩
theorem Imms.drop {K : PySem.W.Frag} {H : Hp} : ∀ (n : Nat) {ds : List Dt} {vs : List V}, Imms K H ds vs → Imms K H (ds.drop n) (vs.drop n)
  | 0, _, _, h => h
  | n + 1, [], _, h => by rw [show _ = _ from h]; simp; exact Imms.nil
  | n + 1, d :: ds, _, h => by
    obtain ⟨v, us, e, h1, h2⟩ := h
    rw [e]
    exact Imms.drop n h2
theorem Imms.set {K : PySem.W.Frag} {H : Hp} {d : Dt} {v : V} (hv : Imm K H d v) : ∀ (n : Nat) {ds : List Dt} {vs : List V}, Imms K H ds vs → Imms K H (ds.set n d) (vs.set n v)
  | _, [], _, h => by rw [show _ = _ from h]; simp; exact Imms.nil
  | 0, _ :: ds, _, h => by
    obtain ⟨w, us, e, h1, h2⟩ := h
    rw [e]
    exact ⟨v, us, rfl, hv, h2⟩
  | n + 1, _ :: ds, _, h => by
    obtain ⟨w, us, e, h1, h2⟩ := h
    rw [e]
    exact ⟨w, us.set n v, rfl, h1, Imms.set hv n h2⟩
theorem Imms.inj1 {K : PySem.W.Frag} {H : Hp} {d : Dt} {vs : List V} (h : Imms K H [d] vs) : ∃ v, vs = [v] ∧ Imm K H d v := by
  obtain ⟨v, ws, e, h1, h2⟩ := h
  have e2 : ws = [] := h2
  subst e2
  exact ⟨v, e, h1⟩
/-! ### containers -/
def LLs (K : PySem.W.Frag) (H : Hp) : List (List Dt) → List Addr → Prop
  | [], bs => bs = []
  | ds :: dss, bs => ∃ b cs vs, bs = b :: cs ∧ H b = some (.lst vs) ∧ Imms K H ds vs ∧ LLs K H dss cs
/-- a list that stands in the written part -/
def Stc (K : PySem.W.Frag) (a : Addr) (xs : List V) : Prop := ∃ (o : Obj) (its : Array Value) (n : Nat), K.lookup a = some o ∧ o.cls = .type "list" ∧ o.dict = none ∧ o.data = .seq its n ∧ its.size ≤ sizeLine ∧ Vals xs its.toList
/-- a dict whose keys are tuples, of tuples, too: its table -/
def dnP (w : World) (a : Addr) (xs : List (List Dt × Addr × V)) (h : Heap) : Prop := ∃ ys : List (List Dt × Addr × Value), Paired (fun x y => x.1 = y.1 ∧ x.2.1 = y.2.1 ∧ RelV x.2.2 y.2.2) xs ys ∧ (a == sysModules) = false ∧ xs.length ≤ sizeLine ∧ (xs.map (·.1)).Nodup ∧
  ∃ (o : Obj) (es : Array DictEntry) (ep : Nat), h.get? a = some o ∧ o.ExactDict ∧ o.data = .dict es ep ∧ es.toList = ys.map fun y => (⟨hashD w (.tup y.1), .ref y.2.1, y.2.2⟩ : DictEntry)
def DNo (w : World) (a : Addr) (xs : List (List Dt × Addr × V)) : HO := .ext (dnP w a xs)
def COk (m : Bool) (K : PySem.W.Frag) (H : Hp) : Cn → Addr → List Addr → Prop
  | .lst ds, a, fp => fp = [a] ∧ ∃ vs, H a = some (.lst vs) ∧ Imms K H ds vs
  | .dk kvs, a, fp => fp = [a] ∧ ∃ ks : List (Key × V), H a = some (.dK ks) ∧ ks.map (·.1) = kvs.map (·.1) ∧ Imms K H (kvs.map (·.2)) (ks.map (·.2))
  | .dn w kvs, a, fp => fp = [a] ∧ ∃ xs : List (List Dt × Addr × V), H a = some (DNo w a xs) ∧ xs.map (·.1) = kvs.map (·.1) ∧ Imms K H (kvs.map (·.2)) (xs.map (·.2.2)) ∧ Imms K H (kvs.map fun kv => Dt.tup kv.1) (xs.map fun x => V.ref x.2.1) ∧ ∀ kv ∈ kvs, kOks kv.1 = true ∧ dpts kv.1 ≤ 5
  | .st ns i r k, a, fp => ∃ b, fp = [a, b] ∧ H a = some (.lst [.ref b, .int i, .int r, .int k]) ∧ H b = some (.lst (ns.map V.int))
  | .lls dss, a, fp => ∃ bs : List Addr, fp = a :: bs ∧ H a = some (.lst (bs.map V.ref)) ∧ LLs K H dss bs
  | .scr ns, a, fp => m = false ∧ ((fp = [a] ∧ Rd H a (.lst (ns.map V.int))) ∨ (fp = [] ∧ Stc K a (ns.map V.int)))
/-- a thing that may change -/
def Mt : HO → Prop
  | .lst _ => True
  | .dK _ => True
  | .ext _ => True
  | _ => False
/-! ### the world: slots and temporaries -/
structure Cxt where
  H0 : Hp
  M : List Addr
  L : Nat → Option V
def Sl.isC : Sl → Prop
  | .own _ => True
  | .mu _ => True
  | .rd _ => True
  | .lk _ _ => True
  | _ => False
def SlotOk (K : PySem.W.Frag) (c : Cxt) (H : Hp) (ov : Option V) : Sl → List Addr → Prop
  | .no, fp => fp = []
  | .im d, fp => fp = [] ∧ ∃ v, ov = some v ∧ Imm K H d v
  | .own cn, fp => ∃ a, ov = some (.ref a) ∧ COk true K H cn a fp ∧ ∀ b ∈ fp, c.H0 b = none
  | .mu cn, fp => ∃ a, ov = some (.ref a) ∧ COk true K H cn a fp ∧ ∀ b ∈ fp, b ∈ c.M ∨ c.H0 b = none
  | .lk m cn, fp => ∃ a, ov = some (.ref a) ∧ COk true K H cn a fp ∧ ∀ b ∈ fp, (m = true ∧ b ∈ c.M) ∨ c.H0 b = none
  | .rd cn, fp => fp = [] ∧ ∃ a f, ov = some (.ref a) ∧ COk false K c.H0 cn a f ∧ ∀ b ∈ f, b ∉ c.M
  | .al _, fp => fp = [] ∧ ov ≠ none
/-- footprints of all of them, apart from one another -/
def Fam (K : PySem.W.Frag) (c : Cxt) (H : Hp) (vs : List (Option V)) (ss : List Sl) (fp : Nat → List Addr) : Prop :=
  (∀ (i : Nat) (s : Sl) (v : Option V), ss[i]? = some s → vs[i]? = some v → SlotOk K c H v s (fp i)) ∧ (∀ i, (fp i).Nodup) ∧ (∀ i j a, a ∈ fp i → a ∈ fp j → i = j) ∧ ∀ i, ss.length ≤ i → fp i = []
/-- the world holds -/
structure Wd (K : PySem.W.Frag) (c : Cxt) (H : Hp) (vs : List (Option V)) (ss : List Sl) : Prop where
  len : vs.length = ss.length
  frame : ∀ a o, c.H0 a = some o → a ∉ c.M → H a = some o
  dom : ∀ a, H a = none → c.H0 a = none
  mm : ∀ a ∈ c.M, ∀ o, c.H0 a = some o → Mt o
  fps : ∃ fp : Nat → List Addr, Fam K c H vs ss fp
  als : ∀ (j i : Nat), ss[j]? = some (Sl.al i) → i < j ∧ vs[j]? = vs[i]? ∧ ∃ s : Sl, ss[i]? = some s ∧ s.isC
  lks : ∀ (i : Nat) (v : V), c.L i = some v → vs[i]? = some (some v) ∧ ((∃ m cn, ss[i]? = some (Sl.lk m cn)) ∨ ∃ cn, ss[i]? = some (Sl.mu cn))
section
variable {K : PySem.W.Frag} {c : Cxt} {H H' : Hp} {vs ws : List (Option V)} {ss ts : List Sl}
end
end PL
/-! PL: new tuples, told as objects without a dict of their own (dict(t) asks a tuple for its keys first). -/
namespace PL
open PySem PySem.Spec PyProof.Rows L2
section
variable {X : Cx} {pins : List (Addr × Obj)} {σ : L2.St} {H : Hp} {s : Shared} {xs : List V} {its : List Value} {es : List Expr} {t : TA} {pos : Pos}
/-- what follows a new tuple of xs -/
def NT (H : Hp) (xs : List V) (Q : VK) : Prop := ∀ (p : Addr) (o : Obj), o.dict = none → H p = none → Q (.ref p) (upd H p (.frz o (.tup xs)))
theorem nt_push {Q : VK} (I : Inv X pins σ H s) (r : Vals xs its) (hz : xs.length ≤ sizeLine) (q : NT H xs Q) :
    ∃ x H', Inv X pins σ H' { s with heap := s.heap.push { cls := .type "tuple", data := .seq its.toArray } } ∧ RelV x (.ref s.heap.objs.size) ∧ Q x H' :=
  ⟨.ref s.heap.objs.size, _, I.laid (t' := s.toks) (o := .frz _ (.tup xs)) (fun _ _ e => Heap.get?_push_of_some _ e) (Nat.le_refl _) ⟨Heap.get?_push_size _ rfl, hz, its, r, IsTup.new _ _⟩, rfl, q _ _ rfl (I.hok.fresh (Nat.le_refl _))⟩
def tTupN (t : TA) : TE := fun σ H Q => t σ H fun xs H1 => xs.length ≤ sizeLine ∧ NT H1 xs Q
theorem pe_tupN {k : Nat} (h : PA X es t) : PE X (.Tuple es k pos) (tTupN t) := by
  refine ⟨fun pins s σ H Q I hq => wpAny_Tuple_spliced ?_⟩
  refine thn (h.run pos pins s σ H _ I hq) fun us s1 ⟨xs, H1, I1, r, z, q⟩ => ?_
  exact ⟨by rw [← r.length]; exact z, nt_push I1 r z q⟩
def rSlN (K : PySem.W.Frag) : V → Option Int → Option Int → Hp → VK → Prop := fun x lo hi H Q => ∃ a xs, x = .ref a ∧ SqT K H a xs ∧
  (HT.sIx xs.length 0 lo = 0 ∧ HT.sIx xs.length xs.length hi = xs.length → Q (.ref a) H) ∧ (¬ (HT.sIx xs.length 0 lo = 0 ∧ HT.sIx xs.length xs.length hi = xs.length) → NT H (cutV xs lo hi) Q)
theorem sl_tupN : SlR X (rSlN X.K) := fun pins s σ H x v vl vu lo hi sl Q I rx hs pl pu h => by
  obtain ⟨a, xs, rfl, hx, q1, q2⟩ := h
  by_cases hw : HT.sIx xs.length 0 lo = 0 ∧ HT.sIx xs.length xs.length hi = xs.length
  · exact sl_tupA pins s σ H _ v vl vu lo hi sl Q I rx hs pl pu ⟨a, xs, rfl, hx, fun _ => q1 hw, fun z => absurd hw z⟩
  · cases rx
    obtain ⟨its, r, ht, hz⟩ := I.tuple hx
    have hl : its.toArray.size = xs.length := by rw [List.size_toArray, r.length]
    refine ⟨"tuple", _, PyProof.Rows.slot_tuple_getitem.lookup, ht.typeIs, HT.getItem_tuple_cut ht hs pl pu (by rw [hl]; exact hw) ?_ (by rw [hl]; exact hz)⟩
    rw [hl]
    exact nt_push I ((r.drop _).take _) (Nat.le_trans (cutV_length xs lo hi) hz) (q2 hw)
def rCatN (K : PySem.W.Frag) : R2 := fun x y H Q => ∃ a b xs ys, x = .ref a ∧ y = .ref b ∧ SqT K H a xs ∧ SqT K H b ys ∧ xs.length + ys.length ≤ sizeLine ∧
  (xs = [] → Q (.ref b) H) ∧ (xs ≠ [] → ys = [] → Q (.ref a) H) ∧ (xs ≠ [] → ys ≠ [] → NT H (xs ++ ys) Q)
theorem op_catN : OpR X (binaryOp .Add) (rCatN X.K) := fun pins s σ H x y v u Q I rx ry h => by
  obtain ⟨a, b, xs, ys, rfl, rfl, ha, hb, hz, q0, q1, q2⟩ := h
  by_cases hx : xs = []
  · exact op_catA pins s σ H _ _ v u Q I rx ry ⟨a, b, xs, ys, rfl, rfl, ha, hb, hz, q0, q1, fun z => absurd hx z⟩
  · by_cases hy : ys = []
    · exact op_catA pins s σ H _ _ v u Q I rx ry ⟨a, b, xs, ys, rfl, rfl, ha, hb, hz, q0, q1, fun _ z => absurd hy z⟩
    · cases rx
      cases ry
      obtain ⟨its, r1, p1, _⟩ := I.tuple ha
      obtain ⟨js, r2, p2, _⟩ := I.tuple hb
      refine HT.cat_tup p1 p2 (fun z => hx (r1.nil_iff.mp z)) (fun z => absurd (r2.nil_iff.mp z) hy) (fun _ => ?_) (by rw [← r1.length, ← r2.length]; exact hz)
      exact nt_push I (r1.append r2) (by rw [List.length_append]; exact hz) (q2 hx hy)
/-- tuple(l), tuple(t) -/
def rTupOf (K : PySem.W.Frag) : List V → Hp → VK → Prop := fun xs H Q => ∃ p ys, xs = [V.ref p] ∧ ((SqL K H p ys ∧ NT H ys Q) ∨ (SqT K H p ys ∧ Q (.ref p) H))
theorem call_tupleN : CallR X (.type "tuple") (rTupOf X.K) := fun pins s σ H xs us Q I r h => by
  obtain ⟨p, ys, rfl, ⟨hq, q⟩ | h⟩ := h
  · obtain ⟨u, rfl, rx⟩ := vals1 r
    cases rx
    obtain ⟨its, r', pl, hz⟩ := I.list hq
    have hl := r'.length
    refine call_tuple_list pl.isList (fun h' kp => ?_) (by simp only [List.size_toArray] <;> omega)
    exact nt_push (s := { s with heap := h' }) (I.kept (t' := s.toks) kp) r' hz q
  · exact call_tuple_of pins s σ H _ us Q I r ⟨p, ys, rfl, .inr h⟩
/-- t * k -/
def rRepN (K : PySem.W.Frag) : R2 := fun x y H Q => ∃ l k xs, x = .ref l ∧ y = .int k ∧ SqT K H l xs ∧ xs ≠ [] ∧ 2 ≤ k ∧ k ≤ 1000 ∧ xs.length ≤ 1000 ∧ NT H (List.replicate k.toNat xs).flatten Q
theorem op_repN : OpR X (binaryOp .Mult) (rRepN X.K) := fun pins s σ H x y v u Q I rx ry h => by
  obtain ⟨l, k, xs, rfl, rfl, hT, hne, h1, h2, hz, q⟩ := h
  cases rx
  obtain ⟨t, rfl⟩ := ry
  obtain ⟨its, r, ⟨⟨cls, dd, data, sl⟩, ho, hc, n, hd⟩, hs⟩ := I.tuple hT
  cases (show cls = _ from hc)
  cases (show data = _ from hd)
  have hlen : its.length = xs.length := r.length.symm
  have hz2 : its.toArray.size = xs.length := by rw [List.size_toArray, hlen]
  have prod : k.toNat * xs.length ≤ 1000 * 1000 := Nat.mul_le_mul (by omega) hz
  have prodI : ((its.toArray.size : Nat) : Int) * k ≤ 1000000 := by
    rw [hz2]
    have q1 : ((xs.length : Nat) : Int) * k ≤ 1000 * k := Int.mul_le_mul_of_nonneg_right (by omega) (by omega)
    omega
  have few : (List.replicate k.toNat its).flatten.length ≤ sizeLine := by
    rw [PyProof.Rows.lm_len_rep_flat, hlen, sizeLine_eq]
    omega
  have he : its.toArray.isEmpty = false := by
    cases its with
    | nil => exact absurd (List.eq_nil_of_length_eq_zero (hlen.symm.trans List.length_nil)) hne
    | cons a b => rfl
  have t1 : (decide (k < -(2 ^ 63)) || decide (k ≥ 2 ^ 63)) = false := by
    rw [decide_eq_false (by omega : ¬ k < -(2 ^ 63)), decide_eq_false (by omega : ¬ k ≥ 2 ^ 63)]
    rfl
  have t2 : (its.toArray.isEmpty || k == 1) = false := by
    rw [he, Bool.false_or, beq_eq_false_iff_ne]
    omega
  have t3 : (decide (k ≤ 0) || its.toArray.isEmpty) = false := by
    rw [he, Bool.or_false, decide_eq_false (by omega : ¬ k ≤ 0)]
  have t4 : Builtin.Tuple.tupleTooMany (((its.toArray.size : Nat) : Int) * k) = false := by
    unfold Builtin.Tuple.tupleTooMany
    rw [sizeLine_eq, decide_eq_false (by omega)]
  refine wpAny_binaryOp_repeat_ref (T := "tuple") (U := "int") (by decide) ⟨_, ho, rfl⟩ (fun s' => typeIs_int s' k t) noFill_tuple_mul PySem.F.fills_int_mul PySem.F.slot_int_rmul repeat_tuple PySem.F.slot_int_index.lookup
    (call_meets PySem.F.slot_int_rmul (typeIs_int s k t) PySem.F.entry_int_rmul (PySem.F.args_int_rmul_2 _ _) (int_rmul_tuple k t l its.toArray n dd sl) ⟨ho, rfl, ⟨_, ho, rfl⟩, ?_⟩)
  refine call_meets PySem.F.slot_tuple_mul ⟨_, ho, rfl⟩ PySem.F.entry_tuple_mul (PySem.F.args_tuple_mul_2 _ _) (tuple_mulW l its.toArray n dd sl k t t1 t2 t3 (by omega) t4 (by rw [size_rep, List.size_toArray]; exact few)) ⟨ho, ?_⟩
  rw [size_rep]
  exact nt_push I (r.rep k.toNat) (by rw [PyProof.Rows.lm_len_rep_flat, sizeLine_eq]; omega) q
end
end PL
/-! PL, second part: judgements over plain data; names, constants, operators, tests. -/
namespace PL
open PySem PySem.Spec PyProof.Rows L2
abbrev Sg := L2.St
structure At (K : PySem.W.Frag) (c : Cxt) (σ : Sg) (Γ : List V) (ρ γ : List Sl) (H : Hp) : Prop where
  ls : σ.length = ρ.length
  lg : Γ.length = γ.length
  na : ∀ (j i : Nat), ρ[j]? ≠ some (Sl.al i)
  lb : ∀ (i : Nat) (v : V), c.L i = some v → i < ρ.length
  w : Wd K c H (σ ++ Γ.map some) (ρ ++ γ)
section
variable {K : PySem.W.Frag} {c : Cxt} {σ : Sg} {Γ vs : List V} {ρ γ Ts : List Sl} {H H' : Hp}
end
/-! ### judgements -/
structure Ex where
  nm : Str
  pay : Option (Str × Dt)
abbrev QE := Sl → List Sl → Prop
abbrev XE := Ex → List Sl → Prop
abbrev WE := List Sl → QE → XE → Prop
abbrev WA := List Sl → (List Sl → List Sl → Prop) → XE → Prop
def ExOk (K : PySem.W.Frag) (mg : Str → Option Value) (x : Ex) (cls : Value) (d : Option Addr) (H : Hp) : Prop :=
  ∃ C, mg x.nm = some (.ref C) ∧ cls = .ref C ∧ match x.pay with
    | none => d = none
    | some (f, y) => ∃ dd fs v, d = some dd ∧ H dd = some (.xd fs) ∧ fs.lookup f = some v ∧ Imm K H y v
/-- no exception leaves -/
abbrev W0 : WX := fun _ _ _ _ => False
/-! ### names and constants -/
/-! ### operators on two values -/
/-- what the operator makes of two -/
abbrev G2 := Sl → Sl → List Sl → (Sl → Prop) → Prop
def O2 (K : PySem.W.Frag) (r : R2) (g : G2) : Prop :=
  ∀ (c : Cxt) (σ : Sg) (Γ : List V) (ρ γ : List Sl) (H : Hp) (T1 T2 : Sl) (v1 v2 : V) (Qs : Sl → Prop) (QV : VK), At K c σ (Γ ++ [v1, v2]) ρ (γ ++ [T1, T2]) H → g T1 T2 ρ Qs →
    (∀ T v H', At K c σ (Γ ++ [v]) ρ (γ ++ [T]) H' → Qs T → QV v H') → r v1 v2 H QV
def w2 (g : G2) (pa pb : WE) : WE := fun ρ Q E => pa ρ (fun T1 ρ1 => pb ρ1 (fun T2 ρ2 => g T1 T2 ρ2 fun T => Q T ρ2) E) E
/-! ### truth -/
end PL
/-! PL, third part: statements, targets, loops. -/
namespace PL
open PySem PySem.Spec PyProof.Rows L2
def NoAl (γ : List Sl) : Prop := ∀ (j i : Nat), γ[j]? ≠ some (Sl.al i)
/-! ### stores to a slot -/
end PL
/-! PL, fourth part: the statements' rules, targets, what is walked, loops, comprehensions. -/
namespace PL
open PySem PySem.Spec PyProof.Rows L2
/-! ### small statements -/
/-! ### targets -/
/-- all slots but those at ws stand -/
def Keeps (ws : List Nat) (σ σ' : Sg) : Prop := σ'.length = σ.length ∧ ∀ j, j ∉ ws → σ'[j]? = σ[j]?
theorem wipe_get {σ : Sg} (j : Nat) : ∀ vs : List Nat, (wipe σ vs)[j]? = if j ∈ vs ∧ j < σ.length then some none else σ[j]?
  | [] => by simp [wipe]
  | v :: vs => by
    unfold wipe
    by_cases e : v = j
    · subst e
      by_cases hv : v < σ.length
      · rw [List.getElem?_set_self (by rw [wipe_length]; exact hv), if_pos ⟨List.mem_cons_self, hv⟩]
      · rw [List.getElem?_eq_none (by rw [List.length_set, wipe_length]; omega), if_neg (fun z => hv z.2), List.getElem?_eq_none (by omega)]
    · rw [List.getElem?_set_ne e, wipe_get j vs]
      by_cases h : j ∈ vs ∧ j < σ.length
      · rw [if_pos h, if_pos ⟨List.mem_cons_of_mem _ h.1, h.2⟩]
      · rw [if_neg h, if_neg (fun z => h ⟨(List.mem_cons.mp z.1).resolve_left (fun q => e q.symm), z.2⟩)]
theorem Keeps.wipe {ws own : List Nat} {σ σ' : Sg} (h : Keeps ws (L2.wipe σ own) σ') (hs : ∀ j ∈ ws, j ∈ own) : L2.wipe σ' own = L2.wipe σ own := by
  obtain ⟨h1, h2⟩ := h
  rw [wipe_length] at h1
  apply List.ext_getElem?
  intro j
  rw [wipe_get, wipe_get]
  by_cases q : j ∈ own ∧ j < σ.length
  · rw [if_pos q, if_pos ⟨q.1, by omega⟩]
  · rw [if_neg q, if_neg (fun z => q ⟨z.1, by omega⟩)]
    by_cases z : j ∈ own
    · rw [List.getElem?_eq_none (by have : ¬ j < σ.length := fun y => q ⟨z, y⟩; omega), List.getElem?_eq_none (by have : ¬ j < σ.length := fun y => q ⟨z, y⟩; omega)]
    · rw [h2 j (fun y => z (hs j y)), wipe_get, if_neg q]
/-! ### what is walked -/
section
variable {K : PySem.W.Frag} {c : Cxt} {σ : Sg} {Γ vs : List V} {ρ γ Ts : List Sl} {H H' : Hp} {a b : Addr} {ds es : List Dt}
/-- the signs of a text -/
def signs (z : Str) : List Dt := z.cps.toList.map fun c => .str ⟨#[c]⟩
end
/-! ### for, while -/
end PL
/-! PL, fifth part: walks of plain data, comprehensions, calls of defs, defs. -/
namespace PL
open PySem PySem.Spec PyProof.Rows L2
/-! ### walks -/
def iSeq (K : PySem.W.Frag) (tl : TE) : TI := fun σ H R => tl σ H fun x H1 => (∃ a, x = .ref a ∧ (∃ xs, SqL K H1 a xs) ∧ R (Itl K a) H1) ∨ (∃ a, x = .ref a ∧ (∃ xs, SqT K H1 a xs) ∧ R (Itt K a) H1) ∨ (∃ z, x = .str z ∧ R (Its z) H1)
theorem pi_seq {X : Cx} {tg l : Expr} {tl : TE} (hl : PE X l tl) : PI X tg l (iSeq X.K tl) := by
  refine ⟨fun pins s σ H R I h => ?_⟩
  refine thn (hl.run pins s σ H _ I h) fun v s1 ⟨x, H1, I1, r1, q1⟩ => ?_
  rcases q1 with ⟨a, e, ⟨xs, hq⟩, q⟩ | ⟨a, e, ⟨xs, hq⟩, q⟩ | ⟨z, e, q⟩
  · subst e
    cases r1
    obtain ⟨its, rv, p, hz⟩ := I1.list hq
    refine wpAny_pyIter_list p.isList ?_
    refine ⟨s1.heap.objs.size, [s1.heap.objs.size], _, _, H1, rfl, I1.kept (t' := s1.toks) fun b o e => Heap.get?_push_of_some _ e, turn_list a _, ⟨_, Heap.get?_push_size _ rfl, rfl, rfl⟩, fun b hb => ?_, q⟩
    have e : b = s1.heap.objs.size := by simpa using hb
    subst e
    exact I1.fpOk (Nat.le_refl _) (I1.hok.fresh (Nat.le_refl _))
  · subst e
    cases r1
    obtain ⟨its, rv, p, hz⟩ := I1.tuple hq
    refine wpAny_pyIter_tuple (show s1.heap.IsTuple a its.toArray from p) ?_
    refine ⟨s1.heap.objs.size, [s1.heap.objs.size], _, _, H1, rfl, I1.kept (t' := s1.toks) fun b o e => Heap.get?_push_of_some _ e, turn_tuple a _, ⟨_, Heap.get?_push_size _ rfl, rfl, rfl⟩, fun b hb => ?_, q⟩
    have e : b = s1.heap.objs.size := by simpa using hb
    subst e
    exact I1.fpOk (Nat.le_refl _) (I1.hok.fresh (Nat.le_refl _))
  · subst e
    obtain ⟨t, rfl⟩ := r1
    cases ha : z.cps.all (· < 128)
    · exact wpAny_pyIter_wide ha (pi_one (tk := s1.toks) I1 _ (turn_str _ z t "str_iterator" (.inr rfl)) ⟨_, Heap.get?_push_size _ rfl, rfl, rfl⟩ q)
    · exact wpAny_pyIter_ascii ha (pi_one (tk := s1.toks) I1 _ (turn_str _ z t "str_ascii_iterator" (.inl rfl)) ⟨_, Heap.get?_push_size _ rfl, rfl, rfl⟩ q)
/-! ### comprehensions -/
end PL
/-! PL, sixth part: defs, their contracts over plain data, calls, raise. -/
namespace PL
open PySem PySem.Spec PyProof.Rows L2
/-- a contract: the arguments, what is wanted of the result and of the arguments behind it, what of an exception -/
abbrev PSp := List Sl → (Sl → List Sl → Prop) → (Ex → List Sl → Prop) → Prop
def c0 (H : Hp) (M : List Addr) : Cxt := ⟨H, M, fun _ => none⟩
def Sl.isArg : Sl → Bool
  | .no => true
  | .im _ => true
  | .rd _ => true
  | .mu _ => true
  | _ => false
def ArgOk (As : List Sl) : Prop := ∀ (j : Nat) (s : Sl), As[j]? = some s → s.isArg = true
def spD (K : PySem.W.Frag) (mg : Str → Option Value) (p : PSp) : Sp := fun vs H Q E => ∃ (As : List Sl) (M : List Addr) (Qp : Sl → List Sl → Prop) (Ep : Ex → List Sl → Prop), ArgOk As ∧ Wd K (c0 H M) H (vs.map some) As ∧ p As Qp Ep ∧
  (∀ R As' v H', Wd K (c0 H M) H' (vs.map some ++ [some v]) (As' ++ [R]) → Qp R As' → Q v H') ∧ (∀ x As' cls d H', Wd K (c0 H M) H' (vs.map some) As' → ExOk K mg x cls d H' → Ep x As' → E cls d H')
/-! ### from a caller to a def and back -/
end PL
/-! PL, seventh part: calls, defs, raise, try. -/
namespace PL
open PySem PySem.Spec PyProof.Rows L2
section
variable {K : PySem.W.Frag} {mg : Str → Option Value} {Wx : WX} {ta : TA} {pa : WA} {n : Nat} {p : PSp}
/-- a def stands: it keeps its contract -/
structure Fd (P : Program) (w : World) (K : PySem.W.Frag) (mg : Str → Option Value) (base : Heap) (CXT : CXT) (k : Nat) (x : Str) (n : Nat) (p : PSp) : Prop where
  len : ∀ As Q E, p As Q E → As.length = n
  ex : ∃ (f : Addr) (fd : FuncData) (ps : List Str), mg x = some (.ref f) ∧ PySem.W.keepIn K (.ref f) = true ∧ Binds K fd ps [] ∧ ps.length = n ∧ FnOk P w K mg base CXT k f fd ps (spD K mg p)
end
/-! ### defs -/
/-- the arguments behind the body: what may be changed is what its slot holds -/
def fin : List Sl → List Sl → List Sl
  | [], _ => []
  | .mu c :: As, s :: ρ => s :: fin As ρ
  | .mu c :: As, [] => .mu c :: fin As []
  | A :: As, _ :: ρ => A :: fin As ρ
  | A :: As, [] => A :: fin As []
end PL
/-! PL, eighth part: defs keep their contracts; raise; try. -/
namespace PL
open PySem PySem.Spec PyProof.Rows L2
section
variable {P : Program} {w : World} {K : PySem.W.Frag} {mg : Str → Option Value} {base : Heap}
end
/-! ### raise -/
end PL
/-! PL, operations on plain data. -/
namespace PL
open PySem PySem.Spec PyProof.Rows L2
/-! ### plain data as the kit's data -/
mutual
def py : Dt → PyData
  | .non => .none
  | .bl b => .bool b
  | .int i => .int i
  | .str x => .str x
  | .ref _ => .dict []
  | .tup ds => .tuple (pys ds)
def pys : List Dt → List PyData
  | [] => []
  | d :: ds => py d :: pys ds
end
/-! ### operators: plain data in, plain data out, nothing new laid -/
def gOp (f : Dt → Dt → (Dt → Prop) → Prop) : G2 := fun T1 T2 _ Q => match T1, T2 with
  | .im a, .im b => f a b fun d => Q (.im d)
  | _, _ => False
section
variable {K : PySem.W.Frag} {r : R2}
theorem imI {H : Hp} {b : Int} : Imm K H (.int b) (.int b) := rfl
theorem imS {H : Hp} {b : Str} : Imm K H (.str b) (.str b) := rfl
/-- ints in -/
def fInt (C : Int → Int → Prop) (f : Int → Int → Dt) : Dt → Dt → (Dt → Prop) → Prop := fun a b k => match a, b with
  | .int i, .int j => C i j ∧ k (f i j)
  | _, _ => False
def gSub2 : G2 := gOp (fInt (fun _ _ => True) fun i j => .int (i - j))
def gDiv : G2 := gOp (fInt CDivW fun i j => .int (i / j))
def gMod : G2 := gOp (fInt (fun _ j => 0 < j) fun i j => .int (i % j))
def gPow : G2 := gOp (fInt CPow fun i j => .int (i ^ j.toNat))
/-! comparisons -/
def rStr (g : Str → Str → V) : R2 := fun x y H Q => ∃ i j, x = .str i ∧ y = .str j ∧ Q (g i j) H
def rLt : R2 := fun x y H Q => rI0 (fun i j => .bl (decide (i < j))) x y H Q ∨ rStr (fun i j => .bl (decide (i.cps.toList < j.cps.toList))) x y H Q
def rLe : R2 := fun x y H Q => rI0 (fun i j => .bl (decide (i ≤ j))) x y H Q ∨ rStr (fun i j => .bl (!decide (j.cps.toList < i.cps.toList))) x y H Q
def rGt : R2 := fun x y H Q => rI0 (fun i j => .bl (decide (j < i))) x y H Q ∨ rStr (fun i j => .bl (decide (j.cps.toList < i.cps.toList))) x y H Q
def rGe : R2 := fun x y H Q => rI0 (fun i j => .bl (decide (j ≤ i))) x y H Q ∨ rStr (fun i j => .bl (!decide (i.cps.toList < j.cps.toList))) x y H Q
variable {X : Cx}
theorem r_lt : OpR X (compareOp .Lt) rLt := op_lt.or op_lt_str
theorem r_le : OpR X (compareOp .LtE) rLe := op_le.or op_le_str
theorem r_gt : OpR X (compareOp .Gt) rGt := op_gt.or op_gt_str
theorem r_ge : OpR X (compareOp .GtE) rGe := op_ge.or op_ge_str
/-! == and != -/
/-! is None -/
def isNonD : Dt → Bool
  | .non => true
  | _ => false
theorem isNon_of {H : Hp} {a : Dt} {v : V} (h : Imm K H a v) : decide (v = .non) = isNonD a := by
  cases a with
  | non => cases h; rfl
  | bl b => cases h; rfl
  | int b => cases h; rfl
  | str b => cases h; rfl
  | ref b => cases h; rfl
  | tup ds => obtain ⟨x, vs, rfl, _⟩ := h; rfl
/-! in, for a sign and a text -/
/-! ### + and * -/
def rAddS : R2 := fun x y H Q => ∃ i j, x = .str i ∧ y = .str j ∧ i.length + j.length ≤ sizeLine ∧ Q (.str (i ++ j)) H
def rAddA (K : PySem.W.Frag) : R2 := fun x y H Q => rI0 (fun i j => .int (i + j)) x y H Q ∨ (rAddS x y H Q ∨ (rCatN K x y H Q ∨ rCat x y H Q))
theorem r_add : OpR X (binaryOp .Add) (rAddA X.K) := op_add.or (op_add_str.or (op_catN.or op_cat))
def rMulS : R2 := fun x y H Q => ∃ z n, x = .str z ∧ y = .int n ∧ (n < 2 ^ 62 ∧ -(2 ^ 62) < n ∧ z.length * n.toNat ≤ sizeLine) ∧ Q (.str (Txt.mul z n)) H
theorem mulOk {z : Str} {n : Int} (h : n < 2 ^ 62 ∧ -(2 ^ 62) < n ∧ z.length * n.toNat ≤ sizeLine) : MulOk z n := by
  obtain ⟨h1, h2, h3⟩ := h
  have hs : sizeLine = 16777216 := sizeLine_eq
  refine ⟨?_, fun h4 h5 => ?_, fun h4 h5 => ?_⟩
  · rw [decide_eq_false (by omega), decide_eq_false (by omega)]; rfl
  · have h6 : z.length * n.toNat ≤ 16777216 := by omega
    have h7 : ((z.length : Nat) : Int) * n ≤ 2 ^ 63 - 1 := by
      have e : (n.toNat : Int) = n := by omega
      have : ((z.length * n.toNat : Nat) : Int) ≤ (16777216 : Nat) := Int.ofNat_le.mpr h6
      rw [Int.natCast_mul, e] at this
      omega
    have := Int.le_ediv_of_mul_le (by omega : 0 < n) h7
    omega
  · unfold Builtin.Str.tooLong
    exact decide_eq_false (by omega)
theorem op_mulS : OpR X (binaryOp .Mult) rMulS := by
  intro pins s σ H x y v u Q I rx ry h
  obtain ⟨z, n, rfl, rfl, c, q⟩ := h
  obtain ⟨t, rfl⟩ := rx
  obtain ⟨t', rfl⟩ := ry
  exact PySem.SB.mul (mulOk c) fun t2 k => ⟨.str _, H, I.tok _, ⟨_, rfl⟩, q⟩
end
end PL
/-! PL, operations, second part: unary, index, slices, builtin functions and types, methods, displays, stores into lists. -/
namespace PL
open PySem PySem.Spec PyProof.Rows L2
section
variable {X : Cx} {Wx : WX} {pos : Pos} {K : PySem.W.Frag} {mg : Str → Option Value} {ta tb : TE} {pa pb : WE} {a b e : Expr}
/-! ### -e -/
/-! ### a[b] -/
theorem Imms.atI {H : Hp} {ds : List Dt} {vs : List V} {i : Int} {d : Dt} (h : Imms K H ds vs) (e : L2.atI ds i = some d) : ∃ v, L2.atI vs i = some v ∧ Imm K H d v := by
  unfold L2.atI at e ⊢
  rw [h.length]
  cases q : ixN ds.length i with
  | none => rw [q] at e; cases e
  | some j =>
    rw [q] at e
    obtain ⟨v, h1, h2⟩ := h.get (i := j) (d := d) e
    exact ⟨v, h1, h2⟩
/-! ### slices -/
def rSlc (K : PySem.W.Frag) : V → Option Int → Option Int → Hp → VK → Prop := fun x lo hi H Q => rSlL K x lo hi H Q ∨ (rSlN K x lo hi H Q ∨ rSlS x lo hi H Q)
/-! ### builtin functions and types -/
abbrev GN := List Sl → List Sl → QE → Prop
variable {r : List V → Hp → VK → Prop} {g : GN} {tA : TA} {pA : WA} {es : List Expr} {x : Str} {p' : Pos} {id T : String}
/-! len -/
def rLenX (K : PySem.W.Frag) : List V → Hp → VK → Prop := fun xs H Q => ∃ x n, xs = [x] ∧ LenV K x H n ∧ Q (.int n) H
/-! one plain value in -/
def g1 (f : Dt → (Dt → Prop) → Prop) : GN := fun Ts ρ Q => match Ts with
  | [.im a] => f a fun d => Q (.im d) ρ
  | _ => False
def fAbs : Dt → (Dt → Prop) → Prop := fun a k => match a with | .int i => k (.int (if i < 0 then -i else i)) | _ => False
def fStr : Dt → (Dt → Prop) → Prop := fun a k => match a with | .int i => i.natAbs.log2 < 1920 ∧ k (.str (toString i)) | _ => False
def rToI : List V → Hp → VK → Prop := fun xs H Q => ((∃ i, xs = [.int i] ∧ Q (.int i) H) ∨ ∃ k, xs = [.bl k] ∧ Q (.int (if k then 1 else 0)) H) ∨ ∃ a n, xs = [.str a] ∧ PySem.intText? a = some n ∧ a.length ≤ 640 ∧ Q (.int n) H
theorem call_toI : CallR X (.type "int") rToI := by
  intro pins s σ H xs us Q I rx h
  rcases h with h | h
  · exact call_int1 pins s σ H xs us Q I rx h
  · exact call_int_str pins s σ H xs us Q I rx h
/-! divmod -/
/-! a list in -/
/-! [list(v), 0, 0, 0]: the law's state -/
/-! ### displays -/
/-! ### methods -/
abbrev GM := Sl → List Sl → List Sl → QE → Prop
variable {o : Expr} {to : TE} {po : WE} {name : Str} {apos cpos : Pos} {rm : V → List V → Hp → VK → Prop} {ty : Sl → List Sl → Prop} {gm : GM}
/-! texts' methods -/
end
end PL
/-! PL, operations, third part: what writes into lists; lists of lists; isinstance. -/
namespace PL
open PySem PySem.Spec PyProof.Rows L2
section
variable {X : Cx} {Wx : WX} {pos : Pos} {K : PySem.W.Frag} {mg : Str → Option Value} {ta tb : TE} {pa pb : WE} {a b e : Expr} {tA : TA} {pA : WA}
/-! xs.append(e) -/
/-! xs.pop() -/
/-! xs[i] = e -/
/-! ### lists of lists: a stack of lists -/
/-! ### isinstance -/
def tyN : Dt → String
  | .non => "NoneType"
  | .bl _ => "bool"
  | .int _ => "int"
  | .str _ => "str"
  | .tup _ => "tuple"
  | .ref _ => ""
theorem Imm.ty {H : Hp} {d : Dt} {v : V} (h : Imm K H d v) (hn : ∀ a, d ≠ .ref a) : TyX K H v (.type (tyN d)) := by
  cases d with
  | non => cases h; exact .base .non
  | bl b => cases h; exact .base (.bl _)
  | int b => cases h; exact .base (.int _)
  | str b => cases h; exact .base (.str _)
  | ref a => exact absurd rfl (hn a)
  | tup ds =>
    obtain ⟨a, vs, rfl, h1, h2⟩ := h
    rcases h1 with ⟨o, _, h1⟩ | ⟨o, its, n, h1, h3, _⟩
    · exact .fTuple h1
    · exact .kTuple h1 h3
def isTupD : Dt → Bool
  | .tup _ => true
  | _ => false
def isStrD : Dt → Bool
  | .str _ => true
  | _ => false
def isIntD : Dt → Bool
  | .int _ => true
  | .bl _ => true
  | _ => false
def isBlD : Dt → Bool
  | .bl _ => true
  | _ => false
theorem kb_tup {d : Dt} (hn : ∀ a, d ≠ .ref a) : kitB (tyN d) "tuple" = some (isTupD d) := by
  cases d with
  | non => exact (by decide +kernel : kitB "NoneType" "tuple" = some false)
  | bl x => exact (by decide +kernel : kitB "bool" "tuple" = some false)
  | int x => exact (by decide +kernel : kitB "int" "tuple" = some false)
  | str x => exact (by decide +kernel : kitB "str" "tuple" = some false)
  | tup x => exact (by decide +kernel : kitB "tuple" "tuple" = some true)
  | ref x => exact absurd rfl (hn x)
theorem kb_str {d : Dt} (hn : ∀ a, d ≠ .ref a) : kitB (tyN d) "str" = some (isStrD d) := by
  cases d with
  | non => exact (by decide +kernel : kitB "NoneType" "str" = some false)
  | bl x => exact (by decide +kernel : kitB "bool" "str" = some false)
  | int x => exact (by decide +kernel : kitB "int" "str" = some false)
  | str x => exact (by decide +kernel : kitB "str" "str" = some true)
  | tup x => exact (by decide +kernel : kitB "tuple" "str" = some false)
  | ref x => exact absurd rfl (hn x)
theorem kb_int {d : Dt} (hn : ∀ a, d ≠ .ref a) : kitB (tyN d) "int" = some (isIntD d) := by
  cases d with
  | non => exact (by decide +kernel : kitB "NoneType" "int" = some false)
  | bl x => exact (by decide +kernel : kitB "bool" "int" = some true)
  | int x => exact (by decide +kernel : kitB "int" "int" = some true)
  | str x => exact (by decide +kernel : kitB "str" "int" = some false)
  | tup x => exact (by decide +kernel : kitB "tuple" "int" = some false)
  | ref x => exact absurd rfl (hn x)
theorem kb_bl {d : Dt} (hn : ∀ a, d ≠ .ref a) : kitB (tyN d) "bool" = some (isBlD d) := by
  cases d with
  | non => exact (by decide +kernel : kitB "NoneType" "bool" = some false)
  | bl x => exact (by decide +kernel : kitB "bool" "bool" = some true)
  | int x => exact (by decide +kernel : kitB "int" "bool" = some false)
  | str x => exact (by decide +kernel : kitB "str" "bool" = some false)
  | tup x => exact (by decide +kernel : kitB "tuple" "bool" = some false)
  | ref x => exact absurd rfl (hn x)
/-! ### the law's state -/
end
end PL
/-! PL: in-place operators; defs that raise called where they don't; try .. except C as n: return isinstance(n, B). -/
namespace PL
open PySem PySem.Spec PyProof.Rows L2
/-! ### name op= e -/
def rIadd : R2 := fun x y H Q => rI0 (fun i j => .int (i + j)) x y H Q ∨ rAddS x y H Q
theorem r_iadd {X : Cx} : OpR X (inplaceOp .Add) rIadd := iop_add.or iop_add_str
/-! ### a block cut in two: what holds between -/
/-! ### calls, the def told apart from the place -/
structure Same5 (X : Cx) (P : Program) (w : World) (K : PySem.W.Frag) (mg : Str → Option Value) (base : Heap) : Prop where
  prog : X.prog = P
  w : X.w = w
  K : X.K = K
  mg : X.mg = mg
  base : X.base = base
/-! ### try: .. except C as n: return isinstance(n, B) -/
end PL
/-! PL: the law's own def, from a script. -/
namespace PL
open PySem PySem.Spec PyProof.Rows L2
/-- what is asked of law(script) -/
def spLaw (K : PySem.W.Frag) : Sp := fun vs H Q _ => ∃ (a : Addr) (ns : List Int), vs = [.ref a] ∧ SqL K H a (ns.map V.int) ∧ ns.length ≤ 63 ∧ ∀ H', Q (.bl true) H'
end PL
/-! PL: dicts by ints and texts; index, in, stores of any kind; sorted, sum, insert, extend. -/
namespace PL
open PySem PySem.Spec PyProof.Rows L2
/-! ### plain dicts -/
def dV (kvs : List (Key × Dt)) (k : Key) : Option Dt := (kvs.find? fun kv => decide (kv.1 = k)).map (·.2)
section
variable {K : PySem.W.Frag} {H : Hp}
/-- a dict of the heap and its plain form -/
def KD (K : PySem.W.Frag) (H : Hp) (kvs : List (Key × Dt)) (ks : List (Key × V)) : Prop := ks.map (·.1) = kvs.map (·.1) ∧ Imms K H (kvs.map (·.2)) (ks.map (·.2))
end
section
variable {X : Cx} {Wx : WX} {pos : Pos} {K : PySem.W.Frag} {mg : Str → Option Value} {ta tb tc : TE} {pa pb pc : WE} {a b e f : Expr}
/-! ### {} -/
/-! ### a[b], a a dict, too -/
def rIxD : R2 := fun x y H Q => ∃ a v, x = .ref a ∧ DGet H a y (some v) ∧ Q v H
theorem ix_dict (hu : X.A.units + 1 < cLine) : IxR X rIxD := by
  intro value slice pins s σ H x y v u Q I rx ry h hs
  obtain ⟨p, z, rfl, g, q⟩ := h
  cases rx
  exact tail_any (dict_typeIs I g) PySem.F.slot_dict_getitem.lookup (d_getItem hu I g ry fun w' s3 I3 rw' => ⟨z, H, I3, rw', q⟩) hs
def rIxA (K : PySem.W.Frag) : R2 := fun x y H Q => rIx K x y H Q ∨ rIxD x y H Q
theorem r_ix (hu : X.A.units + 64 < cLine) : IxR X (rIxA X.K) := ix_seq.or (ix_dict (by omega))
/-! ### a in b, for texts, lists and tuples of flat items, dicts -/
def rInS (neg : Bool) : R2 := fun x y H Q => ∃ (c : Nat) (z : Str), x = .str ⟨#[c]⟩ ∧ y = .str z ∧ Q (.bl (if neg then !decide (c ∈ z.cps.toList) else decide (c ∈ z.cps.toList))) H
def rInK (neg : Bool) : R2 := fun x y H Q => ∃ a o, y = .ref a ∧ DGet H a x o ∧ Q (.bl (if neg then !o.isSome else o.isSome)) H
def rInA (K : PySem.W.Frag) (neg : Bool) : R2 := fun x y H Q => rInS neg x y H Q ∨ (rIn K neg x y H Q ∨ rInK neg x y H Q)
theorem r_in (hu : X.A.units + 64 < cLine) : OpR X (compareOp .In) (rInA X.K false) := OpR.or (r := rInS false) op_in_sign (op_in_seq.or (r' := rInK false) (by
  intro pins s σ H x y v u Q I rx ry h
  obtain ⟨a, o, rfl, g, q⟩ := h
  cases ry
  exact d_in (by omega) I g rx fun s' I' => ⟨.bl o.isSome, H, I', rfl, q⟩))
theorem r_notIn (hu : X.A.units + 64 < cLine) : OpR X (compareOp .NotIn) (rInA X.K true) := OpR.or (r := rInS true) op_notIn_sign (op_notIn_seq.or (r' := rInK true) (by
  intro pins s σ H x y v u Q I rx ry h
  obtain ⟨a, o, rfl, g, q⟩ := h
  cases ry
  exact d_notIn (by omega) I g rx fun s' I' => ⟨.bl (!o.isSome), H, I', rfl, q⟩))
/-- flat plain data -/
def flatD : Dt → Bool
  | .non => true
  | .bl _ => true
  | .int _ => true
  | .str _ => true
  | _ => false
def eqDt : Dt → Dt → Bool
  | .non, .non => true
  | .bl a, .bl b => a == b
  | .bl a, .int b => (if a then 1 else 0) == b
  | .int a, .bl b => a == (if b then 1 else 0)
  | .int a, .int b => a == b
  | .str a, .str b => a == b
  | _, _ => false
theorem flat_v {H : Hp} {d : Dt} {v : V} (h : Imm K H d v) (hf : flatD d = true) : flatV v = true := by
  cases d with
  | non => cases h; rfl
  | bl b => cases h; rfl
  | int b => cases h; rfl
  | str b => cases h; rfl
  | ref a => cases hf
  | tup ds => cases hf
theorem eqv_d {H : Hp} {d e : Dt} {v w : V} (h : Imm K H d v) (h2 : Imm K H e w) (hf : flatD d = true) (hf2 : flatD e = true) : eqV v w = eqDt d e := by
  cases d <;> first | exact absurd hf Bool.false_ne_true | (cases e <;> first | exact absurd hf2 Bool.false_ne_true | (cases h; cases h2; rfl))
theorem flats_v {H : Hp} : ∀ {ds : List Dt} {vs : List V}, Imms K H ds vs → ds.all flatD = true → vs.all flatV = true
  | [], _, h, _ => by rw [show _ = _ from h]; rfl
  | d :: ds, _, h, hf => by
    obtain ⟨v, ws, rfl, h1, h2⟩ := h
    rw [List.all_cons, Bool.and_eq_true] at hf
    rw [List.all_cons, flat_v h1 hf.1, flats_v h2 hf.2]
    rfl
theorem in_v {H : Hp} {d : Dt} {v : V} (h : Imm K H d v) (hf : flatD d = true) : ∀ {ds : List Dt} {vs : List V}, Imms K H ds vs → ds.all flatD = true → inV v vs = ds.any fun e => eqDt e d
  | [], _, hs, _ => by rw [show _ = _ from hs]; rfl
  | e :: ds, _, hs, hfs => by
    obtain ⟨w, ws, rfl, h1, h2⟩ := hs
    rw [List.all_cons, Bool.and_eq_true] at hfs
    have ih := in_v h hf h2 hfs.2
    unfold inV at ih ⊢
    rw [List.any_cons, List.any_cons, ih, eqv_d h1 h hfs.1 hf]
/-! ### d.get(k, e) -/
/-! ### a[i] = e, a a dict, too -/
def rSetD : V → V → V → Hp → (Hp → Prop) → Prop := fun o i v H Q => ∃ a H', o = .ref a ∧ DPut H a i v H' ∧ Q H'
def rSetA : V → V → V → Hp → (Hp → Prop) → Prop := fun o i v H Q => rSetL o i v H Q ∨ rSetD o i v H Q
theorem set_any (hu : X.A.units + 64 < cLine) : PSet X rSetA := by
  intro pins s σ H o i v ov iv u Q I ro ri rv h
  rcases h with h | ⟨a, H', rfl, g, q⟩
  · exact set_list pins s σ H o i v ov iv u Q I ro ri rv h
  · cases ro
    exact d_setItem (by omega) I g ri rv fun s' I' => ⟨H', I', q⟩
/-! ### sum, sorted -/
theorem imms_strs {H : Hp} : ∀ (ys : List Str), Imms K H (ys.map Dt.str) (ys.map V.str)
  | [] => Imms.nil
  | y :: ys => Imms.cons imS (imms_strs ys)
theorem imms_ints {H : Hp} : ∀ (ys : List Int), Imms K H (ys.map Dt.int) (ys.map V.int)
  | [] => Imms.nil
  | y :: ys => Imms.cons imI (imms_ints ys)
def rSortedDk : List V → Hp → VK → Prop := fun xs H Q => ∃ (a : Addr) (kvs : List (Key × V)) (ks : List Str), xs = [.ref a] ∧ Rd H a (.dK kvs) ∧ kvs.map (·.1) = ks.map Sum.inr ∧ ks.length < 64 ∧
    ∀ ys p, ys.Perm ks → sortedS ys = true → H p = none → Q (.ref p) (upd H p (.lst (ys.map V.str)))
def rSortedA (K : PySem.W.Frag) : List V → Hp → VK → Prop := fun xs H Q => rSortedS K xs H Q ∨ (rSortedI K xs H Q ∨ rSortedDk xs H Q)
theorem cr_or {f : Value} {r r' : List V → Hp → VK → Prop} (h : CallR X f r) (h' : CallR X f r') : CallR X f (fun xs H Q => r xs H Q ∨ r' xs H Q) := by
  intro pins s σ H xs us Q I rx q
  rcases q with q | q
  · exact h pins s σ H xs us Q I rx q
  · exact h' pins s σ H xs us Q I rx q
theorem call_sortedA (hc : X.calm = true) : CallR X (.builtin "sorted") (rSortedA X.K) := cr_or cr_sortedS (cr_or cr_sortedI (call_sortedD hc))
/-! ### xs.insert(i, e), xs.extend(ys) -/
/-! ### is, of bools -/
end
end PL
/-! PL: t[::-1] of a tuple. -/
namespace PL
open PySem PySem.Spec PyProof.Rows L2
end PL
/-! PL: dict(pairs), of a list or a tuple of pairs. -/
namespace PL
open PySem PySem.Spec PyProof.Rows L2
section
variable {X : Cx} {pins : List (Addr × Obj)} {σ : L2.St} {H : Hp} {s : Shared}
theorem pairs_kv (I : Inv X pins σ H s) : ∀ {ps : List Addr} {kvs : List (Key × V)}, Paired (fun p kv => SqT X.K H p [kV kv.1, kv.2]) ps kvs →
    ∃ (prs : List (Key × Value)) (vps : List (Value × Value)), KV kvs prs ∧ prs.length = ps.length ∧ vps.length = ps.length ∧
      ∀ (j : Nat) (k v : Value), vps[j]? = some (k, v) → ∃ (b : Addr) (q : Key), ps[j]? = some b ∧ IsTup s.heap b #[k, v] ∧ prs[j]? = some (q, v) ∧ keyIs q k = true
  | _, _, .nil => ⟨[], [], .nil, rfl, rfl, fun j k v e => by simp at e⟩
  | _, _, .cons (a := p) (b := kv) h t => by
    obtain ⟨prs, vps, r, l1, l2, hp⟩ := pairs_kv I t
    obtain ⟨its, rv, ht, _⟩ := I.tuple h
    obtain ⟨u, y, ei, ru, ry⟩ := vals2 rv
    subst ei
    refine ⟨(kv.1, y) :: prs, (u, y) :: vps, .cons ⟨rfl, ry⟩ r, by simp [l1], by simp [l2], fun j k v e => ?_⟩
    cases j with
    | zero =>
      cases (show (u, y) = (k, v) from Option.some.inj e)
      exact ⟨p, kv.1, rfl, ht, rfl, kV_is (P := X.prog) (w := X.w) ru⟩
    | succ j =>
      obtain ⟨b, q, e1, e2, e3, e4⟩ := hp j k v (by simpa using e)
      exact ⟨b, q, by simpa using e1, e2, by simpa using e3, e4⟩
theorem plain_tup {a : Addr} {xs : List V} (I : Inv X pins σ H s) (h : SqN X.K H a xs) : ∃ its : List Value, Vals xs its ∧ PlainSeq "tuple" s.heap a its.toArray ∧ xs.length ≤ sizeLine := by
  rcases h with ⟨o, hd, h⟩ | ⟨o, its, n, hk, hc, hd, hs, hz, r⟩
  · obtain ⟨g, z, its, r, o', g', hc, n, hs⟩ := I.hok a _ h
    rw [g] at g'
    cases g'
    exact ⟨its, r, ⟨o, n, g, hc, hd, hs⟩, z⟩
  · refine ⟨its.toList, r, ⟨o, n, I.kIn a o hk, hc, hd, by simpa using hs⟩, ?_⟩
    have e := r.length
    simp only [Array.length_toList] at e
    omega
def rDictOf (K : PySem.W.Frag) : List V → Hp → VK → Prop := fun xs H Q => ∃ (a : Addr) (ps : List Addr) (kvs : List (Key × V)), xs = [.ref a] ∧ (SqL K H a (ps.map V.ref) ∨ SqN K H a (ps.map V.ref)) ∧
  Paired (fun p kv => SqT K H p [kV kv.1, kv.2]) ps kvs ∧ ∀ p, H p = none → Q (.ref p) (upd H p (.dK (mergeK [] kvs)))
theorem call_dictN (hc : X.calm = true) : CallR X (.type "dict") (rDictOf X.K) := fun pins s σ H xs us Q I r q => by
  obtain ⟨a, ps, kvs, rfl, hq, hp, q⟩ := q
  obtain ⟨u, rfl, rx⟩ := vals1 r
  cases rx
  obtain ⟨prs, vps, rel, l1, l2, hpr⟩ := pairs_kv I hp
  have fin : ∀ (h' : Heap) (tk : Nat), h'.DictOf (mixKind X.prog X.w) s.heap.objs.size (merged [] prs) → ps.length ≤ sizeLine → (∀ b o, b ∉ ([] : List Addr) → s.heap.get? b = some o → h'.get? b = some o) →
      ∃ x H', Inv X pins σ H' { s with heap := h', toks := tk } ∧ RelV x (.ref s.heap.objs.size) ∧ Q x H' := fun h' tk hd' hz k => by
    have big : (s.heap.objs.size == sysModules) = false := beq_eq_false_iff_ne.mpr (Nat.ne_of_gt I.big)
    have few : (mergeK [] kvs).length ≤ sizeLine := by
      have e1 := length_mergeK kvs []
      have e2 := rel.length
      simp only [List.length_nil] at e1
      omega
    exact ⟨.ref s.heap.objs.size, _, I.laid (t' := tk) (o := .dK (mergeK [] kvs)) (fun b o e => k b o List.not_mem_nil e) (Nat.le_refl _) ⟨few, big, merged [] prs, KV.merge rel .nil, hd'⟩, rfl, q _ (I.hok.fresh (Nat.le_refl _))⟩
  have have_ : PairsHave (mixKind X.prog X.w) vps.length (PairRel vps) prs := ⟨l1.trans l2.symm, fun i k v e => by
    obtain ⟨b, q, _, _, e3, e4⟩ := hpr i k v e
    exact ⟨q, e3, e4⟩⟩
  have items : ∀ its : List Value, Vals (ps.map V.ref) its → PairItems s.heap its.toArray (fun j => (ps[j]?).getD 0) vps := fun its rv => by
    have ei := refs_at rv
    subst ei
    refine ⟨by simp [l2], fun j k v e => ?_⟩
    obtain ⟨b, q, e1, e2, _, _⟩ := hpr j k v e
    have e5 : (ps.map Value.ref).toArray[j]? = some (.ref b) := by simp [e1]
    have e6 : (ps[j]?).getD 0 = b := by rw [e1]; rfl
    refine ⟨by rw [e5]; show _ = some (Value.ref ((ps[j]?).getD 0)); rw [e6], .inl ?_⟩
    show s.heap.IsTuple ((ps[j]?).getD 0) _
    rw [e6]
    exact e2
  rcases hq with hq | hq
  · obtain ⟨its, rv, pl, hz⟩ := I.list hq
    rw [List.length_map] at hz
    obtain ⟨o, n, ho, hcl, hd, hdat⟩ := pl
    exact PySem.call_dict_pairs (PairArg.list a its.toArray _ vps) (I.ok.hd hc) ⟨⟨o, n, ho, hcl, hd, hdat⟩, items its rv⟩ have_ (by omega) fun h' tk hd' k => fin h' tk hd' hz k
  · obtain ⟨its, rv, pl, hz⟩ := plain_tup I hq
    rw [List.length_map] at hz
    exact PySem.call_dict_pairs (PairArg.tuple a its.toArray _ vps) (I.ok.hd hc) ⟨pl, items its rv⟩ have_ (by omega) fun h' tk hd' k => fin h' tk hd' hz k
end
/-! plain -/
def keyD : Key → Dt
  | .inl i => .int i
  | .inr z => .str z
end PL
/-! dicts whose keys are tuples (of tuples, too), in the heap -/
namespace PL
open PySem PySem.Spec PyProof.Rows L2
noncomputable section
section
variable {X : Cx} {pins : List (Addr × Obj)} {σ : L2.St} {H : Hp} {s : Shared}
abbrev XN := List (List Dt × Addr × V)
def valN (xs : XN) (k : List Dt) : Option V := (xs.find? fun x => decide (x.1 = k)).map (·.2.2)
end
end
end PL
/-! dicts with tuple keys: rules over plain data -/
namespace PL
open PySem PySem.Spec PyProof.Rows L2
noncomputable section
abbrev KN := List (List Dt × Dt)
def nV (kvs : KN) (k : List Dt) : Option Dt := (kvs.find? fun kv => decide (kv.1 = k)).map (·.2)
section
variable {K : PySem.W.Frag} {H : Hp}
def ND (K : PySem.W.Frag) (H : Hp) (kvs : KN) (xs : XN) : Prop := xs.map (·.1) = kvs.map (·.1) ∧ Imms K H (kvs.map (·.2)) (xs.map (·.2.2))
end
end
end PL
/-! PL: set(texts), sorted(set(texts)). -/
namespace PL
open PySem PySem.Spec PyProof.Rows L2
section
variable {P : Program} {w : World} {A : Around} {E : Value → Shared → Prop} {s : Shared} {a : Addr} {l : List Str}
/-- a set of the texts l whose table rises -/
def TxS (P : Program) (w : World) (h : Heap) (a : Addr) (l : List Str) : Prop :=
  ∃ D : Froz.SD, h.get? a = some (Froz.sObj "set" D) ∧ Froz.TxOk P w D l ∧ l.Nodup ∧ Ris D.2.2.place.toList ∧ (w.params.followText "set-order" = true ∨ D.2.2.led = true)
theorem TxS.at {h h' : Heap} (R : TxS P w h a l) (k : ∀ o, h.get? a = some o → h'.get? a = some o) : TxS P w h' a l := by
  obtain ⟨D, g, r⟩ := R
  exact ⟨D, k _ g, r⟩
theorem tail_ris (ep : Nat) (es : Array (Int × Value)) (t : SetTable) (b : Bool) (r : Ris t.place.toList) : Ris (Froz.tailTx ep es t b).2.2.place.toList := by
  unfold Froz.tailTx
  split
  · exact relayAll_ris t es _
  · exact r
theorem tail_led (ep : Nat) (es : Array (Int × Value)) (t : SetTable) (b : Bool) : (Froz.tailTx ep es t b).2.2.led = t.led := by
  unfold Froz.tailTx
  split
  · exact relayAll_led t es _
  · rfl
theorem add_ris (h : Int) (v : Value) (D : Froz.SD) (r : Ris D.2.2.place.toList) : Ris (Froz.addTx h v D).2.2.place.toList := by
  unfold Froz.addTx
  refine tail_ris _ _ _ _ ?_
  have q := layNew_ris D.2.2 D.1 h v r
  split <;> exact q
theorem add_led (h : Int) (v : Value) (D : Froz.SD) : (Froz.addTx h v D).2.2.led = D.2.2.led := by
  unfold Froz.addTx
  rw [tail_led]
  have q := layNew_led D.2.2 D.1 h v
  split <;> exact q
theorem txs_add {k : Str} {u : Tok} {Q : Bool → Shared → Prop} (R : TxS P w s.heap a l) (room : l.length + 1 < scanBound)
    (hQ : ∀ b h', Heap.SameBut a s.heap h' → TxS P w h' a (if k ∈ l then l else k :: l) → Q b { s with heap := h' }) : wpAny (model P w) A (setAddHashed a (.str k u) (hashStr w k)) Q E s := by
  obtain ⟨D, g, F, nd, r, ld⟩ := id R
  by_cases hk : k ∈ l
  · rw [if_pos hk] at hQ
    obtain ⟨es, ep, t⟩ := D
    have hd : (Froz.sObj "set" (es, ep, t)).data = .set es ep t := rfl
    have few : es.size < scanBound := by have := F.sz; simp only at this; omega
    unfold setAddHashed setAddHashedIn
    refine wpAny_holding (wpAny_bind (wpAny_setState_of g hd F.fit ?_))
    dsimp only
    rw [byScan_of rfl few F.el, if_pos rfl]
    unfold setAddByScan
    refine wpAny_bind (wpAny_bind (wpAny_rule (wpAny_bind (wpAny_setScan_of (knd := strKind P w) (k := k) (Froz.is_str k u) g hd F.fit F.el ?_))))
    cases hf : List.findIdx? (fun e => (strKind P w).is k e.2) es.toList with
    | none =>
      obtain ⟨e, he, q⟩ := (F.mem k).mp hk
      have c := List.findIdx?_eq_none_iff.mp hf e he
      rw [q] at c
      cases c
    | some j => exact wpAny_pure (wpAny_pure (hQ _ s.heap (Heap.SameBut.refl a s.heap) R))
  · rw [if_neg hk] at hQ
    refine Froz.add_x g F hk room (hQ _ _ (Heap.SameBut.update s.heap a _) ⟨_, Froz.get_upd _ g rfl, Froz.add_ok u F, List.nodup_cons.mpr ⟨hk, nd⟩, add_ris _ _ _ r, ld.imp id fun z => by rw [add_led]; exact z⟩)
/-- the walk of set(list) -/
theorem txs_loop {I : Addr} {fp wr : List Addr} {G : Array GenState → Array GenState → Prop} {n : Nat} {Pv : Nat → Value → Prop} {St : Nat → Shared → Prop} {R : Result → Shared → Prop}
    (W : WalksS P w A.in1 I fp wr G n Pv St) (S : Addr) (hS : S ∉ fp) (ys : List Str) (hn : n = ys.length) (hb : ys.length + 1 < scanBound) (hv : ∀ i v, Pv i v → ∃ k t, ys[i]? = some k ∧ v = .str k t) :
    ∀ (m i : Nat) (s : Shared), n - i = m → i ≤ n → St i s → (∃ l, l.length ≤ i ∧ (∀ k, k ∈ l ↔ k ∈ ys.take i) ∧ TxS P w s.heap S l) →
      (∀ s' l, Moved (S :: wr) G s s' → l.length ≤ n → (∀ k, k ∈ l ↔ k ∈ ys) → TxS P w s'.heap S l → R (.ok (.ret .none)) s') → codeAny (model P w) A (.builtin "set.update.loop" ⟨[.ref S, .ref I], []⟩) R s := by
  have off : S ∉ wr := fun h => hS (W.sub _ h)
  have more : ∀ b ∈ wr, b ∈ S :: wr := fun b h => List.mem_cons_of_mem _ h
  intro m
  induction m with
  | zero =>
    intro i s hm hi st ⟨l, hl, hk, T⟩ hR
    obtain rfl : i = n := by omega
    refine codeAny_builtin F.entry_set_update_loop ?_; rw [Around.under_plainId F.plain_set_update_loop _]
    show wpAny _ A.in1 (pyNext (.ref I) >>= _) _ _ s; refine wpAny_bind (W.done s _ _ st fun s' mv => ?_)
    rw [List.take_of_length_le (by omega)] at hk
    exact wpAny_pure (hR s' l (mv.mono more) hl hk (T.at fun o e => mv.heap S o off e))
  | succ m ih =>
    intro i s hm hi st ⟨l, hl, hk, T⟩ hR
    have lt : i < n := by omega
    refine codeAny_builtin F.entry_set_update_loop ?_; rw [Around.under_plainId F.plain_set_update_loop _]
    show wpAny _ A.in1 (pyNext (.ref I) >>= _) _ _ s; refine wpAny_bind (W.item i s _ _ lt st fun v s' hP st' mv => ?_)
    obtain ⟨k, t, e, rfl⟩ := hv i v hP
    have T' : TxS P w s'.heap S l := T.at fun o e => mv.heap S o off e
    show wpAny _ A.in1 (holding [Value.str k t] (setAdd S (.str k t)) >>= _) _ _ s'
    unfold setAdd
    refine wpAny_bind (wpAny_holding (wpAny_holding (wpAny_bind ((strKind P w).pyHash (k := k) (Froz.is_str k t) ?_))))
    refine txs_add (s := { s' with toks := s'.toks + 1 }) T' (by omega) fun b h' sb T2 => ?_
    have same : ∀ c o, c ≠ S → s'.heap.get? c = some o → h'.get? c = some o := fun c o hc g => by rw [sb.2 c hc]; exact g
    refine wpAny_pure ⟨plainId_quiet F.plain_set_update_loop _, ih (i + 1) _ (by omega) lt (W.frame _ s' _ _ st' (Nat.le_succ _) fun c hc o g => same c o (fun z => hS (z ▸ hc)) g) ⟨_, ?_, fun k' => ?_, T2⟩ fun s2 l2 mv2 h1 h2 T3 => ?_⟩
    · split
      · omega
      · simp only [List.length_cons]; omega
    · rw [List.take_add_one, e, List.mem_append, ← hk k']
      split
      · rename_i z
        refine ⟨.inl, fun q => q.elim id fun q => ?_⟩
        rw [show k' = k by simpa using q]
        exact z
      · simp only [List.mem_cons, Option.toList_some, List.not_mem_nil, or_false]
        exact Or.comm
    · exact hR s2 l2 (Moved.trans W.gtrans ((mv.mono more).then_heap (Nat.le_succ _) fun c o hc g => same c o (fun z => hc (by rw [z]; exact List.mem_cons_self)) g) mv2) h1 h2 T3
theorem str_at : ∀ {us : List Value} {xs : List Str}, StrsAre us xs → ∀ (i : Nat) (v : Value), us[i]? = some v → ∃ t, v = .str (xs.getD i Str.empty) t := fun h => by
  induction h with
  | nil => intro i v e; simp at e
  | cons k tk _ ih =>
    intro i v e
    cases i with
    | zero => exact ⟨tk, by simpa using e.symm⟩
    | succ i => simpa using ih i v (by simpa using e)
theorem txs_new {h : Heap} (g : h.get? a = some { cls := .type "set", dict := none, data := .set #[] 0 (.fresh 0 0 (!w.params.followText "set-order")) }) : TxS P w h a [] :=
  ⟨(#[], 0, .fresh 0 0 (!w.params.followText "set-order")), g, Froz.TxOk.nil rfl, List.nodup_nil, List.Pairwise.nil, by
    cases e : w.params.followText "set-order"
    · exact .inr rfl
    · exact .inl rfl⟩
set_option maxHeartbeats 8000000 in
theorem txs_call {l : Addr} {items : Array Value} {ys : List Str} {Q : Value → Shared → Prop} (hh : A.handled = none) (hl : s.heap.IsList l items) (hi : StrsAre items.toList ys) (hb : ys.length + 1 < scanBound)
    (h : ∀ (h' : Heap) (tk : Nat) (zs : List Str), TxS P w h' s.heap.objs.size zs → zs.length ≤ ys.length → (∀ k, k ∈ zs ↔ k ∈ ys) → (∀ b o, s.heap.get? b = some o → h'.get? b = some o) → Q (.ref s.heap.objs.size) { s with heap := h', toks := tk }) :
    wpAny (model P w) A (call (.type "set") [.ref l]) Q E s := by
  have many : items.size = ys.length := by rw [← Array.length_toList, StrsAre.len_eq hi]
  obtain ⟨c0, tl0, m0⟩ := F.called_set.mro; have m1 := F.called_set.made; have m2 := F.called_set.sub
  refine wpAny_call (codeAny_of_tree ?_); show wpAny _ _ (callAny (.type "set") _) _ _ _
  refine wpAny_pure ⟨Code.quiet_builtin _ (by decide +kernel), codeAny_builtin F.entry_type_call ?_⟩; rw [Around.under_plain (weight_type_call_type "set" [.ref l] []) rfl]
  have m3 := F.called_set.notType; have m4 := F.called_set.canCreate; have m5 := F.typeCall_set_1 (.ref l)
  (repeat (any_goals (first | assumption | wp_step)))
  refine codeAny_mono (code_set_led1 (.ref l) (E := E) (Q₁ := fun obj s₁ => obj = .ref s.heap.objs.size ∧ s₁ = { s with heap := s.heap.push { cls := .type "set", dict := none, data := .set #[] 0 (.fresh 0 0 (!w.params.followText "set-order")) } }) ⟨rfl, rfl⟩) fun r s1 hr => ?_
  rcases r with e | fl
  · exact hr
  · cases fl with
    | ret obj =>
      obtain ⟨rfl, rfl⟩ := hr
      have g0 : (s.heap.push { cls := .type "set", dict := none, data := .set #[] 0 (.fresh 0 0 (!w.params.followText "set-order")) }).get? s.heap.objs.size = some { cls := .type "set", dict := none, data := .set #[] 0 (.fresh 0 0 (!w.params.followText "set-order")) } := Heap.get?_push_size _ rfl
      have ty : Shared.TypeIs { s with heap := s.heap.push { cls := .type "set", dict := none, data := .set #[] 0 (.fresh 0 0 (!w.params.followText "set-order")) } } (.ref s.heap.objs.size) "set" := ⟨_, g0, rfl⟩
      have m6 := F.called_set.init.lookup; have m7 := F.called_set.init.bind (.ref s.heap.objs.size)
      (repeat (any_goals (first | assumption | wp_step)))
      refine codeAny_mono (codeAny_call_builtin (R := wants (fun r s₂ => r = .none ∧ ∃ h' tk zs, s₂ = { s with heap := h', toks := tk } ∧ TxS P w h' s.heap.objs.size zs ∧ zs.length ≤ ys.length ∧ (∀ k, k ∈ zs ↔ k ∈ ys) ∧ ∀ b o, s.heap.get? b = some o → h'.get? b = some o) E) F.called_set.init.plain F.entry_set_init (check_set_init_1 ty ?_)) fun r2 s2 hr2 => ?_
      · obtain ⟨⟨ocls, odict, odata, oslots⟩, hol, hcl, nl, hdl⟩ := hl
        cases (show ocls = _ from hcl)
        cases (show odata = _ from hdl)
        have hol' : (s.heap.push { cls := .type "set", dict := none, data := .set #[] 0 (.fresh 0 0 (!w.params.followText "set-order")) }).get? l = some { cls := .type "list", dict := odict, data := .seq items nl, slots := oslots } := Heap.get?_push_of_some _ hol
        have p1 := F.sub_list_set; have p2 := F.sub_list_frozenset; have p3 : (Value.type "list" == Value.type "dict") = false := by decide
        have hl1 : (s.heap.push { cls := .type "set", dict := none, data := .set #[] 0 (.fresh 0 0 (!w.params.followText "set-order")) }).IsList l items := ⟨_, hol', rfl, nl, rfl⟩
        have low : l < s.heap.objs.size := Heap.lt_size hol
        have hA : A.in1.in1.in1.handled = none := by simp [hh]
        have far : l ≠ (s.heap.push { cls := .type "set", dict := none, data := .set #[] 0 (.fresh 0 0 (!w.params.followText "set-order")) }).objs.size := by
          rw [Heap.size_push]
          exact Nat.ne_of_lt (Nat.lt_succ_of_lt low)
        unfold Builtin.«set.__init__» noKeywords Builtin.Frozenset.updateFrom
        generalize hPI : pyIter = PI
        wp_walk
        subst hPI
        refine wpAny_pyIter_list hl1 (wpAny_bind (wpAny_runValue ?_))
        refine txs_loop ((Walks.list hA _ l far items).toS) s.heap.objs.size (by rw [Heap.size_push]; simp only [List.mem_cons, List.not_mem_nil, or_false, not_or]; exact ⟨Nat.ne_of_lt (Nat.lt_succ_self _), Nat.ne_of_gt low⟩) ys many hb (fun i v hv => ?_) (items.size - 0) 0 _ (by omega) (Nat.zero_le _)
          ⟨⟨_, Heap.get?_push_size _ rfl, rfl, rfl⟩, (hl1.push _)⟩ ⟨[], Nat.le_refl 0, fun k => by simp, txs_new (Heap.get?_push_of_some _ g0)⟩ fun s' zs mv hz hk T => ?_
        · obtain ⟨t, e⟩ := str_at hi i v (by rw [Array.getElem?_toList]; exact hv)
          have lt : i < ys.length := by rw [← many]; exact (Array.getElem?_eq_some_iff.mp hv).1
          exact ⟨ys[i], t, List.getElem?_eq_getElem lt, by rw [e, List.getD_eq_getElem?_getD, List.getElem?_eq_getElem lt]; rfl⟩
        · obtain ⟨h2, g2, d2, tk2, os2⟩ := s'
          obtain rfl : g2 = s.gens := mv.gens
          obtain rfl : d2 = s.drawn := mv.drawn
          obtain rfl : os2 = s.os := mv.os
          show wpAny _ _ _ _ _ _
          refine wpAny_pure ?_
          show wpAny _ _ (ret Value.none) _ _ _
          refine wpAny_pure ⟨rfl, h2, tk2, zs, rfl, T, by rw [← many]; exact hz, hk, fun b o e => ?_⟩
          have lt : b < s.heap.objs.size := Heap.lt_size e
          refine mv.heap b o ?_ (Heap.get?_push_of_some _ (Heap.get?_push_of_some _ e))
          rw [Heap.size_push]
          simp only [List.mem_cons, List.not_mem_nil, or_false, not_or]
          exact ⟨Nat.ne_of_lt lt, Nat.ne_of_lt (Nat.lt_succ_of_lt lt)⟩
      · rcases r2 with e | fl2
        · exact hr2
        · cases fl2 with
          | ret r =>
            obtain ⟨rfl, h', tk, zs, rfl, z1, z2, z3, z4⟩ := hr2
            (repeat (any_goals (first | assumption | wp_step)))
            exact h _ _ _ z1 z2 z3 z4
          | _ => exact hr2.elim
    | _ => exact hr.elim
end
end PL
/-! PL: sorted(set(texts)). -/
namespace PL
open PySem PySem.Spec PyProof.Rows L2
section
variable {X : Cx}
def TxK (P : Program) (w : World) (a : Addr) (l : List Str) : HO := .ext fun h => TxS P w h a l
theorem strs_of : ∀ {ys : List Str} {us : List Value}, Vals (ys.map V.str) us → StrsAre us ys
  | [], us, h => by cases h; exact .nil
  | y :: ys, us, h => by
    cases h with
    | cons h1 h2 =>
      obtain ⟨t, rfl⟩ := h1
      exact .cons y t (strs_of h2)
end
end PL
/-! PL: many new objects at once; sorted(d.items()). -/
namespace PL
open PySem PySem.Spec PyProof.Rows L2
/-! ### sorted(d.items()), texts to ints -/
end PL
/-! PL: xs == ys of two lists of texts. -/
namespace PL
open PySem PySem.Spec PyProof.Rows L2
end PL
/-! what every law's head shares -/
namespace PL
open PySem PySem.Spec PyProof.Rows L2
section
variable {X : Cx} {Wx : WX} {pos : Pos} {x : Str}
/-- a constant of the text that is a tuple -/
def Gt (K : PySem.W.Frag) (mg : Str → Option Value) (x : Str) (d : Dt) : Prop := ∃ v u, mg x = some u ∧ RelV v u ∧ ∀ H, Imm K H d v
end
/-! ### tests whose answer is known -/
end PL
/-! contracts by kinds, comprehensions by functions, texts in order -/
namespace PL
open PySem PySem.Spec PyProof.Rows L2
/-! ### contracts -/
theorem szl {n : Nat} (h : n ≤ 16777216) : n ≤ sizeLine := by rw [sizeLine_eq]; exact h
/-! ### comprehensions -/
/-! ### texts in order -/
abbrev sl (x y : Str) : Prop := x.cps.toList < y.cps.toList
theorem Str.ext' {x y : Str} (h : x.cps.toList = y.cps.toList) : x = y := by
  cases x; cases y
  congr 1
  exact Array.toList_inj.mp h
theorem sl_irr (x : Str) : ¬ sl x x := List.lt_irrefl _
theorem sl_tr {x y z : Str} (h : sl x y) (h2 : sl y z) : sl x z := List.lt_trans h h2
theorem sl_tri (x y : Str) : sl x y ∨ x = y ∨ sl y x := by
  by_cases h1 : sl x y
  · exact .inl h1
  · by_cases h2 : sl y x
    · exact .inr (.inr h2)
    · exact .inr (.inl (Str.ext' (List.le_antisymm (List.not_lt.mp h2) (List.not_lt.mp h1))))
theorem sl_as {x y : Str} (h : sl x y) : ¬ sl y x := fun h2 => sl_irr x (sl_tr h h2)
theorem rising_le : ∀ {r : List Str} {p : Str}, risingS p r = true → r.Pairwise (fun a b => ¬ sl b a) ∧ ∀ x ∈ r, ¬ sl x p
  | [], _, _ => ⟨List.Pairwise.nil, by simp⟩
  | y :: r, p, h => by
    simp only [risingS, Bool.and_eq_true, Bool.not_eq_true', ltCps_eq, decide_eq_false_iff_not] at h
    obtain ⟨h1, h2⟩ := rising_le h.2
    refine ⟨List.Pairwise.cons (fun z hz => h2 z hz) h1, fun x hx => ?_⟩
    rcases List.mem_cons.mp hx with e | hx'
    · rw [e]; exact h.1
    · intro hxp
      rcases sl_tri p y with hh | hh | hh
      · exact h2 x hx' (sl_tr hxp hh)
      · exact h2 x hx' (by rw [← hh]; exact hxp)
      · exact h.1 hh
theorem sorted_pw : ∀ {l : List Str}, sortedS l = true → l.Nodup → l.Pairwise sl
  | [], _, _ => List.Pairwise.nil
  | x :: r, h, nd => by
    obtain ⟨h1, h2⟩ := rising_le h
    have h3 : (x :: r).Pairwise (fun a b => ¬ sl b a) := List.Pairwise.cons (fun z hz => h2 z hz) h1
    refine (h3.and nd).imp ?_
    rintro a b ⟨h4, h5⟩
    rcases sl_tri a b with hh | hh | hh
    · exact hh
    · exact absurd hh h5
    · exact absurd hh h4
theorem pw_uniq : ∀ {l m : List Str}, l.Pairwise sl → m.Pairwise sl → (∀ x, x ∈ l ↔ x ∈ m) → l = m
  | [], [], _, _, _ => rfl
  | [], y :: m, _, _, h => absurd ((h y).mpr List.mem_cons_self) (by simp)
  | x :: l, [], _, _, h => absurd ((h x).mp List.mem_cons_self) (by simp)
  | x :: l, y :: m, hl, hm, h => by
    have hl' := List.pairwise_cons.mp hl
    have hm' := List.pairwise_cons.mp hm
    have e : x = y := by
      rcases List.mem_cons.mp ((h x).mp List.mem_cons_self) with e | h1
      · exact e
      · rcases List.mem_cons.mp ((h y).mpr List.mem_cons_self) with e | h2
        · exact e.symm
        · exact absurd (hm'.1 x h1) (sl_as (hl'.1 y h2))
    subst e
    rw [pw_uniq hl'.2 hm'.2 fun z => ?_]
    constructor
    · intro hz
      rcases List.mem_cons.mp ((h z).mp (List.mem_cons_of_mem _ hz)) with e | h1
      · subst e; exact absurd (hl'.1 _ hz) (sl_irr _)
      · exact h1
    · intro hz
      rcases List.mem_cons.mp ((h z).mpr (List.mem_cons_of_mem _ hz)) with e | h1
      · subst e; exact absurd (hm'.1 _ hz) (sl_irr _)
      · exact h1
/-- put into a rising list of texts -/
def insS (x : Str) : List Str → List Str
  | [] => [x]
  | y :: r => if sl x y then x :: y :: r else if x = y then y :: r else y :: insS x r
def srtS : List Str → List Str
  | [] => []
  | x :: r => insS x (srtS r)
theorem insS_mem {x z : Str} : ∀ {l : List Str}, z ∈ insS x l ↔ z = x ∨ z ∈ l
  | [] => by simp [insS]
  | y :: r => by
    unfold insS
    split
    · simp
    · split
      · rename_i _ e
        subst e
        simp
      · simp only [List.mem_cons, insS_mem (l := r)]
        constructor
        · rintro (h | h | h)
          · exact .inr (.inl h)
          · exact .inl h
          · exact .inr (.inr h)
        · rintro (h | h | h)
          · exact .inr (.inl h)
          · exact .inl h
          · exact .inr (.inr h)
theorem insS_pw {x : Str} : ∀ {l : List Str}, l.Pairwise sl → (insS x l).Pairwise sl
  | [], _ => by simp [insS]
  | y :: r, h => by
    have h' := List.pairwise_cons.mp h
    unfold insS
    split
    · rename_i hx
      refine List.Pairwise.cons (fun z hz => ?_) h
      rcases List.mem_cons.mp hz with rfl | hz
      · exact hx
      · exact sl_tr hx (h'.1 z hz)
    · split
      · exact h
      · rename_i h1 h2
        refine List.Pairwise.cons (fun z hz => ?_) (insS_pw h'.2)
        rcases insS_mem.mp hz with rfl | hz
        · rcases sl_tri z y with hh | hh | hh
          · exact absurd hh h1
          · exact absurd hh h2
          · exact hh
        · exact h'.1 z hz
theorem srtS_mem {z : Str} : ∀ {l : List Str}, z ∈ srtS l ↔ z ∈ l
  | [] => by simp [srtS]
  | x :: r => by simp [srtS, insS_mem, srtS_mem (l := r)]
theorem srtS_pw : ∀ {l : List Str}, (srtS l).Pairwise sl
  | [] => List.Pairwise.nil
  | x :: r => insS_pw srtS_pw
theorem srt_of {ys xs l : List Str} (hp : ys.Perm xs) (hs : sortedS ys = true) (nd : xs.Nodup) (hm : ∀ x, x ∈ xs ↔ x ∈ l) : ys = srtS l :=
  pw_uniq (sorted_pw hs (hp.nodup_iff.mpr nd)) srtS_pw fun x => by rw [srtS_mem, ← hm]; exact hp.mem_iff
theorem nd_le {α : Type} [BEq α] [LawfulBEq α] {l N : List α} (nd : l.Nodup) (h : ∀ x ∈ l, x ∈ N) : l.length ≤ N.length := by
  induction l generalizing N with
  | nil => simp
  | cons x l ih =>
    have nd' := List.nodup_cons.mp nd
    have h1 := ih (N := N.erase x) nd'.2 fun y hy => (List.mem_erase_of_ne (fun e => nd'.1 (by rw [← e]; exact hy))).mpr (h y (List.mem_cons_of_mem _ hy))
    have hx := h x List.mem_cons_self
    have := List.length_erase_of_mem hx
    have := List.length_pos_of_mem hx
    simp only [List.length_cons]
    omega
def seqA (b : Bool) (ds : List Dt) : Sl := match b with | true => .rd (.lst ds) | false => .im (.tup ds)
/-! ### any data -/
mutual
def okD : Dt → Bool
  | .ref _ => false
  | .str z => decide (z.length ≤ 1000000)
  | .tup ds => decide (ds.length ≤ 1000000) && okDs ds
  | _ => true
def okDs : List Dt → Bool
  | [] => true
  | d :: ds => okD d && okDs ds
end
end PL
/-! == and != of plain data at any depth -/
namespace PL
open PySem PySem.Spec PyProof.Rows L2
open PySem.SeqAt (EqAt RcAt RcNeAt)
section
variable {X : Cx} {pins : List (Addr × Obj)} {σ : L2.St} {H : Hp} {s : Shared}
mutual
theorem datE_of (I : Inv X pins σ H s) : ∀ {d : Dt} {v : V} {u : Value}, okD d = true → Imm X.K H d v → RelV v u → DatAt s.heap d u
  | .int i, _, u, _, h, r => by
    cases h
    exact r
  | .str x, _, u, _, h, r => by
    cases h
    exact r
  | .non, _, u, _, h, r => by
    cases h
    exact r
  | .bl b, _, u, _, h, r => by
    cases h
    exact r
  | .tup ds, _, u, k, h, r => by
    obtain ⟨a, vs, rfl, h1, h2⟩ := h
    cases r
    obtain ⟨its, rv, ht, _⟩ := I.tuple h1.t
    simp only [okD, Bool.and_eq_true] at k
    exact ⟨a, its.toArray, rfl, ht, by simpa using datsE_of I k.2 h2 rv⟩
  | .ref _, _, _, k, _, _ => by cases k
theorem datsE_of (I : Inv X pins σ H s) : ∀ {ds : List Dt} {vs : List V} {us : List Value}, okDs ds = true → Imms X.K H ds vs → Vals vs us → DatsAt s.heap ds us
  | [], _, us, _, h, r => by
    cases (show _ = _ from h)
    cases r
    rfl
  | d :: ds, _, us, k, h, r => by
    obtain ⟨v, ws, rfl, h1, h2⟩ := h
    simp only [okDs, Bool.and_eq_true] at k
    cases r with
    | cons r1 r2 => exact ⟨_, _, rfl, datE_of I k.1 h1 r1, datsE_of I k.2 h2 r2⟩
end
section
variable {A : Around}
theorem rcAt_dat {d e : Dt} {u v : Value} (hd : dpt d ≤ 28 ∨ dpt e ≤ 28) (hu : A.units + 64 < cLine) (x : DatAt s.heap d u) (y : DatAt s.heap e v) : RcAt A s u v (deq d e) := by
  have hu : A.units < cLine ∧ A.units + 60 < cLine := ⟨by omega, by omega⟩
  cases d with
  | tup ds =>
    obtain ⟨a, items, rfl, ha, x2⟩ := x
    cases e with
    | tup es =>
      obtain ⟨b, items', rfl, hb, y2⟩ := y
      intro prog w E Q h
      refine wpAny_richCompare_same_room (op := .Eq) (IsTuple_typeIs ha) (IsTuple_typeIs hb) F.slot_tuple_eq
        (wpAny_call_entry F.slot_tuple_eq (IsTuple_typeIs ha) F.entry_tuple_eq (tuple_eqD ha hb x2 y2 (fun d' hd' e' he' u' v' h1 h2 => eqAt_dat 28 ?_ ?_ h1 h2) ⟨_, rfl, (fun e => nomatch e), h⟩) (F.args_tuple_eq_2 _ _)) hu.1
      · have := dpts_mem hd'
        have := dpts_mem he'
        simp only [dpt] at hd
        omega
      · show A.units + 1 + 2 * 28 < cLine
        omega
    | non => cases (show v = _ from y); exact RcAt.tuple_none ha hu.1
    | bl b => cases (show v = _ from y); exact RcAt.tuple_bool b ha hu.1
    | int i => obtain ⟨t, rfl⟩ := y; exact RcAt.tuple_int i t ha hu.1
    | str i => obtain ⟨t, rfl⟩ := y; exact RcAt.tuple_str i t ha hu.1
    | ref a => exact y.elim
  | ref a => exact x.elim
  | non =>
    cases (show u = _ from x)
    cases e with
    | non => cases (show v = _ from y); exact RcAt.none_none
    | bl b => cases (show v = _ from y); exact RcAt.none_bool b
    | int i => obtain ⟨t, rfl⟩ := y; exact RcAt.none_int i t
    | str i => obtain ⟨t, rfl⟩ := y; exact RcAt.none_str i t
    | ref a => exact y.elim
    | tup es => obtain ⟨a, items, rfl, h, _⟩ := y; exact RcAt.none_tuple h hu.1
  | bl c =>
    cases (show u = _ from x)
    cases e with
    | non => cases (show v = _ from y); exact RcAt.bool_none c
    | bl b => cases (show v = _ from y); exact RcAt.bool_bool c b
    | int i => obtain ⟨t, rfl⟩ := y; exact RcAt.bool_int c i t
    | str i => obtain ⟨t, rfl⟩ := y; exact RcAt.bool_str c i t
    | ref a => exact y.elim
    | tup es => obtain ⟨a, items, rfl, h, _⟩ := y; exact RcAt.bool_tuple c h hu.1
  | int c =>
    obtain ⟨t0, rfl⟩ := x
    cases e with
    | non => cases (show v = _ from y); exact RcAt.int_none c t0
    | bl b => cases (show v = _ from y); exact RcAt.int_bool c t0 b
    | int i => obtain ⟨t, rfl⟩ := y; exact RcAt.int_int c t0 i t
    | str i => obtain ⟨t, rfl⟩ := y; exact RcAt.int_str c t0 i t
    | ref a => exact y.elim
    | tup es => obtain ⟨a, items, rfl, h, _⟩ := y; exact RcAt.int_tuple c t0 h hu.1
  | str c =>
    obtain ⟨t0, rfl⟩ := x
    cases e with
    | non => cases (show v = _ from y); exact RcAt.str_none c t0
    | bl b => cases (show v = _ from y); exact RcAt.str_bool c t0 b
    | int i => obtain ⟨t, rfl⟩ := y; exact RcAt.str_int c t0 i t
    | str i => obtain ⟨t, rfl⟩ := y; exact RcAt.str_str c t0 i t
    | ref a => exact y.elim
    | tup es => obtain ⟨a, items, rfl, h, _⟩ := y; exact RcAt.str_tuple c t0 h hu.1
theorem deqs_range : ∀ (x y : List Dt), deqs x y = ((List.range (min x.length y.length)).all (fun j => deq (x.getD j .non) (y.getD j .non)) && x.length == y.length)
  | [], [] => rfl
  | [], _ :: _ => rfl
  | _ :: _, [] => rfl
  | a :: x, b :: y => by
    have ih := deqs_range x y
    have e : min (a :: x).length (b :: y).length = min x.length y.length + 1 := by simp only [List.length_cons]; omega
    rw [e, List.range_succ_eq_map, List.all_cons, List.all_map]
    simp only [deqs, ih, List.length_cons, List.getD_cons_zero, Function.comp_def, List.getD_cons_succ, Bool.and_assoc]
    have : (x.length + 1 == y.length + 1) = (x.length == y.length) := by simp
    rw [this]
theorem DatsAt.at {h : Heap} : ∀ {ds : List Dt} {vs : List Value} {j : Nat} {v : Value}, DatsAt h ds vs → vs[j]? = some v → DatAt h (ds.getD j .non) v
  | [], _, j, v, x, e => by rw [show _ = _ from x] at e; simp at e
  | d :: ds, _, 0, v, x, e => by
    obtain ⟨u, ws, rfl, h1, _⟩ := x
    simp at e
    subst e
    exact h1
  | d :: ds, _, j + 1, v, x, e => by
    obtain ⟨u, ws, rfl, _, h2⟩ := x
    rw [List.getD_cons_succ]
    exact DatsAt.at h2 (by simpa using e)
theorem dpt_getD {ds : List Dt} (j : Nat) : dpt (ds.getD j .non) ≤ dpts ds := by
  by_cases h : j < ds.length
  · rw [List.getD_eq_getElem?_getD, List.getElem?_eq_getElem h]
    exact dpts_mem (List.getElem_mem h)
  · rw [List.getD_eq_getElem?_getD, List.getElem?_eq_none (by omega)]
    exact Nat.zero_le _
theorem rcNe_dat {d e : Dt} {u v : Value} (hd : dpt d ≤ 28 ∨ dpt e ≤ 28) (hu : A.units + 64 < cLine) (x : DatAt s.heap d u) (y : DatAt s.heap e v) : RcNeAt A s u v (!deq d e) := by
  have hu : A.units < cLine ∧ A.units + 60 < cLine := ⟨by omega, by omega⟩
  cases d with
  | tup ds =>
    obtain ⟨a, items, rfl, ha, x2⟩ := x
    cases e with
    | tup es =>
      obtain ⟨b, items', rfl, hb, y2⟩ := y
      have e1 := x2.length
      have e2 := y2.length
      simp only [Array.length_toList] at e1 e2
      have z := RcNeAt.tuples (e := fun j => deq (ds.getD j .non) (es.getD j .non)) ha hb hu.1 fun j h1 h2 => by
        refine eqAt_dat 28 ?_ ?_ (x2.at (j := j) (by simp [h1])) (y2.at (j := j) (by simp [h2]))
        · have := dpt_getD (ds := ds) j
          have := dpt_getD (ds := es) j
          simp only [dpt] at hd
          omega
        · show A.units + 1 + 2 * 28 < cLine
          omega
      rw [e1, e2] at z
      show RcNeAt A s _ _ (!deqs ds es)
      rw [deqs_range]
      exact z
    | non => cases (show v = _ from y); exact RcNeAt.tuple_none ha hu.1
    | bl b => cases (show v = _ from y); exact RcNeAt.tuple_bool b ha hu.1
    | int i => obtain ⟨t, rfl⟩ := y; exact RcNeAt.tuple_int i t ha hu.1
    | str i => obtain ⟨t, rfl⟩ := y; exact RcNeAt.tuple_str i t ha hu.1
    | ref a => exact y.elim
  | ref a => exact x.elim
  | non =>
    cases (show u = _ from x)
    cases e with
    | non => cases (show v = _ from y); exact RcNeAt.none_none
    | bl b => cases (show v = _ from y); exact RcNeAt.none_bool b
    | int i => obtain ⟨t, rfl⟩ := y; exact RcNeAt.none_int i t
    | str i => obtain ⟨t, rfl⟩ := y; exact RcNeAt.none_str i t
    | ref a => exact y.elim
    | tup es => obtain ⟨a, items, rfl, h, _⟩ := y; exact RcNeAt.none_tuple h hu.1
  | bl c =>
    cases (show u = _ from x)
    cases e with
    | non => cases (show v = _ from y); exact RcNeAt.bool_none c
    | bl b => cases (show v = _ from y); exact RcNeAt.bool_bool c b
    | int i => obtain ⟨t, rfl⟩ := y; exact RcNeAt.bool_int c i t
    | str i => obtain ⟨t, rfl⟩ := y; exact RcNeAt.bool_str c i t
    | ref a => exact y.elim
    | tup es => obtain ⟨a, items, rfl, h, _⟩ := y; exact RcNeAt.bool_tuple c h hu.1
  | int c =>
    obtain ⟨t0, rfl⟩ := x
    cases e with
    | non => cases (show v = _ from y); exact RcNeAt.int_none c t0
    | bl b => cases (show v = _ from y); exact RcNeAt.int_bool c t0 b
    | int i => obtain ⟨t, rfl⟩ := y; exact RcNeAt.int_int c t0 i t
    | str i => obtain ⟨t, rfl⟩ := y; exact RcNeAt.int_str c t0 i t
    | ref a => exact y.elim
    | tup es => obtain ⟨a, items, rfl, h, _⟩ := y; exact RcNeAt.int_tuple c t0 h hu.1
  | str c =>
    obtain ⟨t0, rfl⟩ := x
    cases e with
    | non => cases (show v = _ from y); exact RcNeAt.str_none c t0
    | bl b => cases (show v = _ from y); exact RcNeAt.str_bool c t0 b
    | int i => obtain ⟨t, rfl⟩ := y; exact RcNeAt.str_int c t0 i t
    | str i => obtain ⟨t, rfl⟩ := y; exact RcNeAt.str_str c t0 i t
    | ref a => exact y.elim
    | tup es => obtain ⟨a, items, rfl, h, _⟩ := y; exact RcNeAt.str_tuple c t0 h hu.1
end
def rEqM (K : PySem.W.Frag) (neg : Bool) : R2 := fun x y H Q => ∃ d e, Imm K H d x ∧ Imm K H e y ∧ okD d = true ∧ okD e = true ∧ (dpt d ≤ 28 ∨ dpt e ≤ 28) ∧ Q (.bl (if neg then !deq d e else deq d e)) H
theorem r_eqM (hu : X.A.units + 64 < cLine) : OpR X (compareOp .Eq) (rEqM X.K false) := by
  intro pins s σ H x y v u Q I rx ry h
  obtain ⟨d, e, h1, h2, k1, k2, hd, q⟩ := h
  exact rcAt_dat hd hu (datE_of I k1 h1 rx) (datE_of I k2 h2 ry) _ _ _ _ ⟨.bl _, H, I, rfl, q⟩
theorem r_neM (hu : X.A.units + 64 < cLine) : OpR X (compareOp .NotEq) (rEqM X.K true) := by
  intro pins s σ H x y v u Q I rx ry h
  obtain ⟨d, e, h1, h2, k1, k2, hd, q⟩ := h
  exact rcNe_dat hd hu (datE_of I k1 h1 rx) (datE_of I k2 h2 ry) _ _ _ _ ⟨.bl _, H, I, rfl, q⟩
end
end PL
/-! dicts with tuple keys: get, stores, dict(pairs) -/
namespace PL
open PySem PySem.Spec PyProof.Rows L2
end PL
/-! len(set(texts)) -/
namespace PL
open PySem PySem.Spec PyProof.Rows L2
section
variable {P : Program} {w : World} {A : Around} {E : Value → Shared → Prop} {s : Shared} {a : Addr} {l : List Str}
set_option maxHeartbeats 8000000 in
theorem txs_callT {l : Addr} {items : Array Value} {ys : List Str} {Q : Value → Shared → Prop} (hh : A.handled = none) (hl : s.heap.IsTuple l items) (hi : StrsAre items.toList ys) (hb : ys.length + 1 < scanBound)
    (h : ∀ (h' : Heap) (tk : Nat) (zs : List Str), TxS P w h' s.heap.objs.size zs → zs.length ≤ ys.length → (∀ k, k ∈ zs ↔ k ∈ ys) → (∀ b o, s.heap.get? b = some o → h'.get? b = some o) → Q (.ref s.heap.objs.size) { s with heap := h', toks := tk }) :
    wpAny (model P w) A (call (.type "set") [.ref l]) Q E s := by
  have many : items.size = ys.length := by rw [← Array.length_toList, StrsAre.len_eq hi]
  obtain ⟨c0, tl0, m0⟩ := F.called_set.mro; have m1 := F.called_set.made; have m2 := F.called_set.sub
  refine wpAny_call (codeAny_of_tree ?_); show wpAny _ _ (callAny (.type "set") _) _ _ _
  refine wpAny_pure ⟨Code.quiet_builtin _ (by decide +kernel), codeAny_builtin F.entry_type_call ?_⟩; rw [Around.under_plain (weight_type_call_type "set" [.ref l] []) rfl]
  have m3 := F.called_set.notType; have m4 := F.called_set.canCreate; have m5 := F.typeCall_set_1 (.ref l)
  (repeat (any_goals (first | assumption | wp_step)))
  refine codeAny_mono (code_set_led1 (.ref l) (E := E) (Q₁ := fun obj s₁ => obj = .ref s.heap.objs.size ∧ s₁ = { s with heap := s.heap.push { cls := .type "set", dict := none, data := .set #[] 0 (.fresh 0 0 (!w.params.followText "set-order")) } }) ⟨rfl, rfl⟩) fun r s1 hr => ?_
  rcases r with e | fl
  · exact hr
  · cases fl with
    | ret obj =>
      obtain ⟨rfl, rfl⟩ := hr
      have g0 : (s.heap.push { cls := .type "set", dict := none, data := .set #[] 0 (.fresh 0 0 (!w.params.followText "set-order")) }).get? s.heap.objs.size = some { cls := .type "set", dict := none, data := .set #[] 0 (.fresh 0 0 (!w.params.followText "set-order")) } := Heap.get?_push_size _ rfl
      have ty : Shared.TypeIs { s with heap := s.heap.push { cls := .type "set", dict := none, data := .set #[] 0 (.fresh 0 0 (!w.params.followText "set-order")) } } (.ref s.heap.objs.size) "set" := ⟨_, g0, rfl⟩
      have m6 := F.called_set.init.lookup; have m7 := F.called_set.init.bind (.ref s.heap.objs.size)
      (repeat (any_goals (first | assumption | wp_step)))
      refine codeAny_mono (codeAny_call_builtin (R := wants (fun r s₂ => r = .none ∧ ∃ h' tk zs, s₂ = { s with heap := h', toks := tk } ∧ TxS P w h' s.heap.objs.size zs ∧ zs.length ≤ ys.length ∧ (∀ k, k ∈ zs ↔ k ∈ ys) ∧ ∀ b o, s.heap.get? b = some o → h'.get? b = some o) E) F.called_set.init.plain F.entry_set_init (check_set_init_1 ty ?_)) fun r2 s2 hr2 => ?_
      · obtain ⟨⟨ocls, odict, odata, oslots⟩, hol, hcl, nl, hdl⟩ := hl
        cases (show ocls = _ from hcl)
        cases (show odata = _ from hdl)
        have hol' : (s.heap.push { cls := .type "set", dict := none, data := .set #[] 0 (.fresh 0 0 (!w.params.followText "set-order")) }).get? l = some { cls := .type "tuple", dict := odict, data := .seq items nl, slots := oslots } := Heap.get?_push_of_some _ hol
        have p1 := F.sub_tuple_set; have p2 := F.sub_tuple_frozenset; have p3 : (Value.type "tuple" == Value.type "dict") = false := by decide
        have hl1 : (s.heap.push { cls := .type "set", dict := none, data := .set #[] 0 (.fresh 0 0 (!w.params.followText "set-order")) }).IsTuple l items := ⟨_, hol', rfl, nl, rfl⟩
        have low : l < s.heap.objs.size := Heap.lt_size hol
        have hA : A.in1.in1.in1.handled = none := by simp [hh]
        have far : l ≠ (s.heap.push { cls := .type "set", dict := none, data := .set #[] 0 (.fresh 0 0 (!w.params.followText "set-order")) }).objs.size := by
          rw [Heap.size_push]
          exact Nat.ne_of_lt (Nat.lt_succ_of_lt low)
        unfold Builtin.«set.__init__» noKeywords Builtin.Frozenset.updateFrom
        generalize hPI : pyIter = PI
        wp_walk
        subst hPI
        refine wpAny_pyIter_tuple hl1 (wpAny_bind (wpAny_runValue ?_))
        refine txs_loop ((Walks.tuple hA _ l far items).toS) s.heap.objs.size (by rw [Heap.size_push]; simp only [List.mem_cons, List.not_mem_nil, or_false, not_or]; exact ⟨Nat.ne_of_lt (Nat.lt_succ_self _), Nat.ne_of_gt low⟩) ys many hb (fun i v hv => ?_) (items.size - 0) 0 _ (by omega) (Nat.zero_le _)
          ⟨⟨_, Heap.get?_push_size _ rfl, rfl, rfl⟩, (hl1.push _)⟩ ⟨[], Nat.le_refl 0, fun k => by simp, txs_new (Heap.get?_push_of_some _ g0)⟩ fun s' zs mv hz hk T => ?_
        · obtain ⟨t, e⟩ := str_at hi i v (by rw [Array.getElem?_toList]; exact hv)
          have lt : i < ys.length := by rw [← many]; exact (Array.getElem?_eq_some_iff.mp hv).1
          exact ⟨ys[i], t, List.getElem?_eq_getElem lt, by rw [e, List.getD_eq_getElem?_getD, List.getElem?_eq_getElem lt]; rfl⟩
        · obtain ⟨h2, g2, d2, tk2, os2⟩ := s'
          obtain rfl : g2 = s.gens := mv.gens
          obtain rfl : d2 = s.drawn := mv.drawn
          obtain rfl : os2 = s.os := mv.os
          show wpAny _ _ _ _ _ _
          refine wpAny_pure ?_
          show wpAny _ _ (ret Value.none) _ _ _
          refine wpAny_pure ⟨rfl, h2, tk2, zs, rfl, T, by rw [← many]; exact hz, hk, fun b o e => ?_⟩
          have lt : b < s.heap.objs.size := Heap.lt_size e
          refine mv.heap b o ?_ (Heap.get?_push_of_some _ (Heap.get?_push_of_some _ e))
          rw [Heap.size_push]
          simp only [List.mem_cons, List.not_mem_nil, or_false, not_or]
          exact ⟨Nat.ne_of_lt lt, Nat.ne_of_lt (Nat.lt_succ_of_lt lt)⟩
      · rcases r2 with e | fl2
        · exact hr2
        · cases fl2 with
          | ret r =>
            obtain ⟨rfl, h', tk, zs, rfl, z1, z2, z3, z4⟩ := hr2
            (repeat (any_goals (first | assumption | wp_step)))
            exact h _ _ _ z1 z2 z3 z4
          | _ => exact hr2.elim
    | _ => exact hr.elim
end
end PL
/-! len(set(texts)) -/
namespace PL
open PySem PySem.Spec PyProof.Rows L2
section
variable {X : Cx}
def rSetU (X : Cx) : List V → Hp → VK → Prop := fun xs H Q => ∃ (a : Addr) (ys : List Str), xs = [.ref a] ∧ (SqL X.K H a (ys.map V.str) ∨ SqT X.K H a (ys.map V.str)) ∧ ys.length + 1 < scanBound ∧
  ∀ (zs : List Str) (p : Addr), zs.length ≤ ys.length → (∀ k, k ∈ zs ↔ k ∈ ys) → zs.Nodup → H p = none → Q (.ref p) (upd H p (TxK X.prog X.w p zs))
theorem cr_setU (hc : X.calm = true) : CallR X (.type "set") (rSetU X) := fun pins s σ H xs us Q I r q => by
  obtain ⟨a, ys, rfl, hq, hb, q⟩ := q
  obtain ⟨u, rfl, rx⟩ := vals1 r
  cases rx
  have fin : ∀ (h' : Heap) (tk : Nat) (zs : List Str), TxS X.prog X.w h' s.heap.objs.size zs → zs.length ≤ ys.length → (∀ k, k ∈ zs ↔ k ∈ ys) → (∀ b o, s.heap.get? b = some o → h'.get? b = some o) → ∃ x H', Inv X pins σ H' { s with heap := h', toks := tk } ∧ RelV x (.ref s.heap.objs.size) ∧ Q x H' := fun h' tk zs T z1 z2 k => by
    obtain ⟨D, g, F, nd, r2⟩ := id T
    exact ⟨.ref s.heap.objs.size, _, I.laid (t' := tk) (o := TxK X.prog X.w s.heap.objs.size zs) k (Nat.le_refl _) ⟨T, ⟨_, g⟩, fun h1 h2 x e => TxS.at x e⟩, rfl, q zs _ z1 z2 nd (I.hok.fresh (Nat.le_refl _))⟩
  rcases hq with hq | hq
  · obtain ⟨its, rv, pl, hz⟩ := I.list hq
    exact txs_call (P := X.prog) (w := X.w) (ys := ys) (I.ok.hd hc) pl.isList (strs_of rv) hb fin
  · obtain ⟨its, rv, ht, hz⟩ := I.tuple hq
    exact txs_callT (P := X.prog) (w := X.w) (ys := ys) (I.ok.hd hc) ht (by simpa using strs_of rv) hb fin
def rLenSet (X : Cx) : List V → Hp → VK → Prop := fun xs H Q => ∃ (a : Addr) (l : List Str), xs = [.ref a] ∧ H a = some (TxK X.prog X.w a l) ∧ l.length < 100000 ∧ Q (.int (l.length : Nat)) H
theorem cr_lenSet : CallR X (.builtin "len") (rLenSet X) := fun pins s σ H xs us Q I r q => by
  obtain ⟨a, l, rfl, ha, hl, q⟩ := q
  obtain ⟨u, rfl, rx⟩ := vals1 r
  cases rx
  obtain ⟨⟨es, ep, t⟩, g, F, nd, ri, ld⟩ : TxS X.prog X.w s.heap a l := (I.hok a _ ha).1
  have sz : es.size = l.length := F.sz
  refine call_len_set g ⟨rfl, rfl, rfl⟩ rfl F.fit (by show ((es.size : Nat) : Int) < 2 ^ 63; omega) ⟨.int (l.length : Nat), H, I.tok _, ⟨_, by rw [sz]⟩, q⟩
end
end PL
/-! t * k for any k from 0 on; is not True -/
namespace PL
open PySem PySem.Spec PyProof.Rows L2
theorem tuple_mul1 (l : Addr) (items : Array Value) (n : Nat) (dd : Option Addr) (sl : Array (Option Value)) (x : Int) (u : Tok) (c0 : (decide (x < -(2 ^ 63)) || decide (x ≥ 2 ^ 63)) = false) (c1 : (items.isEmpty || x == 1) = true) :
    Meets (Builtin.«tuple.__mul__» ⟨[.ref l, .int x u], []⟩) (fun _ R s => s.heap.get? l = some { cls := .type "tuple", dict := dd, data := .seq items n, slots := sl } ∧
      R (.ok (.ret (Value.ref l))) s) :=
  .of_wp fun prog w A R s h => by
    obtain ⟨hp, g, d, tk, os⟩ := s
    obtain ⟨hl, h⟩ := h
    have f1 := AutoSeq1.idx_int
    wp_walk using wpAny_loadPart' hl
    repeat (first
      | (refine wpAny_ite_false (decide_eq_false (by rw [c0]; exact Bool.false_ne_true)) ?_; wp_walk using wpAny_loadPart' hl)
      | (refine wpAny_ite_true (decide_eq_true c1) ?_; wp_walk using wpAny_loadPart' hl))
    exact ⟨_, rfl, h⟩
theorem tuple_mul0 (l : Addr) (items : Array Value) (n : Nat) (dd : Option Addr) (sl : Array (Option Value)) (x : Int) (u : Tok) (c0 : (decide (x < -(2 ^ 63)) || decide (x ≥ 2 ^ 63)) = false) (c1 : (items.isEmpty || x == 1) = false) (c2 : (decide (x ≤ 0) || items.isEmpty) = true) :
    Meets (Builtin.«tuple.__mul__» ⟨[.ref l, .int x u], []⟩) (fun _ R s => s.heap.get? l = some { cls := .type "tuple", dict := dd, data := .seq items n, slots := sl } ∧
      R (.ok (.ret (Value.ref s.heap.objs.size))) { s with heap := s.heap.push { cls := Value.type "tuple", data := Data.seq #[] }, toks := s.toks }) :=
  .of_wp fun prog w A R s h => by
    obtain ⟨hp, g, d, tk, os⟩ := s
    obtain ⟨hl, h⟩ := h
    have f1 := AutoSeq1.idx_int
    wp_walk using wpAny_loadPart' hl
    repeat (first
      | (refine wpAny_ite_false (decide_eq_false (by rw [c0]; exact Bool.false_ne_true)) ?_; wp_walk using wpAny_loadPart' hl)
      | (refine wpAny_ite_false (decide_eq_false (by rw [c1]; exact Bool.false_ne_true)) ?_; wp_walk using wpAny_loadPart' hl)
      | (refine wpAny_ite_true (decide_eq_true c2) ?_; wp_walk using wpAny_loadPart' hl))
    exact ⟨_, rfl, h⟩
section
variable {X : Cx}
/-- t * k, k 0 or 1 -/
def rRep01 (K : PySem.W.Frag) : R2 := fun x y H Q => ∃ l k xs, x = .ref l ∧ y = .int k ∧ SqT K H l xs ∧ xs ≠ [] ∧ ((k = 1 ∧ Q (.ref l) H) ∨ (k = 0 ∧ NT H [] Q))
theorem op_rep01 : OpR X (binaryOp .Mult) (rRep01 X.K) := fun pins s σ H x y v u Q I rx ry h => by
  obtain ⟨l, k, xs, rfl, rfl, hT, hne, h⟩ := h
  cases rx
  obtain ⟨t, rfl⟩ := ry
  obtain ⟨its, r, ⟨⟨cls, dd, data, sl⟩, ho, hc, n, hd⟩, hs⟩ := I.tuple hT
  cases (show cls = _ from hc)
  cases (show data = _ from hd)
  have hlen : its.length = xs.length := r.length.symm
  have he : its.toArray.isEmpty = false := by
    cases its with
    | nil => exact absurd (List.eq_nil_of_length_eq_zero (hlen.symm.trans List.length_nil)) hne
    | cons a b => rfl
  rcases h with ⟨rfl, q⟩ | ⟨rfl, q⟩
  · refine wpAny_binaryOp_repeat_ref (T := "tuple") (U := "int") (by decide) ⟨_, ho, rfl⟩ (fun s' => typeIs_int s' _ t) noFill_tuple_mul PySem.F.fills_int_mul PySem.F.slot_int_rmul repeat_tuple PySem.F.slot_int_index.lookup
      (call_meets PySem.F.slot_int_rmul (typeIs_int s _ t) PySem.F.entry_int_rmul (PySem.F.args_int_rmul_2 _ _) (int_rmul_tuple _ t l its.toArray n dd sl) ⟨ho, rfl, ⟨_, ho, rfl⟩, ?_⟩)
    exact call_meets PySem.F.slot_tuple_mul ⟨_, ho, rfl⟩ PySem.F.entry_tuple_mul (PySem.F.args_tuple_mul_2 _ _) (tuple_mul1 l its.toArray n dd sl 1 t (by decide) (by rw [he]; rfl)) ⟨ho, .ref l, H, I, rfl, q⟩
  · refine wpAny_binaryOp_repeat_ref (T := "tuple") (U := "int") (by decide) ⟨_, ho, rfl⟩ (fun s' => typeIs_int s' _ t) noFill_tuple_mul PySem.F.fills_int_mul PySem.F.slot_int_rmul repeat_tuple PySem.F.slot_int_index.lookup
      (call_meets PySem.F.slot_int_rmul (typeIs_int s _ t) PySem.F.entry_int_rmul (PySem.F.args_int_rmul_2 _ _) (int_rmul_tuple _ t l its.toArray n dd sl) ⟨ho, rfl, ⟨_, ho, rfl⟩, ?_⟩)
    refine call_meets PySem.F.slot_tuple_mul ⟨_, ho, rfl⟩ PySem.F.entry_tuple_mul (PySem.F.args_tuple_mul_2 _ _) (tuple_mul0 l its.toArray n dd sl 0 t (by decide) (by rw [he]; rfl) rfl) ⟨ho, ?_⟩
    exact nt_push I .nil (by rw [sizeLine_eq]; decide) q
def rMulT (K : PySem.W.Frag) : R2 := fun x y H Q => rRepN K x y H Q ∨ rRep01 K x y H Q
theorem r_mulT : OpR X (binaryOp .Mult) (rMulT X.K) := op_repN.or op_rep01
end
end PL
/-! SX: a def is a Lean function over values and a store of cells; here: values, cells, what they mean in the heap, judgements. -/
namespace SX
open PySem PySem.Spec PyProof.Rows L2 PL
open PL (Dt Imm Imms SqN Tups)
/-- a value: plain data, a cell of the store, a tuple that holds others than plain data, the script, a def by its number -/
inductive Val where
  | im (d : Dt)
  | ob (i : Nat)
  | tv (vs : List Val)
  | scr (ns : List Int)
  | fn (k : Nat)
/-- a cell: a list of plain data, a list, a dict (by ints and texts; by tuples), an instance of a class by its number -/
inductive Cl where
  | lst (ds : List Dt)
  | lsv (vs : List Val)
  | dct (kvs : List (Key × Val))
  | dcn (kvs : List (List Dt × Val))
  | ins (c : Nat) (fs : List (Str × Val))
abbrev Store := List Cl
/-- an exception: its class, its plain fields -/
structure Exn where
  nm : Str
  fs : List (Str × Dt)
inductive R (α : Type) where
  | ok (a : α) (st : Store)
  | ex (e : Exn) (st : Store)
  | bad
def R.bind {α β : Type} (r : R α) (k : α → Store → R β) : R β := match r with
  | .ok a st => k a st
  | .ex e st => .ex e st
  | .bad => .bad
abbrev Slots := List (Option Val)
abbrev Sg := L2.St
abbrev XE := Slots → Store → R Val
abbrev XT := Slots → Store → R Bool
abbrev XA := Slots → Store → R (List Val)
inductive O where
  | nx (ρ : Slots) (st : Store)
  | rt (v : Val) (st : Store)
  | bk (ρ : Slots) (st : Store)
  | ct (ρ : Slots) (st : Store)
  | er (e : Exn) (ρ : Slots) (st : Store)
  | bad
abbrev XS := Slots → Store → O
/-- what the text's numbers mean -/
structure Tb where
  CN : Nat → Str
  FN : Nat → Str
  sa : Addr
  sn : List Int
structure G where
  K : PySem.W.Frag
  mg : Str → Option Value
  w : World
  T : Tb
def ScrOk (K : PySem.W.Frag) (H : Hp) (μ : List Addr) (a : Addr) (ns : List Int) : Prop := (a ∉ μ ∧ Rd H a (.lst (ns.map V.int))) ∨ Stc K a (ns.map V.int)
mutual
def VOk (g : G) (H : Hp) (μ : List Addr) : Val → V → Prop
  | .im d, v => Imm g.K H d v
  | .ob i, v => ∃ a, μ[i]? = some a ∧ v = .ref a
  | .tv vs, v => ∃ a ws, v = .ref a ∧ SqN g.K H a ws ∧ VOks g H μ vs ws
  | .scr ns, v => v = .ref g.T.sa ∧ ns = g.T.sn
  | .fn k, v => ∃ a, g.mg (g.T.FN k) = some (.ref a) ∧ v = .ref a
def VOks (g : G) (H : Hp) (μ : List Addr) : List Val → List V → Prop
  | [], ws => ws = []
  | v :: vs, ws => ∃ u us, ws = u :: us ∧ VOk g H μ v u ∧ VOks g H μ vs us
end
def COk (g : G) (H : Hp) (μ : List Addr) : Cl → Addr → Prop
  | .lst ds, a => ∃ vs, H a = some (.lst vs) ∧ Imms g.K H ds vs
  | .lsv us, a => ∃ vs, H a = some (.lst vs) ∧ VOks g H μ us vs
  | .dct kvs, a => ∃ ks : List (Key × V), H a = some (.dK ks) ∧ ks.map (·.1) = kvs.map (·.1) ∧ VOks g H μ (kvs.map (·.2)) (ks.map (·.2))
  | .dcn kvs, a => ∃ xs : List (List Dt × Addr × V), H a = some (DNo g.w a xs) ∧ xs.map (·.1) = kvs.map (·.1) ∧ VOks g H μ (kvs.map (·.2)) (xs.map (·.2.2)) ∧ Imms g.K H (kvs.map fun kv => Dt.tup kv.1) (xs.map fun x => V.ref x.2.1) ∧ ∀ kv ∈ kvs, kOks kv.1 = true ∧ dpts kv.1 ≤ 5
  | .ins c fs, a => ∃ (C dx : Addr) (us : List (Str × V)), g.mg (g.T.CN c) = some (.ref C) ∧ H a = some (.ins C dx us) ∧ us.map (·.1) = fs.map (·.1) ∧ VOks g H μ (fs.map (·.2)) (us.map (·.2))
structure Wd (g : G) (μ : List Addr) (st : Store) (H : Hp) : Prop where
  len : μ.length = st.length
  nd : μ.Nodup
  ok : ∀ (i : Nat) (a : Addr) (c : Cl), μ[i]? = some a → st[i]? = some c → COk g H μ c a
  sc : ScrOk g.K H μ g.T.sa g.T.sn
/-- what stands outside the cells stays -/
structure Keep (μ : List Addr) (H : Hp) (μ' : List Addr) (H' : Hp) : Prop where
  fr : ∀ b o, H b = some o → b ∉ μ → H' b = some o
  dom : ∀ b, H' b = none → H b = none
  tups : Tups H H'
  ext : ∃ ν, μ' = μ ++ ν ∧ ∀ b ∈ ν, H b = none
def SOk (g : G) (H : Hp) (μ : List Addr) (σ : Sg) (ρ : Slots) : Prop := σ.length = ρ.length ∧ ∀ (i : Nat) (v : Val), ρ[i]? = some (some v) → ∃ u, σ[i]? = some (some u) ∧ VOk g H μ v u
section
variable {g : G} {H H' H1 H2 : Hp} {μ μ' μ1 μ2 : List Addr} {st st' : Store} {σ : Sg} {ρ : Slots}
theorem nodup_at {α : Type} : ∀ {l : List α} {i j : Nat} {a : α}, l.Nodup → l[i]? = some a → l[j]? = some a → i = j
  | [], i, j, a, _, h, _ => by simp at h
  | x :: l, 0, 0, a, _, _, _ => rfl
  | x :: l, 0, j + 1, a, n, h1, h2 => by
    simp at h1 h2; subst h1
    exact absurd (List.mem_of_getElem? h2) (List.nodup_cons.mp n).1
  | x :: l, i + 1, 0, a, n, h1, h2 => by
    simp at h1 h2; subst h2
    exact absurd (List.mem_of_getElem? h1) (List.nodup_cons.mp n).1
  | x :: l, i + 1, j + 1, a, n, h1, h2 => by
    have := nodup_at (l := l) (i := i) (j := j) (a := a) (List.nodup_cons.mp n).2 (by simpa using h1) (by simpa using h2)
    omega
theorem Keep.refl : Keep μ H μ H := ⟨fun _ _ h _ => h, fun _ h => h, Tups.refl H, [], by simp, fun b h => by cases h⟩
theorem Keep.trans (a : Keep μ H μ1 H1) (b : Keep μ1 H1 μ2 H2) : Keep μ H μ2 H2 := by
  obtain ⟨ν, e1, f1⟩ := a.ext
  obtain ⟨ν2, e2, f2⟩ := b.ext
  refine ⟨fun c o h hc => b.fr c o (a.fr c o h hc) fun z => ?_, fun c h => a.dom c (b.dom c h), a.tups.trans b.tups, ν ++ ν2, by rw [e2, e1, List.append_assoc], fun c hc => ?_⟩
  · rw [e1] at z
    rcases List.mem_append.mp z with z | z
    · exact hc z
    · rw [f1 c z] at h; cases h
  · rcases List.mem_append.mp hc with z | z
    · exact f1 c z
    · exact a.dom c (f2 c z)
theorem Keep.get (k : Keep μ H μ' H') {i : Nat} {a : Addr} (h : μ[i]? = some a) : μ'[i]? = some a := by
  obtain ⟨ν, e, _⟩ := k.ext
  rw [e, List.getElem?_append_left (List.getElem?_eq_some_iff.mp h).1]
  exact h
theorem Keep.scr (k : Keep μ H μ' H') {K : PySem.W.Frag} {a : Addr} {ns : List Int} (h : ScrOk K H μ a ns) : ScrOk K H' μ' a ns := by
  rcases h with ⟨h1, h2⟩ | h
  · obtain ⟨ν, e, f⟩ := k.ext
    refine .inl ⟨fun z => ?_, ?_⟩
    · rw [e] at z
      rcases List.mem_append.mp z with z | z
      · exact h1 z
      · have := f a z
        rcases h2 with h2 | ⟨o, h2⟩ <;> rw [this] at h2 <;> cases h2
    · rcases h2 with h2 | ⟨o, h2⟩
      · exact .inl (k.fr _ _ h2 h1)
      · exact .inr ⟨o, k.fr _ _ h2 h1⟩
  · exact .inr h
mutual
theorem VOk.keep (k : Keep μ H μ' H') : ∀ {v : Val} {u : V}, VOk g H μ v u → VOk g H' μ' v u
  | .im d, u, h => Imm.mono k.tups d u h
  | .ob i, _, h => let ⟨a, e, r⟩ := h; ⟨a, k.get e, r⟩
  | .tv vs, _, h => let ⟨a, ws, e, s, t⟩ := h; ⟨a, ws, e, k.tups.seq s, VOks.keep k t⟩
  | .scr ns, _, h => h
  | .fn _, _, h => h
theorem VOks.keep (k : Keep μ H μ' H') : ∀ {vs : List Val} {us : List V}, VOks g H μ vs us → VOks g H' μ' vs us
  | [], _, h => h
  | v :: vs, _, h => let ⟨u, us, e, s, t⟩ := h; ⟨u, us, e, VOk.keep k s, VOks.keep k t⟩
end
theorem VOks.nil : VOks g H μ [] [] := rfl
theorem VOks.cons {v : Val} {u : V} {vs : List Val} {us : List V} (h : VOk g H μ v u) (t : VOks g H μ vs us) : VOks g H μ (v :: vs) (u :: us) := ⟨u, us, rfl, h, t⟩
theorem VOks.length : ∀ {vs : List Val} {us : List V}, VOks g H μ vs us → us.length = vs.length
  | [], _, h => by rw [show _ = _ from h]; rfl
  | v :: vs, _, h => by obtain ⟨u, us, e, s, t⟩ := h; rw [e, List.length_cons, List.length_cons, VOks.length t]
theorem VOks.append : ∀ {vs ws : List Val} {us zs : List V}, VOks g H μ vs us → VOks g H μ ws zs → VOks g H μ (vs ++ ws) (us ++ zs)
  | [], _, _, _, h, t => by rw [show _ = _ from h]; exact t
  | v :: vs, ws, _, zs, h, t => by obtain ⟨u, us, e, s, r⟩ := h; rw [e]; exact ⟨u, us ++ zs, rfl, s, VOks.append r t⟩
theorem VOks.take : ∀ (n : Nat) {vs : List Val} {us : List V}, VOks g H μ vs us → VOks g H μ (vs.take n) (us.take n)
  | 0, _, _, _ => by simp; exact VOks.nil
  | n + 1, [], _, h => by rw [show _ = _ from h]; simp; exact VOks.nil
  | n + 1, v :: vs, _, h => by obtain ⟨u, us, e, s, r⟩ := h; rw [e]; exact ⟨u, us.take n, rfl, s, VOks.take n r⟩
theorem VOks.drop : ∀ (n : Nat) {vs : List Val} {us : List V}, VOks g H μ vs us → VOks g H μ (vs.drop n) (us.drop n)
  | 0, _, _, h => h
  | n + 1, [], _, h => by rw [show _ = _ from h]; simp; exact VOks.nil
  | n + 1, v :: vs, _, h => by obtain ⟨u, us, e, s, r⟩ := h; rw [e]; exact VOks.drop n r
theorem VOks.get : ∀ {vs : List Val} {us : List V} {i : Nat} {v : Val}, VOks g H μ vs us → vs[i]? = some v → ∃ u, us[i]? = some u ∧ VOk g H μ v u
  | [], _, _, _, _, e => by simp at e
  | v0 :: vs, _, 0, v, h, e => by
    obtain ⟨u, us, e1, s, t⟩ := h
    simp at e; subst e
    exact ⟨u, by rw [e1]; rfl, s⟩
  | v0 :: vs, _, i + 1, v, h, e => by
    obtain ⟨u, us, e1, s, t⟩ := h
    obtain ⟨w, e2, h3⟩ := VOks.get (i := i) (v := v) t (by simpa using e)
    exact ⟨w, by rw [e1]; simpa using e2, h3⟩
theorem VOks.set {v : Val} {u : V} (hv : VOk g H μ v u) : ∀ (n : Nat) {vs : List Val} {us : List V}, VOks g H μ vs us → VOks g H μ (vs.set n v) (us.set n u)
  | _, [], _, h => by rw [show _ = _ from h]; simp; exact VOks.nil
  | 0, _ :: vs, _, h => by obtain ⟨w, us, e, s, t⟩ := h; rw [e]; exact ⟨u, us, rfl, hv, t⟩
  | n + 1, _ :: vs, _, h => by obtain ⟨w, us, e, s, t⟩ := h; rw [e]; exact ⟨w, us.set n u, rfl, s, VOks.set hv n t⟩
theorem VOks.im : ∀ {ds : List Dt} {us : List V}, VOks g H μ (ds.map .im) us ↔ Imms g.K H ds us
  | [], _ => Iff.rfl
  | d :: ds, us => by
    constructor
    · rintro ⟨u, ws, e, s, t⟩; exact ⟨u, ws, e, s, VOks.im.mp t⟩
    · rintro ⟨u, ws, e, s, t⟩; exact ⟨u, ws, e, s, VOks.im.mpr t⟩
theorem VOks.one {v : Val} {us : List V} (h : VOks g H μ [v] us) : ∃ u, us = [u] ∧ VOk g H μ v u := by
  obtain ⟨u, ws, e, s, t⟩ := h
  have t : ws = [] := t
  subst t
  exact ⟨u, e, s⟩
theorem COk.keepC (k : Keep μ H μ' H') {c : Cl} {a : Addr} (hs : H' a = H a) (h : COk g H μ c a) : COk g H' μ' c a := by
  cases c with
  | lst ds => obtain ⟨vs, e, s⟩ := h; exact ⟨vs, by rw [hs]; exact e, s.mono k.tups⟩
  | lsv ds => obtain ⟨vs, e, s⟩ := h; exact ⟨vs, by rw [hs]; exact e, VOks.keep k s⟩
  | dct kvs => obtain ⟨vs, e, s, t⟩ := h; exact ⟨vs, by rw [hs]; exact e, s, VOks.keep k t⟩
  | dcn kvs => obtain ⟨vs, e, s, t, r, q⟩ := h; exact ⟨vs, by rw [hs]; exact e, s, VOks.keep k t, r.mono k.tups, q⟩
  | ins c fs => obtain ⟨C, dx, us, e, s, t, r⟩ := h; exact ⟨C, dx, us, e, by rw [hs]; exact s, t, VOks.keep k r⟩
theorem COk.nt {c : Cl} {a : Addr} (h : COk g H μ c a) : H a ≠ none ∧ ∀ o xs, H a ≠ some (.frz o (.tup xs)) := by
  cases c with
  | lst ds => obtain ⟨vs, e, s⟩ := h; rw [e]; exact ⟨fun z => (by cases z), fun _ _ z => (by cases z)⟩
  | lsv ds => obtain ⟨vs, e, s⟩ := h; rw [e]; exact ⟨fun z => (by cases z), fun _ _ z => (by cases z)⟩
  | dct kvs => obtain ⟨vs, e, s, t⟩ := h; rw [e]; exact ⟨fun z => (by cases z), fun _ _ z => (by cases z)⟩
  | dcn kvs => obtain ⟨vs, e, s, t, r, q⟩ := h; rw [e]; exact ⟨fun z => (by cases z), fun _ _ z => (by cases z)⟩
  | ins c fs => obtain ⟨C, dx, us, e, s, t, r⟩ := h; rw [s]; exact ⟨fun z => (by cases z), fun _ _ z => (by cases z)⟩
theorem Wd.cell (w : Wd g μ st H) {a : Addr} (h : a ∈ μ) : H a ≠ none ∧ ∀ o xs, H a ≠ some (.frz o (.tup xs)) := by
  obtain ⟨i, hi, e⟩ := List.getElem_of_mem h
  have hi' : i < st.length := by rw [← w.len]; exact hi
  exact (w.ok i a _ (by rw [List.getElem?_eq_getElem hi, e]) (List.getElem?_eq_getElem hi')).nt
theorem Wd.tups (w : Wd g μ st H) (fr : ∀ b o, H b = some o → b ∉ μ → H' b = some o) : Tups H H' := fun a o xs h => fr _ _ h fun z => (w.cell z).2 o xs h
/-- a new thing that is no cell -/
theorem Keep.fresh {p : Addr} {o : HO} (hp : H p = none) : Keep μ H μ (upd H p o) :=
  ⟨fun b u e _ => (by rw [upd_ne (ne_of_none e hp)]; exact e), fun b e => (by
    by_cases z : b = p
    · subst z; rw [upd_same] at e; cases e
    · rw [upd_ne z] at e; exact e), fun a o xs e => (by rw [upd_ne (ne_of_none e hp)]; exact e), [], by simp, fun b h => by cases h⟩
theorem Keep.same (s : Same H H') : Keep μ H μ H' := ⟨fun b u e _ => s _ _ e, fun b e => (by
    cases q : H b with
    | none => rfl
    | some o => rw [s _ _ q] at e; cases e), fun a o xs e => s _ _ e, [], by simp, fun b h => by cases h⟩
theorem Wd.same (w : Wd g μ st H) (s : Same H H') : Wd g μ st H' := ⟨w.len, w.nd, fun i a c e1 e2 => (w.ok i a c e1 e2).keepC (Keep.same s) (by
  have h := (w.ok i a c e1 e2).nt.1
  cases q : H a with
  | none => exact absurd q h
  | some o => exact s _ _ q), (Keep.same s).scr w.sc⟩
theorem same_fresh {p : Addr} {o : HO} (hp : H p = none) : Same H (upd H p o) := fun b u e => by rw [upd_ne (ne_of_none e hp)]; exact e
theorem Wd.fresh (w : Wd g μ st H) {p : Addr} {o : HO} (hp : H p = none) : Wd g μ st (upd H p o) := w.same (same_fresh hp)
/-- a new cell -/
theorem Wd.alloc (w : Wd g μ st H) {p : Addr} {o : HO} {c : Cl} (hp : H p = none) (hc : Keep μ H (μ ++ [p]) (upd H p o) → COk g (upd H p o) (μ ++ [p]) c p) :
    Keep μ H (μ ++ [p]) (upd H p o) ∧ Wd g (μ ++ [p]) (st ++ [c]) (upd H p o) ∧ VOk g (upd H p o) (μ ++ [p]) (.ob st.length) (.ref p) := by
  have k : Keep μ H (μ ++ [p]) (upd H p o) := ⟨(Keep.fresh hp).fr, (Keep.fresh (μ := μ) hp).dom, (Keep.fresh (μ := μ) hp).tups, [p], rfl, fun b hb => by cases List.mem_singleton.mp hb; exact hp⟩
  refine ⟨k, ⟨by simp [w.len], ?_, fun i a c' e1 e2 => ?_, k.scr w.sc⟩, p, by rw [← w.len]; simp, rfl⟩
  · rw [List.nodup_append]
    refine ⟨w.nd, by simp, fun a ha b hb e => ?_⟩
    cases List.mem_singleton.mp hb
    subst e
    exact (w.cell ha).1 hp
  · by_cases hi : i < μ.length
    · rw [List.getElem?_append_left hi] at e1
      rw [List.getElem?_append_left (by rw [← w.len]; exact hi)] at e2
      have h := w.ok i a c' e1 e2
      exact h.keepC k (upd_ne (fun z => h.nt.1 (by rw [z]; exact hp)))
    · rw [List.getElem?_append_right (by omega)] at e1
      rw [List.getElem?_append_right (by rw [← w.len]; omega), ← w.len] at e2
      cases q : i - μ.length with
      | zero =>
        rw [q] at e1 e2
        cases e1; cases e2
        exact hc k
      | succ n => rw [q] at e1; simp at e1
/-- a cell is written -/
theorem Wd.write (w : Wd g μ st H) {i : Nat} {a : Addr} {o : HO} {c c' : Cl} (h1 : μ[i]? = some a) (h2 : st[i]? = some c) (hc : Keep μ H μ (upd H a o) → COk g (upd H a o) μ c' a) :
    Keep μ H μ (upd H a o) ∧ Wd g μ (st.set i c') (upd H a o) := by
  have ha : a ∈ μ := List.mem_of_getElem? h1
  have fr : ∀ b u, H b = some u → b ∉ μ → upd H a o b = some u := fun b u e hb => by rw [upd_ne (fun z => hb (by rw [z]; exact ha))]; exact e
  have k : Keep μ H μ (upd H a o) := ⟨fr, fun b e => (by
    by_cases z : b = a
    · subst z; rw [upd_same] at e; cases e
    · rw [upd_ne z] at e; exact e), w.tups fr, [], by simp, fun b h => by cases h⟩
  refine ⟨k, by simp [w.len], w.nd, fun j b d e1 e2 => ?_, k.scr w.sc⟩
  by_cases hj : i = j
  · subst hj
    rw [h1] at e1; cases e1
    rw [List.getElem?_set_self (List.getElem?_eq_some_iff.mp h2).1] at e2
    cases e2
    exact hc k
  · rw [List.getElem?_set_ne hj] at e2
    refine (w.ok j b d e1 e2).keepC k (upd_ne fun z => hj ?_)
    subst z
    exact nodup_at w.nd h1 e1
theorem SOk.keep (k : Keep μ H μ' H') (h : SOk g H μ σ ρ) : SOk g H' μ' σ ρ := ⟨h.1, fun i v e => let ⟨u, e1, e2⟩ := h.2 i v e; ⟨u, e1, e2.keep k⟩⟩
theorem SOk.set (h : SOk g H μ σ ρ) {v : Val} {u : V} (hv : VOk g H μ v u) (i : Nat) : SOk g H μ (σ.set i (some u)) (ρ.set i (some v)) := by
  refine ⟨by simp [h.1], fun j w e => ?_⟩
  by_cases z : i = j
  · subst z
    have hi : i < ρ.length := by have := (List.getElem?_eq_some_iff.mp e).1; simpa using this
    rw [List.getElem?_set_self hi] at e
    cases e
    exact ⟨u, List.getElem?_set_self (by rw [h.1]; exact hi), hv⟩
  · rw [List.getElem?_set_ne z] at e
    rw [List.getElem?_set_ne z]
    exact h.2 j w e
end
/-! ### judgements -/
def ExOk (g : G) (e : Exn) (cls : Value) (d : Option Addr) (H : Hp) : Prop :=
  ∃ C, g.mg e.nm = some (.ref C) ∧ cls = .ref C ∧ match e.fs with
    | [] => d = none
    | _ => ∃ dd fs, d = some dd ∧ H dd = some (.xd fs) ∧ ∀ f y, (f, y) ∈ e.fs → ∃ v, fs.lookup f = some v ∧ Imm g.K H y v
section
variable (g : G) (Wx : WX) (σ : Sg) (μ : List Addr) (H : Hp)
def kR {α β : Type} (rel : Hp → List Addr → α → β → Prop) (Q : β → Hp → Prop) : R α → Prop
  | .ok v st' => ∀ u μ' H', Keep μ H μ' H' → Wd g μ' st' H' → rel H' μ' v u → Q u H'
  | .ex e st' => ∀ cls d μ' H', Keep μ H μ' H' → Wd g μ' st' H' → ExOk g e cls d H' → Wx cls d σ H'
  | .bad => False
end
def relB : Hp → List Addr → Bool → Bool → Prop := fun _ _ a b => a = b
def EX (g : G) (Wx : WX) (t : TE) (x : XE) : Prop := ∀ (μ : List Addr) (σ : Sg) (ρ : Slots) (st : Store) (H : Hp) (Q : VK), Wd g μ st H → SOk g H μ σ ρ → kR g Wx σ μ H (VOk g) Q (x ρ st) → t σ H Q
def TX (g : G) (Wx : WX) (t : TT) (x : XT) : Prop := ∀ (μ : List Addr) (σ : Sg) (ρ : Slots) (st : Store) (H : Hp) (Q : Bool → Hp → Prop), Wd g μ st H → SOk g H μ σ ρ → kR g Wx σ μ H relB Q (x ρ st) → t σ H Q
def AX (g : G) (Wx : WX) (t : TA) (x : XA) : Prop := ∀ (μ : List Addr) (σ : Sg) (ρ : Slots) (st : Store) (H : Hp) (Q : List V → Hp → Prop), Wd g μ st H → SOk g H μ σ ρ → kR g Wx σ μ H (VOks g) Q (x ρ st) → t σ H Q
def kO (g : G) (Wx : WX) (μ : List Addr) (H : Hp) (D : Ends) : O → Prop
  | .nx ρ st => ∀ σ' μ' H', Keep μ H μ' H' → Wd g μ' st H' → SOk g H' μ' σ' ρ → D.nx σ' H'
  | .rt v st => ∀ u μ' H', Keep μ H μ' H' → Wd g μ' st H' → VOk g H' μ' v u → D.rt u H'
  | .bk ρ st => ∀ σ' μ' H', Keep μ H μ' H' → Wd g μ' st H' → SOk g H' μ' σ' ρ → D.bk σ' H'
  | .ct ρ st => ∀ σ' μ' H', Keep μ H μ' H' → Wd g μ' st H' → SOk g H' μ' σ' ρ → D.ct σ' H'
  | .er e ρ st => ∀ cls d σ' μ' H', Keep μ H μ' H' → Wd g μ' st H' → SOk g H' μ' σ' ρ → ExOk g e cls d H' → Wx cls d σ' H'
  | .bad => False
def SXs (g : G) (Wx : WX) (t : TS) (x : XS) : Prop := ∀ (μ : List Addr) (σ : Sg) (ρ : Slots) (st : Store) (H : Hp) (D : Ends), Wd g μ st H → SOk g H μ σ ρ → kO g Wx μ H D (x ρ st) → t D σ H
def gX (T : Tb) (X : Cx) : G := ⟨X.K, X.mg, X.w, T⟩
structure SE (T : Tb) (X : Cx) (Wx : WX) (e : Expr) (t : TE) (x : XE) : Prop where
  pe : PE X e t
  ex : EX (gX T X) Wx t x
structure ST (T : Tb) (X : Cx) (Wx : WX) (e : Expr) (t : TT) (x : XT) : Prop where
  pe : PT X e t
  ex : TX (gX T X) Wx t x
structure SW (T : Tb) (X : Cx) (Wx : WX) (e : Expr) (t : TT) (x : XT) : Prop where
  pe : PW X e t
  ex : TX (gX T X) Wx t x
structure SA (T : Tb) (X : Cx) (Wx : WX) (es : List Expr) (t : TA) (x : XA) : Prop where
  pe : PA X es t
  ex : AX (gX T X) Wx t x
structure SS (T : Tb) (X : Cx) (Wx : WX) (s : Stmt) (t : TS) (x : XS) : Prop where
  ps : PS X s t
  ex : SXs (gX T X) Wx t x
structure SSs (T : Tb) (X : Cx) (Wx : WX) (s : List Stmt) (t : TS) (x : XS) : Prop where
  ps : PSs X s t
  ex : SXs (gX T X) Wx t x
section
variable {g : G} {Wx : WX} {σ : Sg} {μ μ1 : List Addr} {H H1 : Hp} {α β γ δ : Type}
theorem kR.mono {rel : Hp → List Addr → α → β → Prop} {Q Q' : β → Hp → Prop} {r : R α} (h : kR g Wx σ μ H rel Q r) (q : ∀ v st' u μ' H', r = .ok v st' → Keep μ H μ' H' → Wd g μ' st' H' → rel H' μ' v u → Q u H' → Q' u H') : kR g Wx σ μ H rel Q' r := by
  cases r with
  | ok v st' => exact fun u μ' H' k w r => q v st' u μ' H' rfl k w r (h u μ' H' k w r)
  | ex e st' => exact h
  | bad => exact h
/-- from a later heap -/
theorem kR.later {rel : Hp → List Addr → α → β → Prop} {Q : β → Hp → Prop} {r : R α} (k : Keep μ H μ1 H1) (h : kR g Wx σ μ H rel Q r) : kR g Wx σ μ1 H1 rel Q r := by
  cases r with
  | ok v st' => exact fun u μ' H' k' => h u μ' H' (k.trans k')
  | ex e st' => exact fun cls d μ' H' k' => h cls d μ' H' (k.trans k')
  | bad => exact h
/-- one behind the other -/
theorem kR.bind {rel : Hp → List Addr → α → β → Prop} {rel' : Hp → List Addr → γ → δ → Prop} {Q : δ → Hp → Prop} {r : R α} {f : α → Store → R γ} (h : kR g Wx σ μ H rel' Q (r.bind f)) :
    kR g Wx σ μ H rel (fun u H1 => ∃ v st1 μ1, r = .ok v st1 ∧ Keep μ H μ1 H1 ∧ Wd g μ1 st1 H1 ∧ rel H1 μ1 v u ∧ kR g Wx σ μ1 H1 rel' Q (f v st1)) r := by
  cases r with
  | ok v st' => exact fun u μ' H' k w z => ⟨v, st', μ', rfl, k, w, z, kR.later k h⟩
  | ex e st' => exact h
  | bad => exact h
theorem kO.later {D : Ends} {r : O} (k : Keep μ H μ1 H1) (h : kO g Wx μ H D r) : kO g Wx μ1 H1 D r := by
  cases r with
  | nx ρ st => exact fun σ' μ' H' k' => h σ' μ' H' (k.trans k')
  | rt v st => exact fun u μ' H' k' => h u μ' H' (k.trans k')
  | bk ρ st => exact fun σ' μ' H' k' => h σ' μ' H' (k.trans k')
  | ct ρ st => exact fun σ' μ' H' k' => h σ' μ' H' (k.trans k')
  | er e ρ st => exact fun cls d σ' μ' H' k' => h cls d σ' μ' H' (k.trans k')
  | bad => exact h
end
end SX
/-! SX: names, constants, operators, tests, statements, targets, loops. -/
namespace SX
open PySem PySem.Spec PyProof.Rows L2 PL
open PL (Dt Imm Imms SqN Tups)
def xC (d : Dt) : XE := fun _ st => .ok (.im d) st
def xFn (k : Nat) : XE := fun _ st => .ok (.fn k) st
def xV (i : Nat) : XE := fun ρ st => match ρ[i]? with
  | some (some v) => .ok v st
  | _ => .bad
def xOp (f : Val → Val → Store → R Val) (a b : XE) : XE := fun ρ st => (a ρ st).bind fun u st => (b ρ st).bind fun v st => f u v st
def xUn (f : Val → Store → R Val) (a : XE) : XE := fun ρ st => (a ρ st).bind f
def xNil : XA := fun _ st => .ok [] st
def xCons (a : XE) (b : XA) : XA := fun ρ st => (a ρ st).bind fun v st => (b ρ st).bind fun vs st => .ok (v :: vs) st
def blR : Val → Store → R Bool
  | .im (.bl b), st => .ok b st
  | _, _ => .bad
def xTest (a : XE) : XT := fun ρ st => (a ρ st).bind blR
def truV : Val → Store → Option Bool
  | .im .non, _ => some false
  | .im (.bl b), _ => some b
  | .im (.int i), _ => some (i != 0)
  | .im (.str x), _ => if x.length ≤ sizeLine then some (!x.cps.toList.isEmpty) else none
  | .im (.tup ds), _ => some (!ds.isEmpty)
  | .tv vs, _ => some (!vs.isEmpty)
  | .ob i, st => (match st[i]? with
    | some (.lst ds) => some (!ds.isEmpty)
    | some (.lsv vs) => some (!vs.isEmpty)
    | some (.dct kvs) => some (!kvs.isEmpty)
    | _ => none)
  | _, _ => none
def truR (v : Val) (st : Store) : R Bool := match truV v st with
  | some b => .ok b st
  | none => .bad
def xTru (a : XE) : XT := fun ρ st => (a ρ st).bind truR
def xAnd (p q : XT) : XT := fun ρ st => (p ρ st).bind fun b st => match b with
  | true => q ρ st
  | false => .ok false st
def xOr (p q : XT) : XT := fun ρ st => (p ρ st).bind fun b st => match b with
  | true => .ok true st
  | false => q ρ st
def xNot (p : XT) : XT := fun ρ st => (p ρ st).bind fun b st => .ok (!b) st
def xAndV (p q : XE) : XE := fun ρ st => (p ρ st).bind fun v st => (truR v st).bind fun b st => match b with
  | true => q ρ st
  | false => .ok v st
def xOrV (p q : XE) : XE := fun ρ st => (p ρ st).bind fun v st => (truR v st).bind fun b st => match b with
  | true => .ok v st
  | false => q ρ st
def xNotV (p : XE) : XE := fun ρ st => (p ρ st).bind fun v st => (truR v st).bind fun b st => .ok (.im (.bl (!b))) st
def xIfE (c : XT) (p q : XE) : XE := fun ρ st => (c ρ st).bind fun b st => match b with
  | true => p ρ st
  | false => q ρ st
def O2 (g : G) (r : R2) (f : Val → Val → Store → R Val) : Prop := ∀ (σ : Sg) (μ : List Addr) (st : Store) (H : Hp) (a b : Val) (u v : V) (Q : VK), Wd g μ st H → VOk g H μ a u → VOk g H μ b v → kR g (fun _ _ _ _ => False) σ μ H (VOk g) Q (f a b st) → r u v H Q
section
variable {g : G} {Wx : WX} {ta tb tc : TE} {a b c : XE} {r : R2} {f : Val → Val → Store → R Val}
theorem kR.W0 {σ : Sg} {μ : List Addr} {H : Hp} {α β : Type} {rel : Hp → List Addr → α → β → Prop} {Q : β → Hp → Prop} {r : R α} (hn : ∀ e st, r ≠ .ex e st) (h : kR g Wx σ μ H rel Q r) : kR g (fun _ _ _ _ => False) σ μ H rel Q r := by
  cases r with
  | ok v st' => exact h
  | ex e st' => exact absurd rfl (hn e st')
  | bad => exact h
theorem ex_C {v : V} {d : Dt} (h : ∀ H, Imm g.K H d v) : EX g Wx (tC v) (xC d) := fun μ σ ρ st H Q w s k => k v μ H Keep.refl w (h H)
theorem ex_Fn {k : Nat} {a : Addr} (h : g.mg (g.T.FN k) = some (.ref a)) : EX g Wx (tC (.ref a)) (xFn k) := fun μ σ ρ st H Q w s q => q _ μ H Keep.refl w ⟨a, h, rfl⟩
theorem ex_V (i : Nat) : EX g Wx (tVar i) (xV i) := fun μ σ ρ st H Q w s k => by
  unfold xV at k
  cases q : ρ[i]? with
  | none => rw [q] at k; exact k.elim
  | some o => cases o with
    | none => rw [q] at k; exact k.elim
    | some v =>
      rw [q] at k
      obtain ⟨u, e, h⟩ := s.2 i v q
      exact ⟨u, e, k u μ H Keep.refl w h⟩
/-- an operator never raises -/
def Calm (f : Val → Val → Store → R Val) : Prop := ∀ u v st e st', f u v st ≠ .ex e st'
theorem ex_op (hf : O2 g r f) (hc : Calm f) (ha : EX g Wx ta a) (hb : EX g Wx tb b) : EX g Wx (tOp r ta tb) (xOp f a b) := fun μ σ ρ st H Q w s k => by
  refine ha μ σ ρ st H _ w s ((kR.bind k).mono fun v st1 u μ1 H1 _ _ _ _ z => ?_)
  obtain ⟨v', st1', μ1', _, k1, w1, r1, k2⟩ := z
  refine hb _ σ ρ st1' H1 _ w1 (s.keep k1) ((kR.bind k2).mono fun v2 st2 u2 μ2 H2 _ _ _ _ z => ?_)
  obtain ⟨v2', st2', μ2', _, k2', w2, r2, k3⟩ := z
  exact hf σ _ _ _ _ _ _ _ _ w2 (r1.keep k2') r2 (k3.W0 (hc _ _ _))
theorem ex_nil : AX g Wx tNil xNil := fun μ σ ρ st H Q w s k => k [] μ H Keep.refl w rfl
theorem ex_cons {t : TA} {x : XA} (ha : EX g Wx ta a) (hb : AX g Wx t x) : AX g Wx (tCons ta t) (xCons a x) := fun μ σ ρ st H Q w s k => by
  refine ha μ σ ρ st H _ w s ((kR.bind k).mono fun v st1 u μ1 H1 _ _ _ _ z => ?_)
  obtain ⟨v', st1', μ1', _, k1, w1, r1, k2⟩ := z
  refine hb _ σ ρ st1' H1 _ w1 (s.keep k1) ((kR.bind k2).mono fun v2 st2 u2 μ2 H2 _ _ _ _ z => ?_)
  obtain ⟨v2', st2', μ2', _, k2', w2, r2, k3⟩ := z
  exact k3 _ _ _ Keep.refl w2 (VOks.cons (r1.keep k2') r2)
theorem ex_test (ha : EX g Wx ta a) : TX g Wx (tTest ta) (xTest a) := fun μ σ ρ st H Q w s k => by
  refine ha μ σ ρ st H _ w s ((kR.bind k).mono fun v st1 u μ1 H1 _ _ _ _ z => ?_)
  obtain ⟨v', st1', μ1', _, k1, w1, r1, k2⟩ := z
  unfold blR at k2
  split at k2
  · have e : u = .bl _ := r1
    exact ⟨_, e, k2 _ _ _ Keep.refl w1 rfl⟩
  · exact k2.elim
theorem truV_ok {μ : List Addr} {st : Store} {H : Hp} {v : Val} {u : V} {k : Bool} (w : Wd g μ st H) (h : VOk g H μ v u) (e : truV v st = some k) : TruV g.K u H k := by
  have emp : ∀ {α β : Type} {l : List α} {m : List β}, l.length = m.length → (!l.isEmpty) = !m.isEmpty := fun {α β l m} h => by cases l <;> cases m <;> simp_all
  cases v with
  | im d => cases d with
    | non => cases h; cases e; rfl
    | bl b => cases h; cases e; rfl
    | int i => cases h; cases e; rfl
    | str y =>
      cases h
      simp only [truV] at e
      split at e
      · cases e
        refine ⟨by assumption, ?_⟩
        show (!y.cps.toList.isEmpty) = ((y.length : Int) != 0)
        have : y.length = y.cps.toList.length := rfl
        rw [this]
        cases y.cps.toList with
        | nil => rfl
        | cons a l => simp only [List.isEmpty_cons, Bool.not_false, List.length_cons]; symm; rw [bne_iff_ne]; omega
      · cases e
    | ref a => cases e
    | tup ds =>
      obtain ⟨a, ws, rfl, s, t⟩ := h
      cases e
      exact .inr (.inl ⟨ws, s, emp t.length.symm⟩)
  | tv vs =>
    obtain ⟨a, ws, rfl, s, t⟩ := h
    cases e
    exact .inr (.inl ⟨ws, s, emp t.length.symm⟩)
  | ob i =>
    obtain ⟨a, ha, rfl⟩ := h
    simp only [truV] at e
    split at e
    · rename_i ds hs
      obtain ⟨ws, h1, h2⟩ := w.ok i a _ ha hs
      cases e
      exact .inl ⟨ws, SqL.of h1, emp h2.length.symm⟩
    · rename_i ds hs
      obtain ⟨ws, h1, h2⟩ := w.ok i a _ ha hs
      cases e
      exact .inl ⟨ws, SqL.of h1, emp h2.length.symm⟩
    · rename_i kvs hs
      obtain ⟨ks, h1, h2, h3⟩ := w.ok i a _ ha hs
      cases e
      refine .inr (.inr ⟨ks, h1, emp ?_⟩)
      have := congrArg List.length h2
      simpa using this.symm
    · cases e
  | scr ns => cases e
  | fn k => cases e
theorem kTru {σ : Sg} {μ : List Addr} {st : Store} {H : Hp} {v : Val} {u : V} {α β : Type} {rel : Hp → List Addr → α → β → Prop} {Q : β → Hp → Prop} {f : Bool → Store → R α} (w : Wd g μ st H) (h : VOk g H μ v u) (k : kR g Wx σ μ H rel Q ((truR v st).bind f)) :
    ∃ b, TruV g.K u H b ∧ kR g Wx σ μ H rel Q (f b st) := by
  unfold truR at k
  cases q : truV v st with
  | none => rw [q] at k; exact k.elim
  | some b => rw [q] at k; exact ⟨b, truV_ok w h q, k⟩
theorem ex_truth (ha : EX g Wx ta a) : TX g Wx (fun σ H Q => ta σ H fun x H' => ∃ k, TruV g.K x H' k ∧ Q k H') (xTru a) := fun μ σ ρ st H Q w s k => by
  refine ha μ σ ρ st H _ w s ((kR.bind k).mono fun v st1 u μ1 H1 _ _ _ _ z => ?_)
  obtain ⟨v', st1', μ1', _, k1, w1, r1, k2⟩ := z
  unfold truR at k2
  cases q : truV v' st1' with
  | none => rw [q] at k2; exact k2.elim
  | some b => rw [q] at k2; exact ⟨b, truV_ok w1 r1 q, k2 b _ _ Keep.refl w1 rfl⟩
variable {tA tB : TT} {p q : XT}
theorem ex_and (h1 : TX g Wx tA p) (h2 : TX g Wx tB q) : TX g Wx (tAnd tA tB) (xAnd p q) := fun μ σ ρ st H Q w s k => by
  refine h1 μ σ ρ st H _ w s ((kR.bind k).mono fun v st1 u μ1 H1 _ _ _ _ z => ?_)
  obtain ⟨v', st1', μ1', _, k1, w1, r1, k2⟩ := z
  cases r1
  cases u with
  | true => exact iteT (h2 _ σ ρ _ _ _ w1 (s.keep k1) k2)
  | false => exact iteF (k2 _ _ _ Keep.refl w1 rfl)
theorem ex_or (h1 : TX g Wx tA p) (h2 : TX g Wx tB q) : TX g Wx (tOr tA tB) (xOr p q) := fun μ σ ρ st H Q w s k => by
  refine h1 μ σ ρ st H _ w s ((kR.bind k).mono fun v st1 u μ1 H1 _ _ _ _ z => ?_)
  obtain ⟨v', st1', μ1', _, k1, w1, r1, k2⟩ := z
  cases r1
  cases u with
  | false => exact iteF (h2 _ σ ρ _ _ _ w1 (s.keep k1) k2)
  | true => exact iteT (k2 _ _ _ Keep.refl w1 rfl)
theorem ex_not (h1 : TX g Wx tA p) : TX g Wx (tNot tA) (xNot p) := fun μ σ ρ st H Q w s k => by
  refine h1 μ σ ρ st H _ w s ((kR.bind k).mono fun v st1 u μ1 H1 _ _ _ _ z => ?_)
  obtain ⟨v', st1', μ1', _, k1, w1, r1, k2⟩ := z
  cases r1
  exact k2 _ _ _ Keep.refl w1 rfl
theorem ex_ifE (hc : TX g Wx tA p) (ha : EX g Wx ta a) (hb : EX g Wx tb b) : EX g Wx (tIf tA ta tb) (xIfE p a b) := fun μ σ ρ st H Q w s k => by
  refine hc μ σ ρ st H _ w s ((kR.bind k).mono fun v st1 u μ1 H1 _ _ _ _ z => ?_)
  obtain ⟨v', st1', μ1', _, k1, w1, r1, k2⟩ := z
  cases r1
  cases u with
  | true => exact iteT (ha _ σ ρ _ _ _ w1 (s.keep k1) k2)
  | false => exact iteF (hb _ σ ρ _ _ _ w1 (s.keep k1) k2)
theorem ex_andV (ha : EX g Wx ta a) (hb : EX g Wx tb b) : EX g Wx (tAndT g.K ta tb) (xAndV a b) := fun μ σ ρ st H Q w s k => by
  refine ha μ σ ρ st H _ w s ((kR.bind k).mono fun v st1 u μ1 H1 _ _ _ _ z => ?_)
  obtain ⟨v', st1', μ1', _, k1, w1, r1, k2⟩ := z
  obtain ⟨t, z, k3⟩ := kTru w1 r1 k2
  refine ⟨t, z, ?_⟩
  cases t with
  | true => exact iteT (hb _ σ ρ _ _ _ w1 (s.keep k1) k3)
  | false => exact iteF (k3 _ _ _ Keep.refl w1 r1)
theorem ex_orV (ha : EX g Wx ta a) (hb : EX g Wx tb b) : EX g Wx (tOrT g.K ta tb) (xOrV a b) := fun μ σ ρ st H Q w s k => by
  refine ha μ σ ρ st H _ w s ((kR.bind k).mono fun v st1 u μ1 H1 _ _ _ _ z => ?_)
  obtain ⟨v', st1', μ1', _, k1, w1, r1, k2⟩ := z
  obtain ⟨t, z, k3⟩ := kTru w1 r1 k2
  refine ⟨t, z, ?_⟩
  cases t with
  | false => exact iteF (hb _ σ ρ _ _ _ w1 (s.keep k1) k3)
  | true => exact iteT (k3 _ _ _ Keep.refl w1 r1)
theorem ex_notV (ha : EX g Wx ta a) : EX g Wx (tNotT g.K ta) (xNotV a) := fun μ σ ρ st H Q w s k => by
  refine ha μ σ ρ st H _ w s ((kR.bind k).mono fun v st1 u μ1 H1 _ _ _ _ z => ?_)
  obtain ⟨v', st1', μ1', _, k1, w1, r1, k2⟩ := z
  obtain ⟨t, z, k3⟩ := kTru w1 r1 k2
  exact ⟨t, z, k3 _ _ _ Keep.refl w1 rfl⟩
end
section
variable {T : Tb} {X : Cx} {Wx : WX} {pos : Pos} {ta tb : TE} {a b : XE} {e e1 e2 : Expr} {r : R2} {f : Val → Val → Store → R Val} {tA tB : TT} {p q : XT} {rest es : List Expr}
theorem sx_int {i j} : SE T X Wx (.Constant (.int i) j pos) (tC (.int i)) (xC (.int i)) := ⟨pe_int, ex_C fun _ => rfl⟩
theorem sx_bl {i j} : SE T X Wx (.Constant (.bool i) j pos) (tC (.bl i)) (xC (.bl i)) := ⟨pe_bl, ex_C fun _ => rfl⟩
theorem sx_str {i j} : SE T X Wx (.Constant (.str i) j pos) (tC (.str i)) (xC (.str i)) := ⟨pe_str, ex_C fun _ => rfl⟩
theorem sx_var (i : Nat) {x : Str} (hN : X.N[i]? = some x := by rfl) (hv : Vis X.env.scope x := by first | exact Or.inl rfl | exact Or.inr (Or.inl rfl) | exact Or.inr (Or.inr rfl)) (hd : (x == ("__debug__" : Str)) = false := by decide)
    (hcd : (x == ("__classdict__" : Str)) = false := by decide) : SE T X Wx (.Name x pos) (tVar i) (xV i) := ⟨pe_var hN hv hd hcd, ex_V i⟩
/-- a constant of the module -/
theorem sx_glob {x : Str} {v : V} {u : Value} {d : Dt} (hg : Gl X x) (hm : X.mg x = some u) (rv : RelV v u) (h : ∀ H, Imm X.K H d v) (hd : (x == ("__debug__" : Str)) = false := by decide) : SE T X Wx (.Name x pos) (tC v) (xC d) := ⟨pe_glob hg hm rv hd, ex_C h⟩
theorem sx_gI {x : Str} {i : Int} (hm : ∃ t, X.mg x = some (.int i t)) (hg : Gl X x := by rfl) (hd : (x == ("__debug__" : Str)) = false := by decide) : SE T X Wx (.Name x pos) (tC (.int i)) (xC (.int i)) := by
  obtain ⟨t, hm⟩ := hm
  exact sx_glob hg hm ⟨t, rfl⟩ (fun _ => rfl) hd
theorem sx_gS {x : Str} {i : Str} (hm : ∃ t, X.mg x = some (.str i t)) (hg : Gl X x := by rfl) (hd : (x == ("__debug__" : Str)) = false := by decide) : SE T X Wx (.Name x pos) (tC (.str i)) (xC (.str i)) := by
  obtain ⟨t, hm⟩ := hm
  exact sx_glob hg hm ⟨t, rfl⟩ (fun _ => rfl) hd
/-- a def as a value -/
theorem sx_fn (k : Nat) {x : Str} {f : Addr} (hm : X.mg x = some (.ref f)) (hk : T.FN k = x := by rfl) (hg : Gl X x := by rfl) (hd : (x == ("__debug__" : Str)) = false := by decide) : SE T X Wx (.Name x pos) (tC (.ref f)) (xFn k) :=
  ⟨pe_glob hg hm (rfl : RelV (.ref f) _) hd, ex_Fn (by show X.mg (T.FN k) = _; rw [hk]; exact hm)⟩
theorem sx_op {op : Operator} (ho : OpR X (binaryOp op) r) (hf : O2 (gX T X) r f) (hc : Calm f) (ha : SE T X Wx e1 ta a) (hb : SE T X Wx e2 tb b) : SE T X Wx (.BinOp e1 op e2 pos) (tOp r ta tb) (xOp f a b) := ⟨pe_op ho ha.pe hb.pe, ex_op hf hc ha.ex hb.ex⟩
theorem sx_cmp {op : CmpOp} (ho : OpR X (compareOp op) r) (hf : O2 (gX T X) r f) (hc : Calm f) (ha : SE T X Wx e1 ta a) (hb : SE T X Wx e2 tb b) (hm : behindInMarks op e2 = false := by first | exact nomark _ | rfl | (with_unfolding_all rfl)) : SE T X Wx (.Compare e1 [op] [e2] pos) (tOp r ta tb) (xOp f a b) := ⟨pe_cmpR ho ha.pe hb.pe hm, ex_op hf hc ha.ex hb.ex⟩
theorem sx_ix (ho : IxR X r) (hf : O2 (gX T X) r f) (hc : Calm f) (ha : SE T X Wx e1 ta a) (hb : SE T X Wx e2 tb b) (hs : PlainIx e2 := by exact fun _ _ => rfl) : SE T X Wx (.Subscript e1 e2 pos) (tOp r ta tb) (xOp f a b) := ⟨pe_ix ho ha.pe hb.pe hs, ex_op hf hc ha.ex hb.ex⟩
theorem st_cmp {op : CmpOp} (ho : OpR X (compareOp op) r) (hf : O2 (gX T X) r f) (hc : Calm f) (ha : SE T X Wx e1 ta a) (hb : SE T X Wx e2 tb b) (hm : behindInMarks op e2 = false := by first | exact nomark _ | rfl | (with_unfolding_all rfl)) : ST T X Wx (.Compare e1 [op] [e2] pos) (tTest (tOp r ta tb)) (xTest (xOp f a b)) := ⟨pt_cmpR ho ha.pe hb.pe hm, ex_test (ex_op hf hc ha.ex hb.ex)⟩
theorem st_truth (ha : SE T X Wx e1 ta a) (he : ∀ whole, isTrue e1 X.env whole = (do let v ← whole; standAt e1.pos; holding [v] (truthy v)) := by intro _; rfl) : ST T X Wx e1 (fun σ H Q => ta σ H fun x H' => ∃ k, TruV X.K x H' k ∧ Q k H') (xTru a) := ⟨pt_truth ha.pe he, ex_truth ha.ex⟩
theorem SW.pt (h : SW T X Wx e tA p) : ST T X Wx e tA p := ⟨h.pe.pt, h.ex⟩
theorem sw_and1 (h : ST T X Wx e tA p) : SW T X Wx (.BoolOp .And [e] pos) tA p := ⟨pw_and1 h.pe, h.ex⟩
theorem sw_or1 (h : ST T X Wx e tA p) : SW T X Wx (.BoolOp .Or [e] pos) tA p := ⟨pw_or1 h.pe, h.ex⟩
theorem sw_and (h1 : ST T X Wx e1 tA p) (h2 : SW T X Wx (.BoolOp .And (e2 :: rest) pos) tB q) : SW T X Wx (.BoolOp .And (e1 :: e2 :: rest) pos) (tAnd tA tB) (xAnd p q) := ⟨pw_and h1.pe h2.pe, ex_and h1.ex h2.ex⟩
theorem sw_or (h1 : ST T X Wx e1 tA p) (h2 : SW T X Wx (.BoolOp .Or (e2 :: rest) pos) tB q) : SW T X Wx (.BoolOp .Or (e1 :: e2 :: rest) pos) (tOr tA tB) (xOr p q) := ⟨pw_or h1.pe h2.pe, ex_or h1.ex h2.ex⟩
theorem st_not (h : ST T X Wx e tA p) : ST T X Wx (.UnaryOp .Not e pos) (tNot tA) (xNot p) := ⟨pt_not h.pe, ex_not h.ex⟩
theorem sx_one {op} (h : SE T X Wx e ta a) : SE T X Wx (.BoolOp op [e] pos) ta a := ⟨pe_one h.pe, h.ex⟩
theorem sx_and (h1 : SE T X Wx e1 ta a) (h2 : SE T X Wx (.BoolOp .And (e2 :: rest) pos) tb b) : SE T X Wx (.BoolOp .And (e1 :: e2 :: rest) pos) (tAndT X.K ta tb) (xAndV a b) := ⟨pe_andT h1.pe h2.pe, ex_andV h1.ex h2.ex⟩
theorem sx_or (h1 : SE T X Wx e1 ta a) (h2 : SE T X Wx (.BoolOp .Or (e2 :: rest) pos) tb b) : SE T X Wx (.BoolOp .Or (e1 :: e2 :: rest) pos) (tOrT X.K ta tb) (xOrV a b) := ⟨pe_orT h1.pe h2.pe, ex_orV h1.ex h2.ex⟩
theorem sx_not (h1 : SE T X Wx e ta a) : SE T X Wx (.UnaryOp .Not e pos) (tNotT X.K ta) (xNotV a) := ⟨pe_notT h1.pe, ex_notV h1.ex⟩
theorem sx_if {c : Expr} (hc : ST T X Wx c tA p) (h1 : SE T X Wx e1 ta a) (h2 : SE T X Wx e2 tb b) : SE T X Wx (.IfExp c e1 e2 pos) (tIf tA ta tb) (xIfE p a b) := ⟨pe_ifExp hc.pe h1.pe h2.pe, ex_ifE hc.ex h1.ex h2.ex⟩
theorem sa_nil : SA T X Wx [] tNil xNil := ⟨pa_nil, ex_nil⟩
theorem sa_cons {t : TA} {x : XA} (h1 : SE T X Wx e ta a) (h2 : SA T X Wx es t x) (hs : starEach (e :: es) X.env = (false, eval e X.env) :: starEach es X.env := by rfl) : SA T X Wx (e :: es) (tCons ta t) (xCons a x) := ⟨pa_cons h1.pe h2.pe hs, ex_cons h1.ex h2.ex⟩
end
/-! ### statements -/
def R.toO {α : Type} (r : R α) (ρ : Slots) (k : α → Store → O) : O := match r with
  | .ok a st => k a st
  | .ex e st => .er e ρ st
  | .bad => .bad
def O.then (o : O) (k : Slots → Store → O) : O := match o with
  | .nx ρ st => k ρ st
  | o => o
def xSkip : XS := fun ρ st => .nx ρ st
def xSeq (p q : XS) : XS := fun ρ st => (p ρ st).then q
def xIf (t : XT) (p q : XS) : XS := fun ρ st => (t ρ st).toO ρ fun b st => match b with
  | true => p ρ st
  | false => q ρ st
def xRet (e : XE) : XS := fun ρ st => (e ρ st).toO ρ .rt
def xExpr (e : XE) : XS := fun ρ st => (e ρ st).toO ρ fun _ st => .nx ρ st
def xSet (i : Nat) (e : XE) : XS := fun ρ st => (e ρ st).toO ρ fun v st => .nx (ρ.set i (some v)) st
def xAug (i : Nat) (f : Val → Val → Store → R Val) (e : XE) : XS := fun ρ st => (xV i ρ st).toO ρ fun u st => (e ρ st).toO ρ fun v st => (f u v st).toO ρ fun z st => .nx (ρ.set i (some z)) st
abbrev XG := Val → Slots → Option Slots
def xgN (i : Nat) : XG := fun v ρ => some (ρ.set i (some v))
def xgNil : List Val → Slots → Option Slots := fun vs ρ => match vs with
  | [] => some ρ
  | _ => none
def xgCons (p : XG) (q : List Val → Slots → Option Slots) : List Val → Slots → Option Slots := fun vs ρ => match vs with
  | v :: vs => (match p v ρ with
    | some ρ' => q vs ρ'
    | none => none)
  | [] => none
def tupV : Val → Option (List Val)
  | .im (.tup ds) => some (ds.map .im)
  | .tv vs => some vs
  | _ => none
def xgTup (n : Nat) (q : List Val → Slots → Option Slots) : XG := fun v ρ => match tupV v with
  | some vs => if vs.length = n then q vs ρ else none
  | none => none
def xAsg (e : XE) (y : XG) : XS := fun ρ st => (e ρ st).toO ρ fun v st => match y v ρ with
  | some ρ' => .nx ρ' st
  | none => .bad
section
variable {g : G} {Wx : WX} {σ : Sg} {μ : List Addr} {H : Hp} {α β : Type}
theorem kO.bind {rel : Hp → List Addr → α → β → Prop} {D : Ends} {r : R α} {ρ : Slots} {k : α → Store → O} (s : SOk g H μ σ ρ) (h : kO g Wx μ H D (r.toO ρ k)) :
    kR g Wx σ μ H rel (fun u H1 => ∃ v st1 μ1, r = .ok v st1 ∧ Keep μ H μ1 H1 ∧ Wd g μ1 st1 H1 ∧ rel H1 μ1 v u ∧ kO g Wx μ1 H1 D (k v st1)) r := by
  cases r with
  | ok v st' => exact fun u μ' H' q w z => ⟨v, st', μ', rfl, q, w, z, kO.later q h⟩
  | ex e st' => exact fun cls d μ' H' q w x => h cls d σ μ' H' q w (s.keep q) x
  | bad => exact h
theorem tupV_ok {v : Val} {u : V} {vs : List Val} (h : VOk g H μ v u) (e : tupV v = some vs) : ∃ a ws, u = .ref a ∧ SqN g.K H a ws ∧ VOks g H μ vs ws := by
  cases v with
  | im d => cases d with
    | tup ds => cases e; obtain ⟨a, ws, e, s, t⟩ := h; exact ⟨a, ws, e, s, VOks.im.mpr t⟩
    | _ => cases e
  | tv us => cases e; exact h
  | _ => cases e
variable {t u : TS} {p q : XS} {te tb : TE} {x y : XE} {tA : TT} {c : XT}
theorem es_nil : SXs g Wx tNext xSkip := fun μ σ ρ st H D w s k => k σ μ H Keep.refl w s
theorem es_seq (h1 : SXs g Wx t p) (h2 : SXs g Wx u q) : SXs g Wx (tSeq t u) (xSeq p q) := fun μ σ ρ st H D w s k => by
  refine h1 μ σ ρ st H { D with nx := u D } w s ?_
  unfold xSeq at k
  cases z : p ρ st with
  | nx ρ' st' =>
    rw [z] at k
    exact fun σ' μ' H' k' w' s' => h2 μ' σ' ρ' st' H' D w' s' (kO.later k' k)
  | rt v st' => rw [z] at k; exact k
  | bk ρ' st' => rw [z] at k; exact k
  | ct ρ' st' => rw [z] at k; exact k
  | er e ρ' st' => rw [z] at k; exact k
  | bad => rw [z] at k; exact k
theorem es_if (hc : TX g Wx tA c) (h1 : SXs g Wx t p) (h2 : SXs g Wx u q) : SXs g Wx (tIfS tA t u) (xIf c p q) := fun μ σ ρ st H D w s k => by
  refine hc μ σ ρ st H _ w s ((kO.bind s k).mono fun v st1 u μ1 H1 _ _ _ _ z => ?_)
  obtain ⟨v', st1', μ1', _, k1, w1, r1, k2⟩ := z
  cases r1
  cases u with
  | true => exact iteT (h1 _ σ ρ _ _ _ w1 (s.keep k1) k2)
  | false => exact iteF (h2 _ σ ρ _ _ _ w1 (s.keep k1) k2)
theorem es_ret (h : EX g Wx te x) : SXs g Wx (tRet te) (xRet x) := fun μ σ ρ st H D w s k => by
  refine h μ σ ρ st H _ w s ((kO.bind s k).mono fun v st1 u μ1 H1 _ _ _ _ z => ?_)
  obtain ⟨v', st1', μ1', _, k1, w1, r1, k2⟩ := z
  exact k2 _ _ _ Keep.refl w1 r1
theorem es_expr (h : EX g Wx te x) : SXs g Wx (tDrop te) (xExpr x) := fun μ σ ρ st H D w s k => by
  refine h μ σ ρ st H _ w s ((kO.bind s k).mono fun v st1 u μ1 H1 _ _ _ _ z => ?_)
  obtain ⟨v', st1', μ1', _, k1, w1, r1, k2⟩ := z
  exact k2 _ _ _ Keep.refl w1 (s.keep k1)
theorem es_set (i : Nat) (h : EX g Wx te x) : SXs g Wx (tAsg te (gName i)) (xSet i x) := fun μ σ ρ st H D w s k => by
  refine h μ σ ρ st H _ w s ((kO.bind s k).mono fun v st1 u μ1 H1 _ _ _ _ z => ?_)
  obtain ⟨v', st1', μ1', _, k1, w1, r1, k2⟩ := z
  exact k2 _ _ _ Keep.refl w1 ((s.keep k1).set r1 i)
theorem es_aug (i : Nat) {r : R2} {f : Val → Val → Store → R Val} (hf : O2 g r f) (hc : Calm f) (h : EX g Wx te x) : SXs g Wx (tAug i te r) (xAug i f x) := fun μ σ ρ st H D w s k => by
  unfold xAug xV at k
  cases q : ρ[i]? with
  | none => rw [q] at k; exact k.elim
  | some o => cases o with
    | none => rw [q] at k; exact k.elim
    | some v0 =>
      rw [q] at k
      obtain ⟨u0, e0, r0⟩ := s.2 i v0 q
      have k : kO g Wx μ H D ((x ρ st).toO ρ fun v st => (f v0 v st).toO ρ fun z st => .nx (ρ.set i (some z)) st) := k
      refine ⟨u0, e0, h μ σ ρ st H _ w s ((kO.bind (rel := VOk g) s k).mono fun v st1 u μ1 H1 _ _ _ _ z => ?_)⟩
      obtain ⟨v', st1', μ1', _, k1, w1, r1, k2⟩ := z
      refine hf σ _ _ _ _ _ _ _ _ w1 (r0.keep k1) r1 ?_
      have := (kO.bind (rel := VOk g) (s.keep k1) k2)
      refine (this.W0 (hc _ _ _)).mono fun v2 st2 u2 μ2 H2 _ _ _ _ z => ?_
      obtain ⟨v2', st2', μ2', _, k2', w2, r2, k3⟩ := z
      exact k3 _ _ _ Keep.refl w2 (((s.keep k1).keep k2').set r2 i)
/-- targets -/
def Keeps (ws : List Nat) (σ σ' : Sg) : Prop := σ'.length = σ.length ∧ ∀ j, j ∉ ws → σ'[j]? = σ[j]?
theorem Keeps.trans {a b : List Nat} {σ σ1 σ2 : Sg} (h1 : Keeps a σ σ1) (h2 : Keeps b σ1 σ2) : Keeps (a ++ b) σ σ2 := ⟨h2.1.trans h1.1, fun j hj => by
  rw [List.mem_append] at hj
  rw [h2.2 j (fun z => hj (.inr z)), h1.2 j (fun z => hj (.inl z))]⟩
abbrev VRel := Hp → List Addr → Val → V → Prop
/-- a value, or a new tuple that is taken apart at once -/
def YOk (g : G) : VRel := fun H μ v u => VOk g H μ v u ∨ ∃ T ws vs, u = .ref T ∧ SqT g.K H T ws ∧ tupV v = some vs ∧ VOks g H μ vs ws
def GXr (g : G) (rel : VRel) (ws : List Nat) (t : TG) (y : XG) : Prop := ∀ (μ : List Addr) (H : Hp) (σ : Sg) (ρ ρ' : Slots) (v : Val) (u : V) (k : Sg → Hp → Prop), SOk g H μ σ ρ → rel H μ v u → y v ρ = some ρ' → (∀ σ', SOk g H μ σ' ρ' → Keeps ws σ σ' → k σ' H) → t u σ H k
abbrev GX (g : G) (ws : List Nat) (t : TG) (y : XG) : Prop := GXr g (VOk g) ws t y
def GXs (g : G) (ws : List Nat) (t : TGs) (y : List Val → Slots → Option Slots) : Prop := ∀ (μ : List Addr) (H : Hp) (σ : Sg) (ρ ρ' : Slots) (v : List Val) (u : List V) (k : Sg → Hp → Prop), SOk g H μ σ ρ → VOks g H μ v u → y v ρ = some ρ' → (∀ σ', SOk g H μ σ' ρ' → Keeps ws σ σ' → k σ' H) → t u σ H k
theorem gx_name (i : Nat) : GX g [i] (gName i) (xgN i) := fun μ H σ ρ ρ' v u k s h e q => by
  cases e
  exact q _ (s.set h i) ⟨by simp, fun j hj => List.getElem?_set_ne (fun e => hj (by simp [e]))⟩
theorem gx_nil : GXs g [] gNil xgNil := fun μ H σ ρ ρ' v u k s h e q => by
  cases v with
  | nil => cases e; exact ⟨h, q _ s ⟨rfl, fun _ _ => rfl⟩⟩
  | cons a b => cases e
theorem gx_cons {w1 w2 : List Nat} {t1 : TG} {t2 : TGs} {y : XG} {z : List Val → Slots → Option Slots} (h1 : GX g w1 t1 y) (h2 : GXs g w2 t2 z) : GXs g (w1 ++ w2) (gCons t1 t2) (xgCons y z) := fun μ H σ ρ ρ' v u k s h e q => by
  cases v with
  | nil => cases e
  | cons a b =>
    obtain ⟨x, xs, rfl, a1, a2⟩ := h
    simp only [xgCons] at e
    split at e
    · rename_i ρ1 e1
      refine ⟨x, xs, rfl, h1 μ H σ ρ ρ1 a x _ s a1 e1 fun σ1 s1 k1 => ?_⟩
      exact h2 μ H σ1 ρ1 ρ' b xs k s1 a2 e fun σ2 s2 k2 => q σ2 s2 (k1.trans k2)
    · cases e
theorem gx_tupY {ws : List Nat} {n : Nat} {t : TGs} {y : List Val → Slots → Option Slots} (h1 : GXs g ws t y) : GXr g (YOk g) ws (gTup g.K n t) (xgTup n y) := fun μ H σ ρ ρ' v u k s h e q => by
  unfold xgTup at e
  split at e
  · rename_i vs ev
    split at e
    · rename_i hn
      rcases h with h | ⟨a, xs, vs', rfl, h2, h3, h4⟩
      · obtain ⟨a, xs, rfl, h2, h3⟩ := tupV_ok h ev
        exact ⟨a, xs, rfl, h2.t, by rw [h3.length]; exact hn, h1 μ H σ ρ ρ' vs xs k s h3 e q⟩
      · rw [ev] at h3
        cases h3
        exact ⟨a, xs, rfl, h2, by rw [h4.length]; exact hn, h1 μ H σ ρ ρ' vs xs k s h4 e q⟩
    · cases e
  · cases e
theorem gx_tup {ws : List Nat} {n : Nat} {t : TGs} {y : List Val → Slots → Option Slots} (h1 : GXs g ws t y) : GX g ws (gTup g.K n t) (xgTup n y) := fun μ H σ ρ ρ' v u k s h e q => gx_tupY h1 μ H σ ρ ρ' v u k s (.inl h) e q
theorem es_asg {ws : List Nat} {tg : TG} {y : XG} (h : EX g Wx te x) (hg : GX g ws tg y) : SXs g Wx (tAsg te tg) (xAsg x y) := fun μ σ ρ st H D w s k => by
  refine h μ σ ρ st H _ w s ((kO.bind s k).mono fun v st1 u μ1 H1 _ _ _ _ z => ?_)
  obtain ⟨v', st1', μ1', _, k1, w1, r1, k2⟩ := z
  split at k2
  · rename_i ρ' e
    exact hg _ _ _ _ _ _ _ _ (s.keep k1) r1 e fun σ' s' _ => k2 _ _ _ Keep.refl w1 s'
  · exact k2.elim
end
structure SG (T : Tb) (X : Cx) (e : Expr) (ws : List Nat) (t : TG) (y : XG) : Prop where
  pg : PG X e t
  ex : GX (gX T X) ws t y
structure SGs (T : Tb) (X : Cx) (es : List Expr) (ws : List Nat) (t : TGs) (y : List Val → Slots → Option Slots) : Prop where
  pg : PGs X es t
  ex : GXs (gX T X) ws t y
section
variable {T : Tb} {X : Cx} {Wx : WX} {pos : Pos} {te : TE} {x : XE} {e : Expr} {es : List Expr} {tA : TT} {c : XT} {t u : TS} {p q : XS} {s : Stmt} {rest b1 b2 : List Stmt}
theorem ss_nil : SSs T X Wx [] tNext xSkip := ⟨pss_nil, es_nil⟩
theorem ss_one (h : SS T X Wx s t p) : SSs T X Wx [s] t p := ⟨pss_one h.ps, h.ex⟩
theorem ss_cons (h1 : SS T X Wx s t p) (h2 : SSs T X Wx rest u q) : SSs T X Wx (s :: rest) (tSeq t u) (xSeq p q) := ⟨pss_cons h1.ps h2.ps, es_seq h1.ex h2.ex⟩
theorem ss_if (hc : ST T X Wx e tA c) (h1 : SSs T X Wx b1 t p) (h2 : SSs T X Wx b2 u q) : SS T X Wx (.If e b1 b2 pos) (tIfS tA t u) (xIf c p q) := ⟨ps_if hc.pe h1.ps h2.ps, es_if hc.ex h1.ex h2.ex⟩
theorem ss_ret (h : SE T X Wx e te x) : SS T X Wx (.Return (some e) pos) (tRet te) (xRet x) := ⟨ps_ret h.pe, es_ret h.ex⟩
theorem ss_expr (h : SE T X Wx e te x) (hs : swapsWith e none pos.line X.env = pure false := by rfl) : SS T X Wx (.Expr e pos) (tDrop te) (xExpr x) := ⟨ps_expr h.pe hs, es_expr h.ex⟩
theorem ss_set (i : Nat) {y : Str} {pos' : Pos} (hN : X.N.Nodup) (h : SE T X Wx e te x) (hi : X.N[i]? = some y := by rfl) (hx : Loc X.env.scope y := by first | exact Or.inl rfl | exact Or.inr rfl) (hs : swapsWith e (some (.Name y pos')) pos.line X.env = pure false := by rfl)
    (hf : X.fn y = true ∨ X.env.scope.names.lookup y = some .local := by first | exact .inl rfl | exact .inr rfl) : SS T X Wx (.Assign [.Name y pos'] e pos) (tAsg te (gName i)) (xSet i x) := ⟨ps_set hN hi hx h.pe hs hf, es_set i h.ex⟩
theorem ss_aug (i : Nat) {y : Str} {pos' : Pos} {op : Operator} {r : R2} {f : Val → Val → Store → R Val} (hN : X.N.Nodup) (ho : OpR X (inplaceOp op) r) (hg : O2 (gX T X) r f) (hc : Calm f) (h : SE T X Wx e te x) (hi : X.N[i]? = some y := by rfl) (hx : Loc X.env.scope y := by first | exact Or.inl rfl | exact Or.inr rfl)
    (hf : X.fn y = true ∨ X.env.scope.names.lookup y = some .local := by first | exact .inl rfl | exact .inr rfl) : SS T X Wx (.AugAssign (.Name y pos') op e pos) (tAug i te r) (xAug i f x) := ⟨ps_aug hN hi hx h.pe ho hf, es_aug i hg hc h.ex⟩
theorem sg_name (i : Nat) {y : Str} (hN : X.N.Nodup) (hi : X.N[i]? = some y := by rfl) (hx : Loc X.env.scope y := by first | exact Or.inl rfl | exact Or.inr rfl) (hf : X.fn y = true ∨ X.env.scope.names.lookup y = some .local := by first | exact .inl rfl | exact .inr rfl) : SG T X (.Name y pos) [i] (gName i) (xgN i) := ⟨pg_name hN hi hx hf, gx_name i⟩
theorem sg_nil : SGs T X [] [] gNil xgNil := ⟨pgs_nil, gx_nil⟩
theorem sg_cons {w1 w2 : List Nat} {t1 : TG} {t2 : TGs} {y : XG} {z : List Val → Slots → Option Slots} (h1 : SG T X e w1 t1 y) (h2 : SGs T X es w2 t2 z) (hs : (assignEach (e :: es) X.env).map (·.2) = assign e X.env :: (assignEach es X.env).map (·.2) := by rfl) : SGs T X (e :: es) (w1 ++ w2) (gCons t1 t2) (xgCons y z) := ⟨pgs_cons h1.pg h2.pg hs, gx_cons h1.ex h2.ex⟩
theorem sg_tup {k n : Nat} {ws : List Nat} {t : TGs} {y : List Val → Slots → Option Slots} (hc : X.calm = true) (h : SGs T X es ws t y) (hn : (assignEach es X.env).length = n := by rfl) (hst : (assignEach es X.env).findIdx? (·.1) = none := by rfl) : SG T X (.Tuple es k pos) ws (gTup X.K n t) (xgTup n y) := ⟨pg_tup hc h.pg hn hst, gx_tup h.ex⟩
theorem ss_asg {tg : Expr} {ws : List Nat} {tt : TG} {y : XG} (h1 : SE T X Wx e te x) (h2 : SG T X tg ws tt y) (hs : swapsWithSole [tg] e pos.line X.env = pure false := by rfl) (hw : swappedStores [tg] e X.env = pure none := by rfl) (h3 : (assignEach [tg] X.env).map (·.2) = [assign tg X.env] := by rfl) :
    SS T X Wx (.Assign [tg] e pos) (tAsg te tt) (xAsg x y) := ⟨ps_asg h1.pe h2.pg hs hw h3, es_asg h1.ex h2.ex⟩
end
/-! ### what is walked -/
/-- items that stand, or items that are read at each turn -/
inductive Src where
  | vals (vs : List Val)
  | live (n : Nat) (f : Nat → Store → Option (Option Val))
abbrev XI := Slots → Store → R Src
def SrcOk (g : G) (rel : VRel) (μ : List Addr) (H : Hp) (J : It) : Src → Prop
  | .vals vs => ∀ μ2 H2, Keep μ H μ2 H2 → J.stop vs.length H2 ∧ ∀ i v, vs[i]? = some v → J.go i H2 ∧ ∀ x H3, J.yld i H2 x H3 → Same H2 H3 ∧ rel H3 μ2 v x
  | .live n f => ∀ μ2 st2 H2, Keep μ H μ2 H2 → Wd g μ2 st2 H2 → ∀ i, match f i st2 with
    | none => True
    | some none => J.stop i H2
    | some (some v) => J.go i H2 ∧ ∀ x H3, J.yld i H2 x H3 → Same H2 H3 ∧ rel H3 μ2 v x
def kI (g : G) (rel : VRel) (Wx : WX) (σ : Sg) (μ : List Addr) (H : Hp) (Q : It → Hp → Prop) : R Src → Prop
  | .ok v st' => ∀ J μ' H', Keep μ H μ' H' → Wd g μ' st' H' → SrcOk g rel μ' H' J v → Q J H'
  | .ex e st' => ∀ cls d μ' H', Keep μ H μ' H' → Wd g μ' st' H' → ExOk g e cls d H' → Wx cls d σ H'
  | .bad => False
def IX (g : G) (rel : VRel) (Wx : WX) (t : TI) (x : XI) : Prop := ∀ (μ : List Addr) (σ : Sg) (ρ : Slots) (st : Store) (H : Hp) (Q : It → Hp → Prop), Wd g μ st H → SOk g H μ σ ρ → kI g rel Wx σ μ H Q (x ρ st) → t σ H Q
structure SI (T : Tb) (X : Cx) (Wx : WX) (tg it : Expr) (t : TI) (x : XI) : Prop where
  pi : PI X tg it t
  ex : IX (gX T X) (VOk (gX T X)) Wx t x
/-- a turn's end: on, or out -/
def O.turn (o : O) (k : Slots → Store → O) : O := match o with
  | .nx ρ st => k ρ st
  | .ct ρ st => k ρ st
  | .bk ρ st => .nx ρ st
  | o => o
def loopV (y : XG) (b : XS) : List Val → XS
  | [], ρ, st => .nx ρ st
  | v :: vs, ρ, st => match y v ρ with
    | some ρ' => (b ρ' st).turn (loopV y b vs)
    | none => .bad
def loopL (f : Nat → Store → Option (Option Val)) (y : XG) (b : XS) : Nat → Nat → XS
  | n, i, ρ, st => match f i st with
    | none => .bad
    | some none => .nx ρ st
    | some (some v) => match n with
      | 0 => .bad
      | n + 1 => match y v ρ with
        | some ρ' => (b ρ' st).turn (loopL f y b n (i + 1))
        | none => .bad
def xFor (it : XI) (y : XG) (b : XS) : XS := fun ρ st => (it ρ st).toO ρ fun s st => match s with
  | .vals vs => loopV y b vs ρ st
  | .live n f => loopL f y b n 0 ρ st
def loopW (c : XT) (b : XS) : Nat → XS
  | 0, _, _ => .bad
  | n + 1, ρ, st => (c ρ st).toO ρ fun k st => match k with
    | false => .nx ρ st
    | true => (b ρ st).turn (loopW c b n)
def xWhile (n : Nat) (c : XT) (b : XS) : XS := loopW c b n
section
variable {g : G} {Wx : WX} {μ : List Addr} {H : Hp} {D : Ends}
theorem kO.turn {o : O} {k : Slots → Store → O} {N : Sg → Hp → Prop} (h : kO g Wx μ H D (o.turn k)) (hN : ∀ ρ st σ' μ' H', Keep μ H μ' H' → Wd g μ' st H' → SOk g H' μ' σ' ρ → kO g Wx μ' H' D (k ρ st) → N σ' H') :
    kO g Wx μ H { D with nx := N, ct := N, bk := D.nx } o := by
  cases o with
  | nx ρ st => exact fun σ' μ' H' k' w' s' => hN ρ st σ' μ' H' k' w' s' (kO.later k' h)
  | ct ρ st => exact fun σ' μ' H' k' w' s' => hN ρ st σ' μ' H' k' w' s' (kO.later k' h)
  | bk ρ st => exact h
  | rt v st => exact h
  | er e ρ st => exact h
  | bad => exact h
theorem es_for {rel : VRel} {ws : List Nat} {wi : TI} {it : XI} {tg : TG} {y : XG} {tb : TS} {b : XS} (hi : IX g rel Wx wi it) (hg : GXr g rel ws tg y) (hb : SXs g Wx tb b) : SXs g Wx (tFor wi tg tb) (xFor it y b) := fun μ σ ρ st H D w s k => by
  refine hi μ σ ρ st H _ w s ?_
  unfold xFor at k
  cases z : it ρ st with
  | bad => rw [z] at k; exact k
  | ex e st' => rw [z] at k; exact fun cls d μ' H' k' w' x => k cls d σ μ' H' k' w' (s.keep k') x
  | ok src st1 =>
    rw [z] at k
    intro J μ1 H1 k1 w1 hJ
    have k := kO.later k1 k
    cases src with
    | vals vs =>
      refine ⟨fun i m σ2 H2 => ∃ μ2 ρ2 st2, m = vs.length - i ∧ i ≤ vs.length ∧ Keep μ1 H1 μ2 H2 ∧ Wd g μ2 st2 H2 ∧ SOk g H2 μ2 σ2 ρ2 ∧ kO g Wx μ2 H2 D (loopV y b (vs.drop i) ρ2 st2), ⟨vs.length, μ1, ρ, st1, by simp, Nat.zero_le _, Keep.refl, w1, s.keep k1, k⟩, ?_⟩
      rintro i m σ2 H2 ⟨μ2, ρ2, st2, rfl, hi, kk, w2, s2, h2⟩
      obtain ⟨hs, hy⟩ := hJ μ2 H2 kk
      by_cases hlt : i < vs.length
      · obtain ⟨go, yl⟩ := hy i _ (List.getElem?_eq_getElem hlt)
        rw [List.drop_eq_getElem_cons hlt] at h2
        refine .inr ⟨go, fun σ3 H3 => ∃ μ2 ρ2 st2, Keep μ1 H1 μ2 H3 ∧ Wd g μ2 st2 H3 ∧ SOk g H3 μ2 σ3 ρ2 ∧ kO g Wx μ2 H3 D (loopV y b (vs.drop (i + 1)) ρ2 st2), ?_, fun x H3 hx => ?_⟩
        · rintro σ3 H3 ⟨μ3, ρ3, st3, a1, a2, a3, a4⟩
          exact ⟨vs.length - (i + 1), by omega, μ3, ρ3, st3, rfl, hlt, a1, a2, a3, a4⟩
        · obtain ⟨sm, hv⟩ := yl x H3 hx
          have k3 : Keep μ2 H2 μ2 H3 := Keep.same sm
          unfold loopV at h2
          split at h2
          · rename_i ρ' e
            refine hg _ _ _ _ _ _ _ _ (s2.keep k3) hv e fun σ4 s4 _ => ?_
            exact hb _ σ4 ρ' st2 H3 _ (w2.same sm) s4 (kO.turn (kO.later k3 h2) fun ρ5 st5 σ5 μ5 H5 a1 a2 a3 a4 => ⟨μ5, ρ5, st5, (kk.trans k3).trans a1, a2, a3, a4⟩)
          · exact h2.elim
      · have e : i = vs.length := by omega
        subst e
        rw [List.drop_length] at h2
        exact .inl ⟨hs, h2 σ2 μ2 H2 Keep.refl w2 s2⟩
    | live n f =>
      refine ⟨fun i m σ2 H2 => ∃ μ2 ρ2 st2, Keep μ1 H1 μ2 H2 ∧ Wd g μ2 st2 H2 ∧ SOk g H2 μ2 σ2 ρ2 ∧ kO g Wx μ2 H2 D (loopL f y b m i ρ2 st2), ⟨n, μ1, ρ, st1, Keep.refl, w1, s.keep k1, k⟩, ?_⟩
      rintro i m σ2 H2 ⟨μ2, ρ2, st2, kk, w2, s2, h2⟩
      have hy := hJ μ2 st2 H2 kk w2 i
      unfold loopL at h2
      split at h2
      · exact h2.elim
      · rename_i e
        rw [e] at hy
        exact .inl ⟨hy, h2 σ2 μ2 H2 Keep.refl w2 s2⟩
      · rename_i v e
        rw [e] at hy
        obtain ⟨go, yl⟩ := hy
        split at h2
        · exact h2.elim
        · rename_i m
          refine .inr ⟨go, fun σ3 H3 => ∃ μ2 ρ2 st2, Keep μ1 H1 μ2 H3 ∧ Wd g μ2 st2 H3 ∧ SOk g H3 μ2 σ3 ρ2 ∧ kO g Wx μ2 H3 D (loopL f y b m (i + 1) ρ2 st2), ?_, fun x H3 hx => ?_⟩
          · rintro σ3 H3 ⟨μ3, ρ3, st3, a1, a2, a3, a4⟩
            exact ⟨m, by omega, μ3, ρ3, st3, a1, a2, a3, a4⟩
          · obtain ⟨sm, hv⟩ := yl x H3 hx
            have k3 : Keep μ2 H2 μ2 H3 := Keep.same sm
            split at h2
            · rename_i ρ' e
              refine hg _ _ _ _ _ _ _ _ (s2.keep k3) hv e fun σ4 s4 _ => ?_
              exact hb _ σ4 ρ' st2 H3 _ (w2.same sm) s4 (kO.turn (kO.later k3 h2) fun ρ5 st5 σ5 μ5 H5 a1 a2 a3 a4 => ⟨μ5, ρ5, st5, (kk.trans k3).trans a1, a2, a3, a4⟩)
            · exact h2.elim
theorem es_while {tc : TT} {c : XT} {tb : TS} {b : XS} (n : Nat) (hc : TX g Wx tc c) (hb : SXs g Wx tb b) : SXs g Wx (tWhile tc tb) (xWhile n c b) := fun μ σ ρ st H D w s k => by
  refine ⟨fun m σ2 H2 => ∃ μ2 ρ2 st2, Keep μ H μ2 H2 ∧ Wd g μ2 st2 H2 ∧ SOk g H2 μ2 σ2 ρ2 ∧ kO g Wx μ2 H2 D (loopW c b m ρ2 st2), ⟨n, μ, ρ, st, Keep.refl, w, s, k⟩, ?_⟩
  rintro m σ2 H2 ⟨μ2, ρ2, st2, kk, w2, s2, h2⟩
  cases m with
  | zero => exact h2.elim
  | succ m =>
    unfold loopW at h2
    refine hc μ2 σ2 ρ2 st2 H2 _ w2 s2 ((kO.bind s2 h2).mono fun v st1 u μ1 H1 _ _ _ _ z => ?_)
    obtain ⟨v', st1', μ1', _, k1, w1, r1, k2⟩ := z
    cases r1
    cases u with
    | false => exact iteF (k2 σ2 _ _ Keep.refl w1 (s2.keep k1))
    | true =>
      refine iteT ⟨fun σ3 H3 => ∃ μ2 ρ2 st2, Keep μ H μ2 H3 ∧ Wd g μ2 st2 H3 ∧ SOk g H3 μ2 σ3 ρ2 ∧ kO g Wx μ2 H3 D (loopW c b m ρ2 st2), ?_, ?_⟩
      · rintro σ3 H3 ⟨μ3, ρ3, st3, a1, a2, a3, a4⟩
        exact ⟨m, by omega, μ3, ρ3, st3, a1, a2, a3, a4⟩
      · exact hb _ σ2 ρ2 _ H1 _ w1 (s2.keep k1) (kO.turn k2 fun ρ5 st5 σ5 μ5 H5 a1 a2 a3 a4 => ⟨μ5, ρ5, st5, (kk.trans k1).trans a1, a2, a3, a4⟩)
end
section
variable {T : Tb} {X : Cx} {Wx : WX} {pos : Pos} {tg it e : Expr} {body : List Stmt} {ws : List Nat}
theorem ss_for {wi : TI} {xi : XI} {tt : TG} {y : XG} {tb : TS} {b : XS} (hp : PassesOwn (model X.prog X.w) X.A X.env X.xe) (hc : X.calm = true) (hi : SI T X Wx tg it wi xi) (hg : SG T X tg ws tt y) (hb : SSs T X Wx body tb b) (hs : ∀ x, foldedSetIterable it X.env x = pure x := by intro _; rfl) :
    SS T X Wx (.For tg it body [] pos) (tFor wi tt tb) (xFor xi y b) := ⟨ps_for hp hc hi.pi hg.pg hb.ps hs, es_for hi.ex hg.ex hb.ex⟩
theorem ss_while {tc : TT} {c : XT} {tb : TS} {b : XS} (n : Nat) (hp : PassesOwn (model X.prog X.w) X.A X.env X.xe) (hc : ST T X Wx e tc c) (hb : SSs T X Wx body tb b) : SS T X Wx (.While e body [] pos) (tWhile tc tb) (xWhile n c b) := ⟨ps_while hp hc.pe hb.ps, es_while n hc.ex hb.ex⟩
end
end SX
/-! what every law's head shares -/
namespace SX
open PySem PySem.Spec PyProof.Rows L2 PL
theorem room_hu {k : Nat} {A : Around} (r : Room k A) : A.units + 64 < cLine := by
  have := r.un
  omega
/-- a call's place: what it shares with the def -/
structure Same5 (X : Cx) (P : Program) (w : World) (K : PySem.W.Frag) (mg : Str → Option Value) (base : Heap) : Prop where
  prog : X.prog = P
  w : X.w = w
  K : X.K = K
  mg : X.mg = mg
  base : X.base = base
/-- a constant of the text that is a tuple -/
def Gt (K : PySem.W.Frag) (mg : Str → Option Value) (x : Str) (d : Dt) : Prop := ∃ v u, mg x = some u ∧ RelV v u ∧ ∀ H, Imm K H d v
end SX
/-! SX: defs and calls: a callee sees only the cells that its arguments reach, in a fixed order. -/
namespace SX
open PySem PySem.Spec PyProof.Rows L2 PL
open PL (Dt Imm Imms SqN Tups)
/-! ### renaming -/
mutual
def renV (r : Nat → Option Nat) : Val → Option Val
  | .im d => some (.im d)
  | .ob i => (match r i with
    | some j => some (.ob j)
    | none => none)
  | .tv vs => (match renVs r vs with
    | some ws => some (.tv ws)
    | none => none)
  | .scr ns => some (.scr ns)
  | .fn k => some (.fn k)
def renVs (r : Nat → Option Nat) : List Val → Option (List Val)
  | [] => some []
  | v :: vs => (match renV r v with
    | some u => (match renVs r vs with
      | some us => some (u :: us)
      | none => none)
    | none => none)
end
def ren2 {κ : Type} (r : Nat → Option Nat) : List (κ × Val) → Option (List (κ × Val))
  | [] => some []
  | (k, v) :: vs => (match renV r v with
    | some u => (match ren2 r vs with
      | some us => some ((k, u) :: us)
      | none => none)
    | none => none)
def renC (r : Nat → Option Nat) : Cl → Option Cl
  | .lst ds => some (.lst ds)
  | .lsv vs => (match renVs r vs with
    | some ws => some (.lsv ws)
    | none => none)
  | .dct kvs => (match ren2 r kvs with
    | some ws => some (.dct ws)
    | none => none)
  | .dcn kvs => (match ren2 r kvs with
    | some ws => some (.dcn ws)
    | none => none)
  | .ins c fs => (match ren2 r fs with
    | some ws => some (.ins c ws)
    | none => none)
def renCs (r : Nat → Option Nat) : Store → Option Store
  | [] => some []
  | c :: cs => (match renC r c with
    | some d => (match renCs r cs with
      | some ds => some (d :: ds)
      | none => none)
    | none => none)
section
variable {g : G} {H : Hp} {μ μ' : List Addr} {r : Nat → Option Nat}
def Maps (r : Nat → Option Nat) (μ μ' : List Addr) : Prop := ∀ i j a, r i = some j → μ[i]? = some a → μ'[j]? = some a
mutual
theorem renV_ok (m : Maps r μ μ') : ∀ {v v' : Val} {u : V}, renV r v = some v' → VOk g H μ v u → VOk g H μ' v' u
  | .im d, _, _, e, h => by cases e; exact h
  | .ob i, v', u, e, h => by
    simp only [renV] at e
    split at e
    · rename_i j hj
      cases e
      obtain ⟨a, h1, h2⟩ := h
      exact ⟨a, m i j a hj h1, h2⟩
    · cases e
  | .tv vs, v', u, e, h => by
    simp only [renV] at e
    split at e
    · rename_i ws hj
      cases e
      obtain ⟨a, xs, h1, h2, h3⟩ := h
      exact ⟨a, xs, h1, h2, renVs_ok m hj h3⟩
    · cases e
  | .scr ns, _, _, e, h => by cases e; exact h
  | .fn k, _, _, e, h => by cases e; exact h
theorem renVs_ok (m : Maps r μ μ') : ∀ {vs vs' : List Val} {us : List V}, renVs r vs = some vs' → VOks g H μ vs us → VOks g H μ' vs' us
  | [], _, _, e, h => by cases e; exact h
  | v :: vs, vs', us, e, h => by
    simp only [renVs] at e
    split at e
    · rename_i w hw
      split at e
      · rename_i ws hws
        cases e
        obtain ⟨x, xs, h1, h2, h3⟩ := h
        exact ⟨x, xs, h1, renV_ok m hw h2, renVs_ok m hws h3⟩
      · cases e
    · cases e
end
theorem ren2_ok {κ : Type} (m : Maps r μ μ') : ∀ {vs vs' : List (κ × Val)} {us : List V}, ren2 r vs = some vs' → vs'.map (·.1) = vs.map (·.1) ∧ (VOks g H μ (vs.map (·.2)) us → VOks g H μ' (vs'.map (·.2)) us)
  | [], _, _, e => by cases e; exact ⟨rfl, fun h => h⟩
  | (k, v) :: vs, vs', us, e => by
    simp only [ren2] at e
    split at e
    · rename_i w hw
      split at e
      · rename_i ws hws
        cases e
        refine ⟨by simp only [List.map_cons]; rw [(ren2_ok (us := []) m hws).1], fun h => ?_⟩
        obtain ⟨x, xs, h1, h2, h3⟩ := h
        exact ⟨x, xs, h1, renV_ok m hw h2, (ren2_ok m hws).2 h3⟩
      · cases e
    · cases e
theorem renC_ok (m : Maps r μ μ') {c c' : Cl} {a : Addr} (e : renC r c = some c') (h : COk g H μ c a) : COk g H μ' c' a := by
  cases c with
  | lst ds => cases e; exact h
  | lsv vs =>
    simp only [renC] at e
    split at e
    · rename_i ws hws
      cases e
      obtain ⟨xs, h1, h2⟩ := h
      exact ⟨xs, h1, renVs_ok m hws h2⟩
    · cases e
  | dct kvs =>
    simp only [renC] at e
    split at e
    · rename_i ws hws
      cases e
      obtain ⟨xs, h1, h2, h3⟩ := h
      exact ⟨xs, h1, by rw [(ren2_ok (g := g) (H := H) (us := []) m hws).1]; exact h2, (ren2_ok m hws).2 h3⟩
    · cases e
  | dcn kvs =>
    simp only [renC] at e
    split at e
    · rename_i ws hws
      cases e
      obtain ⟨xs, h1, h2, h3, h4, h5⟩ := h
      have ek := (ren2_ok (g := g) (H := H) (us := []) m hws).1
      refine ⟨xs, h1, by rw [ek]; exact h2, (ren2_ok m hws).2 h3, ?_, fun kv hk => ?_⟩
      · have : (ws.map fun kv => Dt.tup kv.1) = kvs.map fun kv => Dt.tup kv.1 := by
          have := congrArg (List.map Dt.tup) ek
          simpa [List.map_map, Function.comp_def] using this
        rw [this]
        exact h4
      · have : kv.1 ∈ ws.map (·.1) := List.mem_map_of_mem hk
        rw [ek] at this
        obtain ⟨kv', z1, z2⟩ := List.mem_map.mp this
        rw [← z2]
        exact h5 kv' z1
    · cases e
  | ins c fs =>
    simp only [renC] at e
    split at e
    · rename_i ws hws
      cases e
      obtain ⟨C, dx, xs, h1, h2, h3, h4⟩ := h
      exact ⟨C, dx, xs, h1, h2, by rw [(ren2_ok (g := g) (H := H) (us := []) m hws).1]; exact h3, (ren2_ok m hws).2 h4⟩
    · cases e
theorem renCs_get : ∀ {cs cs' : Store} {i : Nat} {c' : Cl}, renCs r cs = some cs' → cs'[i]? = some c' → ∃ c, cs[i]? = some c ∧ renC r c = some c'
  | [], _, i, c', e, h => by cases e; simp at h
  | c :: cs, cs', i, c', e, h => by
    simp only [renCs] at e
    split at e
    · rename_i d hd
      split at e
      · rename_i ds hds
        cases e
        cases i with
        | zero => simp at h; subst h; exact ⟨c, rfl, hd⟩
        | succ i =>
          obtain ⟨c2, z1, z2⟩ := renCs_get (i := i) hds (by simpa using h)
          exact ⟨c2, by simpa using z1, z2⟩
      · cases e
    · cases e
theorem renCs_len : ∀ {cs cs' : Store}, renCs r cs = some cs' → cs'.length = cs.length
  | [], _, e => by cases e; rfl
  | c :: cs, cs', e => by
    simp only [renCs] at e
    split at e
    · split at e
      · rename_i ds hds
        cases e
        simp [renCs_len hds]
      · cases e
    · cases e
end
/-! ### the cells that values reach -/
def memN (i : Nat) : List Nat → Bool
  | [] => false
  | j :: l => if Nat.beq i j then true else memN i l
def nodN : List Nat → Bool
  | [] => true
  | j :: l => !memN j l && nodN l
def idxN (i : Nat) : List Nat → Option Nat
  | [] => none
  | j :: l => if Nat.beq i j then some 0 else (match idxN i l with
    | some k => some (k + 1)
    | none => none)
def rchV (st : Store) : Nat → List Nat → Val → List Nat
  | 0, acc, _ => acc
  | n + 1, acc, v => match v with
    | .ob i => if memN i acc then acc else (match st[i]? with
      | some (.lsv vs) => vs.foldl (rchV st n) (acc ++ [i])
      | some (.dct kvs) => kvs.foldl (fun a kv => rchV st n a kv.2) (acc ++ [i])
      | some (.dcn kvs) => kvs.foldl (fun a kv => rchV st n a kv.2) (acc ++ [i])
      | some (.ins _ fs) => fs.foldl (fun a kv => rchV st n a kv.2) (acc ++ [i])
      | _ => acc ++ [i])
    | .tv vs => vs.foldl (rchV st n) acc
    | _ => acc
def rch (st : Store) (vs : List Val) : List Nat := vs.foldl (rchV st 100) []
/-- no cell, no script within -/
def pln : Val → Bool
  | .im _ => true
  | .scr _ => true
  | .fn _ => true
  | _ => false
def plns : List Val → Bool
  | [] => true
  | v :: vs => pln v && plns vs
/-- all cells below n -/
def below (n : Nat) (i : Nat) : Option Nat := if Nat.blt i n then some i else none
def pick (st : Store) : List Nat → Option Store
  | [] => some []
  | i :: l => (match st[i]? with
    | some c => (match pick st l with
      | some cs => some (c :: cs)
      | none => none)
    | none => none)
/-- the cells at l take new contents -/
def putAll (st : Store) : List Nat → Store → Store
  | i :: l, c :: cs => putAll (st.set i c) l cs
  | _, _ => st
def backN (ix : List Nat) (n : Nat) (k : Nat) : Option Nat := match ix[k]? with
  | some i => some i
  | none => some (n + (k - ix.length))
/-- the store behind a call: the reached cells written back; new ones only where they are wanted -/
def fin (n0 : Nat) (st1 : Store) (ix : List Nat) (plain : Bool) (st2 : Store) : Option (Store × Bool) :=
  match plain, renCs (below ix.length) (st2.take ix.length) with
  | true, some cs => (match renCs (backN ix st1.length) cs with
    | some ds => (let st3 := (putAll st1 ix ds).take n0
      match renCs (below n0) st3 with
      | some st4 => some (st4, true)
      | none => none)
    | none => none)
  | _, _ => (match renCs (backN ix st1.length) st2 with
    | some ds => some (putAll st1 ix (ds.take ix.length) ++ ds.drop ix.length, false)
    | none => none)
def callG (xf : List Val → Store → R Val) (n0 : Nat) (vs : List Val) (st1 : Store) : R Val :=
  let ix := rch st1 vs
  match renVs (fun i => idxN i ix) vs, pick st1 ix with
  | some as, some cs => (match renCs (fun i => idxN i ix) cs with
    | some cs => if nodN ix then (match xf as cs with
      | .ok v st2 => (match fin n0 st1 ix (pln v) st2 with
        | some (st3, true) => (match renV (below n0) v with
          | some u => .ok u st3
          | none => .bad)
        | some (st3, false) => (match renV (backN ix st1.length) v with
          | some u => .ok u st3
          | none => .bad)
        | none => .bad)
      | .ex e st2 => (match fin n0 st1 ix true st2 with
        | some (st3, _) => .ex e st3
        | none => .bad)
      | .bad => .bad) else .bad
    | none => .bad)
  | _, _ => .bad
def callR (xf : List Val → Store → R Val) (n0 : Nat) (vs : List Val) (st1 : Store) : R Val :=
  if plns vs && Nat.beq n0 st1.length then (match xf vs [] with
    | .ok v st2 => (match v with
      | .im d => .ok (.im d) st1
      | _ => callG xf n0 vs st1)
    | .ex e _ => .ex e st1
    | .bad => .bad)
  else callG xf n0 vs st1
def spX (g : G) (n : Nat) (xf : List Val → Store → R Val) : Sp := fun vs H Q E => ∃ μ As st, vs.length = n ∧ Wd g μ st H ∧ VOks g H μ As vs ∧ kR g (fun cls d _ H => E cls d H) [] μ H (VOk g) Q (xf As st)
section
variable {g : G} {H H' : Hp} {μ μ0 μ1 ν : List Addr} {st st1 : Store}
theorem memN_iff {i : Nat} : ∀ {l : List Nat}, memN i l = true ↔ i ∈ l
  | [] => by simp [memN]
  | j :: l => by
    unfold memN
    by_cases h : Nat.beq i j = true
    · rw [if_pos h]
      have := Nat.eq_of_beq_eq_true h
      simp [this]
    · rw [if_neg h, memN_iff]
      have : i ≠ j := fun e => h (by rw [e]; exact Nat.beq_refl j)
      simp [this]
theorem nodN_iff : ∀ {l : List Nat}, nodN l = true ↔ l.Nodup
  | [] => by simp [nodN]
  | j :: l => by
    rw [nodN, Bool.and_eq_true, nodN_iff, List.nodup_cons]
    have : (!memN j l) = true ↔ j ∉ l := by
      rw [← memN_iff]; simp
    rw [this]
theorem idxN_get {i k : Nat} : ∀ {l : List Nat}, idxN i l = some k → l[k]? = some i
  | [], h => by cases h
  | j :: l, h => by
    unfold idxN at h
    by_cases hb : Nat.beq i j = true
    · rw [if_pos hb] at h
      cases h
      have := Nat.eq_of_beq_eq_true hb
      simp [this]
    · rw [if_neg hb] at h
      split at h
      · rename_i k' hk
        cases h
        simpa using idxN_get hk
      · cases h
theorem pick_get : ∀ {l : List Nat} {cs : Store} {k : Nat} {i : Nat}, pick st l = some cs → l[k]? = some i → ∃ c, cs[k]? = some c ∧ st[i]? = some c
  | [], _, k, i, _, h => by simp at h
  | j :: l, cs, k, i, e, h => by
    simp only [pick] at e
    split at e
    · rename_i c hc
      split at e
      · rename_i ds hds
        cases e
        cases k with
        | zero => simp at h; subst h; exact ⟨c, rfl, hc⟩
        | succ k =>
          obtain ⟨c', z1, z2⟩ := pick_get (k := k) (i := i) hds (by simpa using h)
          exact ⟨c', by simpa using z1, z2⟩
      · cases e
    · cases e
theorem pick_len : ∀ {l : List Nat} {cs : Store}, pick st l = some cs → cs.length = l.length
  | [], _, e => by cases e; rfl
  | j :: l, cs, e => by
    simp only [pick] at e
    split at e
    · split at e
      · rename_i ds hds
        cases e
        simp [pick_len hds]
      · cases e
    · cases e
theorem putAll_len : ∀ {l : List Nat} {st cs : Store}, (putAll st l cs).length = st.length
  | [], st, cs => by simp [putAll]
  | i :: l, st, [] => by simp [putAll]
  | i :: l, st, c :: cs => by rw [putAll, putAll_len]; simp
theorem putAll_out {j : Nat} : ∀ {l : List Nat} {st cs : Store}, j ∉ l → (putAll st l cs)[j]? = st[j]?
  | [], st, cs, _ => by simp [putAll]
  | i :: l, st, [], _ => by simp [putAll]
  | i :: l, st, c :: cs, h => by
    rw [putAll, putAll_out (fun z => h (List.mem_cons_of_mem _ z))]
    exact List.getElem?_set_ne (fun e => h (by simp [e]))
theorem putAll_in {j k : Nat} {c : Cl} : ∀ {l : List Nat} {st cs : Store} {k : Nat}, l.Nodup → l[k]? = some j → cs[k]? = some c → j < st.length → (putAll st l cs)[j]? = some c
  | [], st, cs, k, _, h, _, _ => by simp at h
  | i :: l, st, [], k, _, _, h, _ => by simp at h
  | i :: l, st, d :: cs, 0, n, h1, h2, h3 => by
    simp at h1 h2
    subst h1; subst h2
    rw [putAll, putAll_out (List.nodup_cons.mp n).1]
    exact List.getElem?_set_self h3
  | i :: l, st, d :: cs, k + 1, n, h1, h2, h3 => by
    rw [putAll]
    exact putAll_in (j := j) (k := k) (c := c) (List.nodup_cons.mp n).2 (by simpa using h1) (by simpa using h2) (by simpa using h3)
/-- the addresses at ix -/
def addrs (μ : List Addr) (ix : List Nat) : List Addr := ix.filterMap fun i => μ[i]?
theorem addrs_get : ∀ {ix : List Nat} {k i : Nat}, (∀ i ∈ ix, i < μ.length) → ix[k]? = some i → (addrs μ ix)[k]? = μ[i]?
  | [], k, i, _, h => by simp at h
  | j :: ix, k, i, hl, h => by
    have hj : j < μ.length := hl j List.mem_cons_self
    have e : addrs μ (j :: ix) = μ[j] :: addrs μ ix := by simp [addrs, hj]
    rw [e]
    cases k with
    | zero => simp at h; subst h; simp [hj]
    | succ k => simpa using addrs_get (k := k) (i := i) (fun i hi => hl i (List.mem_cons_of_mem _ hi)) (by simpa using h)
theorem addrs_len : ∀ {ix : List Nat}, (∀ i ∈ ix, i < μ.length) → (addrs μ ix).length = ix.length
  | [], _ => rfl
  | j :: ix, hl => by
    have hj : j < μ.length := hl j List.mem_cons_self
    have e : addrs μ (j :: ix) = μ[j] :: addrs μ ix := by simp [addrs, hj]
    rw [e, List.length_cons, List.length_cons, addrs_len fun i hi => hl i (List.mem_cons_of_mem _ hi)]
theorem addrs_mem {ix : List Nat} {a : Addr} (h : a ∈ addrs μ ix) : ∃ i ∈ ix, μ[i]? = some a := by
  obtain ⟨i, h1, h2⟩ := List.mem_filterMap.mp h
  exact ⟨i, h1, h2⟩
theorem addrs_nodup (nd : μ.Nodup) : ∀ {ix : List Nat}, ix.Nodup → (∀ i ∈ ix, i < μ.length) → (addrs μ ix).Nodup
  | [], _, _ => List.nodup_nil
  | j :: ix, n, hl => by
    have hj : j < μ.length := hl j List.mem_cons_self
    have e : addrs μ (j :: ix) = μ[j] :: addrs μ ix := by simp [addrs, hj]
    rw [e, List.nodup_cons]
    refine ⟨fun h => ?_, addrs_nodup nd (List.nodup_cons.mp n).2 fun i hi => hl i (List.mem_cons_of_mem _ hi)⟩
    obtain ⟨i, h1, h2⟩ := addrs_mem h
    have := nodup_at nd h2 (List.getElem?_eq_getElem hj)
    exact (List.nodup_cons.mp n).1 (this ▸ h1)
theorem maps_below {n : Nat} : Maps (below n) μ (μ.take n) := fun i j a h e => by
  unfold below at h
  split at h
  · rename_i hb
    cases h
    have : i + 1 ≤ n := by simpa [Nat.blt] using hb
    have : i < n := this
    rw [List.getElem?_take, if_pos this]
    exact e
  · cases h
/-- from the caller's cells to the callee's -/
theorem enterX {ix : List Nat} {cs cs' : Store} (w : Wd g μ1 st1 H) (nd : nodN ix = true) (hp : pick st1 ix = some cs) (hr : renCs (fun i => idxN i ix) cs = some cs') :
    (∀ i ∈ ix, i < μ1.length) ∧ Maps (fun i => idxN i ix) μ1 (addrs μ1 ix) ∧ (∀ a ∈ addrs μ1 ix, a ∈ μ1) ∧ Wd g (addrs μ1 ix) cs' H := by
  have hl : ∀ i ∈ ix, i < μ1.length := fun i hi => by
    obtain ⟨k, hk, e⟩ := List.getElem_of_mem hi
    obtain ⟨c, _, h2⟩ := pick_get (k := k) (i := i) hp (by rw [List.getElem?_eq_getElem hk, e])
    rw [w.len]
    exact (List.getElem?_eq_some_iff.mp h2).1
  have mp : Maps (fun i => idxN i ix) μ1 (addrs μ1 ix) := fun i j a h e => by
    rw [addrs_get hl (idxN_get h)]; exact e
  refine ⟨hl, mp, fun a ha => ?_, ⟨by rw [addrs_len hl, renCs_len hr, pick_len hp], addrs_nodup w.nd (nodN_iff.mp nd) hl, fun k a c h1 h2 => ?_, w.sc.imp (fun z => ⟨fun y => z.1 (by obtain ⟨i, _, h2⟩ := addrs_mem y; exact List.mem_of_getElem? h2), z.2⟩) id⟩⟩
  · obtain ⟨i, _, h2⟩ := addrs_mem ha
    exact List.mem_of_getElem? h2
  · have hk : k < ix.length := by have := (List.getElem?_eq_some_iff.mp h1).1; rwa [addrs_len hl] at this
    have hx := List.getElem?_eq_getElem hk
    rw [addrs_get hl hx] at h1
    obtain ⟨c0, z1, z2⟩ := renCs_get hr h2
    obtain ⟨c1, y1, y2⟩ := pick_get hp hx
    rw [z1] at y1
    cases y1
    exact renC_ok mp z2 (w.ok _ a c0 h1 y2)
theorem backN_maps {ix : List Nat} (hl : ∀ i ∈ ix, i < μ1.length) : Maps (backN ix μ1.length) (addrs μ1 ix ++ ν) (μ1 ++ ν) := fun k j a h e => by
  unfold backN at h
  split at h
  · rename_i i hi
    cases h
    have hk := (List.getElem?_eq_some_iff.mp hi).1
    rw [List.getElem?_append_left (by rw [addrs_len hl]; exact hk), addrs_get hl hi] at e
    rw [List.getElem?_append_left (List.getElem?_eq_some_iff.mp e).1]
    exact e
  · rename_i hi
    cases h
    have hk := List.getElem?_eq_none_iff.mp hi
    rw [List.getElem?_append_right (by rw [addrs_len hl]; exact hk), addrs_len hl] at e
    rw [List.getElem?_append_right (by omega), show μ1.length + (k - ix.length) - μ1.length = k - ix.length by omega]
    exact e
/-- back to the caller's cells -/
theorem leaveX {ix : List Nat} {st2 ds : Store} (w : Wd g μ1 st1 H) (nd : nodN ix = true) (hl : ∀ i ∈ ix, i < μ1.length) (k : Keep (addrs μ1 ix) H (addrs μ1 ix ++ ν) H') (w2 : Wd g (addrs μ1 ix ++ ν) st2 H') (hr : renCs (backN ix μ1.length) st2 = some ds) :
    Keep μ1 H (μ1 ++ ν) H' ∧ Wd g (μ1 ++ ν) (putAll st1 ix (ds.take ix.length) ++ ds.drop ix.length) H' := by
  obtain ⟨ν', e', f'⟩ := k.ext
  have eν : ν = ν' := List.append_cancel_left e'
  subst eν
  have sub : ∀ a ∈ addrs μ1 ix, a ∈ μ1 := fun a ha => by obtain ⟨i, _, h2⟩ := addrs_mem ha; exact List.mem_of_getElem? h2
  have k' : Keep μ1 H (μ1 ++ ν) H' := ⟨fun b o h hb => k.fr b o h fun z => hb (sub b z), k.dom, k.tups, ν, rfl, f'⟩
  have ln := w2.len
  rw [List.length_append, addrs_len hl] at ln
  have ld := renCs_len hr
  refine ⟨k', ⟨by simp [putAll_len, w.len]; omega, ?_, fun j a c h1 h2 => ?_, k'.scr w.sc⟩⟩
  · rw [List.nodup_append]
    have n2 := w2.nd
    rw [List.nodup_append] at n2
    exact ⟨w.nd, n2.2.1, fun a ha b hb e => by subst e; exact (w.cell ha).1 (f' a hb)⟩
  · by_cases hj : j < μ1.length
    · rw [List.getElem?_append_left hj] at h1
      rw [List.getElem?_append_left (by rw [putAll_len, ← w.len]; exact hj)] at h2
      by_cases hm : j ∈ ix
      · obtain ⟨q, hq, e⟩ := List.getElem_of_mem hm
        have hx : ix[q]? = some j := by rw [List.getElem?_eq_getElem hq, e]
        have hq2 : q < ds.length := by omega
        rw [putAll_in (j := j) (k := q) (c := ds[q]) (nodN_iff.mp nd) hx (by rw [List.getElem?_take, if_pos hq, List.getElem?_eq_getElem hq2]) (by rw [← w.len]; exact hj)] at h2
        cases h2
        obtain ⟨c0, z1, z2⟩ := renCs_get hr (List.getElem?_eq_getElem hq2)
        refine renC_ok (backN_maps hl) z2 (w2.ok q a c0 ?_ z1)
        rw [List.getElem?_append_left (by rw [addrs_len hl]; exact hq), addrs_get hl hx]
        exact h1
      · rw [putAll_out hm] at h2
        have hc := w.ok j a c h1 h2
        refine hc.keepC k' ?_
        have na : a ∉ addrs μ1 ix := fun z => by
          obtain ⟨i, y1, y2⟩ := addrs_mem z
          exact hm (nodup_at w.nd y2 h1 ▸ y1)
        cases q : H a with
        | none => exact absurd q hc.nt.1
        | some o => exact k.fr a o q na
    · rw [List.getElem?_append_right (by omega)] at h1
      rw [List.getElem?_append_right (by rw [putAll_len, ← w.len]; omega), putAll_len, ← w.len, List.getElem?_drop] at h2
      obtain ⟨c0, z1, z2⟩ := renCs_get hr h2
      refine renC_ok (backN_maps hl) z2 (w2.ok _ a c0 ?_ z1)
      rw [List.getElem?_append_right (by rw [addrs_len hl]; omega), addrs_len hl]
      rw [show ix.length + (j - μ1.length) - ix.length = j - μ1.length by omega]
      exact h1
/-- new cells dropped -/
theorem Wd.take {n : Nat} {st4 : Store} (w : Wd g μ st H) (h : renCs (below n) (st.take n) = some st4) : Wd g (μ.take n) st4 H := by
  refine ⟨by rw [renCs_len h, List.length_take, List.length_take, w.len], w.nd.sublist (List.take_sublist _ _), fun j a c h1 h2 => ?_, w.sc.imp (fun z => ⟨fun y => z.1 (List.mem_of_mem_take y), z.2⟩) id⟩
  obtain ⟨c0, z1, z2⟩ := renCs_get h h2
  have hj : j < n := by
    have := (List.getElem?_eq_some_iff.mp h1).1
    rw [List.length_take] at this; omega
  rw [List.getElem?_take, if_pos hj] at h1 z1
  exact renC_ok maps_below z2 (w.ok j a c0 h1 z1)
theorem Keep.forget (k : Keep μ H (μ ++ ν) H') : Keep μ H μ H' := ⟨k.fr, k.dom, k.tups, [], by simp, fun b h => by cases h⟩
/-- from what the arguments' heap keeps to what the caller's does -/
theorem Keep.take {H0 : Hp} (k0 : Keep μ0 H0 μ1 H) (k : Keep μ1 H (μ1 ++ ν) H') : Keep μ0 H0 μ0 H' := by
  obtain ⟨ν', e, f⟩ := (k0.trans k).ext
  have k2 := k0.trans k
  exact ⟨k2.fr, k2.dom, k2.tups, [], by simp, fun b h => by cases h⟩
theorem pln_ok {v u : Val} {x : V} {r : Nat → Option Nat} (hp : pln v = true) (e : renV r v = some u) (h : VOk g H μ v x) : VOk g H μ1 u x := by
  cases v with
  | im d => cases e; exact h
  | fn k => cases e; exact h
  | scr ns => cases e; exact h
  | _ => cases hp
theorem plns_ok : ∀ {vs : List Val} {us : List V}, plns vs = true → VOks g H μ vs us → VOks g H [] vs us
  | [], _, _, h => h
  | v :: vs, us, hp, h => by
    rw [plns, Bool.and_eq_true] at hp
    obtain ⟨x, xs, h1, h2, h3⟩ := h
    refine ⟨x, xs, h1, ?_, plns_ok hp.2 h3⟩
    cases v with
    | im d => exact h2
    | fn k => exact h2
    | scr ns => exact h2
    | ob i => simp [pln] at hp
    | tv vs => simp [pln] at hp
/-- the store behind a call is right -/
theorem fin_ok {H0 : Hp} {ix : List Nat} {st2 st3 : Store} {pl b : Bool} (k0 : Keep μ0 H0 μ1 H) (w : Wd g μ1 st1 H) (nd : nodN ix = true) (hl : ∀ i ∈ ix, i < μ1.length) (k : Keep (addrs μ1 ix) H (addrs μ1 ix ++ ν) H') (w2 : Wd g (addrs μ1 ix ++ ν) st2 H')
    (h : fin μ0.length st1 ix pl st2 = some (st3, b)) : (b = true → pl = true ∧ Keep μ0 H0 μ0 H' ∧ Wd g μ0 st3 H') ∧ (b = false → Keep μ0 H0 (μ1 ++ ν) H' ∧ Wd g (μ1 ++ ν) st3 H' ∧ ∀ u u' x, renV (backN ix st1.length) u = some u' → VOk g H' (addrs μ1 ix ++ ν) u x → VOk g H' (μ1 ++ ν) u' x) := by
  have el := w.len
  unfold fin at h
  split at h
  · rename_i cs hc
    split at h
    · rename_i ds hd
      simp only at h
      split at h
      · rename_i st4 h4
        cases h
        refine ⟨fun _ => ⟨rfl, ?_⟩, fun z => by cases z⟩
        have wt : Wd g (addrs μ1 ix) cs H' := by
          have := w2.take hc
          rw [List.take_append_of_le_length (by rw [addrs_len hl]; exact Nat.le_refl _), ← addrs_len hl, List.take_length] at this
          exact this
        rw [← el] at hd
        obtain ⟨k3, w3⟩ := leaveX (ν := []) w nd hl (by rw [List.append_nil]; exact k.forget) (by rw [List.append_nil]; exact wt) hd
        have ld : ds.length = ix.length := by rw [renCs_len hd]; rw [← wt.len, addrs_len hl]
        rw [← ld, List.take_length, List.drop_length, List.append_nil, List.append_nil] at w3
        rw [List.append_nil] at k3
        refine ⟨k0.take (ν := []) (by rw [List.append_nil]; exact k3), ?_⟩
        have z := w3.take h4
        obtain ⟨ν', e, _⟩ := k0.ext
        rw [e, List.take_left'] at z
        · exact z
        · rfl
      · cases h
    · cases h
  · split at h
    · rename_i ds hd
      cases h
      refine ⟨fun z => (by cases z), fun _ => ?_⟩
      rw [← el] at hd
      obtain ⟨k3, w3⟩ := leaveX w nd hl k w2 hd
      refine ⟨k0.trans k3, w3, fun u u' x e h => ?_⟩
      rw [← el] at e
      exact renV_ok (backN_maps hl) e h
    · cases h
variable {Wx : WX} {σ : Sg} {Q : VK} {xf : List Val → Store → R Val}
theorem callG_ok {H0 : Hp} {vs : List Val} {us : List V} {n : Nat} (k0 : Keep μ0 H0 μ1 H) (w : Wd g μ1 st1 H) (hv : VOks g H μ1 vs us) (hn : vs.length = n) (h : kR g Wx σ μ0 H0 (VOk g) Q (callG xf μ0.length vs st1)) : spX g n xf us H Q (fun cls d H' => Wx cls d σ H') := by
  unfold callG at h
  simp only at h
  split at h
  · rename_i as cs ha hp
    split at h
    · rename_i cs' hc
      split at h
      · rename_i nd
        obtain ⟨hl, mp, sub, wc⟩ := enterX w nd hp hc
        refine ⟨addrs μ1 (rch st1 vs), as, cs', by rw [hv.length]; exact hn, wc, renVs_ok mp ha hv, ?_⟩
        cases q : xf as cs' with
        | bad => rw [q] at h; exact h
        | ex e st2 =>
          rw [q] at h
          simp only at h
          intro cls d μ' H' k w2 ex
          obtain ⟨ν, eν, fν⟩ := k.ext
          subst eν
          split at h
          · rename_i st3 b hf
            have z := fin_ok k0 w nd hl k w2 hf
            cases b with
            | true => obtain ⟨_, z2, z3⟩ := z.1 rfl; exact h cls d _ H' z2 z3 ex
            | false => obtain ⟨z2, z3, _⟩ := z.2 rfl; exact h cls d _ H' z2 z3 ex
          · exact h.elim
        | ok v st2 =>
          rw [q] at h
          simp only at h
          intro u μ' H' k w2 hu
          obtain ⟨ν, eν, fν⟩ := k.ext
          subst eν
          split at h
          · rename_i st3 hf
            have z := fin_ok k0 w nd hl k w2 hf
            obtain ⟨z1, z2, z3⟩ := z.1 rfl
            split at h
            · rename_i u' hu'
              exact h u _ H' z2 z3 (pln_ok z1 hu' hu)
            · exact h.elim
          · rename_i st3 hf
            have z := fin_ok k0 w nd hl k w2 hf
            obtain ⟨z1, z2, z3⟩ := z.2 rfl
            split at h
            · rename_i u' hu'
              exact h u _ H' z1 z2 (z3 _ _ _ hu' hu)
            · exact h.elim
          · exact h.elim
      · exact h.elim
    · exact h.elim
  · exact h.elim
theorem call_ok {H0 : Hp} {vs : List Val} {us : List V} {n : Nat} (k0 : Keep μ0 H0 μ1 H) (w : Wd g μ1 st1 H) (hv : VOks g H μ1 vs us) (hn : vs.length = n) (h : kR g Wx σ μ0 H0 (VOk g) Q (callR xf μ0.length vs st1)) : spX g n xf us H Q (fun cls d H' => Wx cls d σ H') := by
  unfold callR at h
  split at h
  · rename_i hp
    rw [Bool.and_eq_true] at hp
    have el : μ0.length = st1.length := Nat.eq_of_beq_eq_true hp.2
    have e0 : μ1 = μ0 := by
      obtain ⟨ν, e, _⟩ := k0.ext
      have := w.len
      rw [e, List.length_append] at this
      have : ν = [] := List.eq_nil_of_length_eq_zero (by omega)
      rw [e, this, List.append_nil]
    subst e0
    have go : ∀ {H' : Hp} {μ' : List Addr}, Keep [] H μ' H' → Keep μ1 H0 μ1 H' ∧ Wd g μ1 st1 H' := fun {H' μ'} k => by
      have sm : Same H H' := fun b o e => k.fr b o e (by simp)
      exact ⟨k0.trans (Keep.same sm), w.same sm⟩
    split at h
    · rename_i v st2 q
      split at h
      · rename_i d
        refine ⟨[], vs, [], by rw [hv.length]; exact hn, ⟨rfl, List.nodup_nil, fun i a c e => (by simp at e), w.sc.imp (fun z => ⟨by simp, z.2⟩) id⟩, plns_ok hp.1 hv, ?_⟩
        rw [q]
        intro u μ' H' k w2 hu
        obtain ⟨z1, z2⟩ := go k
        exact h u _ H' z1 z2 hu
      · exact callG_ok k0 w hv hn h
    · rename_i e st2 q
      refine ⟨[], vs, [], by rw [hv.length]; exact hn, ⟨rfl, List.nodup_nil, fun i a c e => (by simp at e), w.sc.imp (fun z => ⟨by simp, z.2⟩) id⟩, plns_ok hp.1 hv, ?_⟩
      rw [q]
      intro cls d μ' H' k w2 ex
      obtain ⟨z1, z2⟩ := go k
      exact h cls d _ H' z1 z2 ex
    · exact h.elim
  · exact callG_ok k0 w hv hn h
def xCall (xf : List Val → Store → R Val) (n : Nat) (a : XA) : XE := fun ρ st => (a ρ st).bind fun vs st1 => if Nat.beq vs.length n then callR xf st.length vs st1 else .bad
theorem kR.bind0 {α β γ δ : Type} {rel : Hp → List Addr → α → β → Prop} {rel' : Hp → List Addr → γ → δ → Prop} {Q : δ → Hp → Prop} {r : R α} {f : α → Store → R γ} (h : kR g Wx σ μ H rel' Q (r.bind f)) :
    kR g Wx σ μ H rel (fun u H1 => ∃ v st1 μ1, r = .ok v st1 ∧ Keep μ H μ1 H1 ∧ Wd g μ1 st1 H1 ∧ rel H1 μ1 v u ∧ kR g Wx σ μ H rel' Q (f v st1)) r := by
  cases r with
  | ok v st' => exact fun u μ' H' k w z => ⟨v, st', μ', rfl, k, w, z, h⟩
  | ex e st' => exact h
  | bad => exact h
theorem ex_call {ta : TA} {a : XA} {n : Nat} {Er : Sg → XK} (hE : ∀ σ cls d H, Wx cls d σ H → Er σ cls d H) (ha : AX g Wx ta a) : EX g Wx (fun σ H Q => ta σ H fun vs H1 => spX g n xf vs H1 Q (Er σ)) (xCall xf n a) := fun μ σ ρ st H Q w s k => by
  refine ha μ σ ρ st H _ w s ((kR.bind0 k).mono fun v st1 u μ1 H1 _ k1 w1 r1 z => ?_)
  obtain ⟨v', st1', μ1', e, k1', w1', r1', k2⟩ := z
  split at k2
  · rename_i hn
    have hn := Nat.eq_of_beq_eq_true hn
    rw [← w.len] at k2
    obtain ⟨μ2, As, st2, z1, z2, z3, z4⟩ := call_ok k1' w1' r1' hn k2
    refine ⟨μ2, As, st2, z1, z2, z3, ?_⟩
    cases q : xf As st2 with
    | ok v st' => rw [q] at z4; exact z4
    | bad => rw [q] at z4; exact z4
    | ex e st' => rw [q] at z4; exact fun cls d μ' H' a b c => hE σ cls d H' (z4 cls d μ' H' a b c)
  · exact k2.elim
end
/-! ### defs -/
/-- a def's body: the arguments, then free slots -/
def xDef (m : Nat) (b : XS) : List Val → Store → R Val := fun As st => match b (As.map some ++ List.replicate m none) st with
  | .rt v st => .ok v st
  | .nx _ st => .ok (.im .non) st
  | .er e _ st => .ex e st
  | _ => .bad
structure FX (T : Tb) (P : Program) (w : World) (K : PySem.W.Frag) (mg : Str → Option Value) (base : Heap) (k : Nat) (x : Str) (n : Nat) (xf : List Val → Store → R Val) : Prop where
  ex : ∃ (f : Addr) (fd : FuncData) (ps : List Str), mg x = some (.ref f) ∧ PySem.W.keepIn K (.ref f) = true ∧ Binds K fd ps [] ∧ ps.length = n ∧ FnOk P w K mg base (L2.CX P w) k f fd ps (spX ⟨K, mg, w, T⟩ n xf)
section
variable {T : Tb} {P : Program} {w : World} {K : PySem.W.Frag} {mg : Str → Option Value} {base : Heap}
theorem FX.mono {x : Str} {j k n : Nat} {xf : List Val → Store → R Val} (F : FX T P w K mg base j x n xf) (h : j ≤ k) : FX T P w K mg base k x n xf := by
  obtain ⟨f, fd, ps, a, b, c, d, e⟩ := F.ex
  exact ⟨f, fd, ps, a, b, c, d, e.mono h⟩
theorem start_eq {N : List Str} {vs : List V} {n : Nat} (h : vs.length = n) : L2.start N vs = vs.map some ++ List.replicate (N.length - n) none := by
  subst h
  rfl
theorem SOk.start {g : G} {H : Hp} {μ : List Addr} {vs : List V} {As : List Val} (h : VOks g H μ As vs) (m : Nat) : SOk g H μ (vs.map some ++ List.replicate m none) (As.map some ++ List.replicate m none) := by
  have hl := h.length
  refine ⟨by simp [hl], fun i v e => ?_⟩
  by_cases hi : i < As.length
  · rw [List.getElem?_append_left (by simpa using hi), List.getElem?_map] at e
    cases q : As[i]? with
    | none => rw [q] at e; cases e
    | some u =>
      rw [q] at e
      cases e
      obtain ⟨x, e1, e2⟩ := h.get q
      refine ⟨x, ?_, e2⟩
      rw [List.getElem?_append_left (by simpa [hl] using hi), List.getElem?_map, e1]
      rfl
  · rw [List.getElem?_append_right (by simp; omega), List.getElem?_replicate] at e
    split at e <;> cases e
end
section
variable {T : Tb} {X : Cx} {Wx : WX} {pos p' : Pos} {ta : TA} {a : XA} {n k j : Nat} {x : Str} {e : Expr} {es : List Expr} {xf : List Val → Store → R Val} {P : Program} {w : World} {K : PySem.W.Frag} {mg : Str → Option Value} {base : Heap}
theorem sx_call (F : FX T P w K mg base k x n xf) (tk : Takes X Wx) (hr : Room j X.A) (hk : k ≤ j) (ha : SA T X Wx (e :: es) ta a) (hX : Same5 X P w K mg base := by exact ⟨rfl, rfl, rfl, rfl, rfl⟩) (hg : Gl X x := by rfl) (hd : (x == ("__debug__" : Str)) = false := by decide)
    (hs : starEach (e :: es) X.env = (false, eval e X.env) :: starEach es X.env := by rfl) (hpl : (backTo pos (starEach es X.env)).any (·.1) = false := by rfl) : SE T X Wx (.Call (.Name x p') (e :: es) [] pos) (fun σ H Q => ta σ H fun vs H1 => spX ⟨K, mg, w, T⟩ n xf vs H1 Q (L2.WE Wx σ)) (xCall xf n a) := by
  obtain ⟨rfl, rfl, rfl, rfl, rfl⟩ := hX
  obtain ⟨f, fd, ps, hm, hkp, hb, hn, G⟩ := F.ex
  exact ⟨pe_callS (pos := pos) (p := p') G (hr.mono hk) hg hm hkp hb (fun σ => passAt tk σ) ha.pe hd hs hpl, ex_call (Er := L2.WE Wx) (fun _ _ _ _ z => z) ha.ex⟩
end
end SX
/-! SX: operators, displays, indexes, slices. -/
namespace SX
open PySem PySem.Spec PyProof.Rows L2 PL
open PL (Dt Imm Imms SqN Tups)
/-! ### small deciders, as the kernel likes them -/
def szOk (n : Nat) : Bool := Nat.ble n 16777216
theorem szOk_le {n : Nat} (h : szOk n = true) : n ≤ sizeLine := by
  rw [sizeLine_eq]
  exact Nat.le_of_ble_eq_true h
def intEq : Int → Int → Bool
  | .ofNat a, .ofNat b => Nat.beq a b
  | .negSucc a, .negSucc b => Nat.beq a b
  | _, _ => false
theorem intEq_eq (a b : Int) : intEq a b = decide (a = b) := by
  cases a <;> cases b <;> simp [intEq] <;> rw [Bool.eq_iff_iff, Nat.beq_eq] <;> simp <;> omega
def intLt : Int → Int → Bool
  | .ofNat a, .ofNat b => Nat.blt a b
  | .negSucc _, .ofNat _ => true
  | .negSucc a, .negSucc b => Nat.blt b a
  | _, _ => false
theorem intLt_eq (a b : Int) : intLt a b = decide (a < b) := by
  cases a <;> cases b <;> simp [intLt] <;> first | omega | (rename_i a b; rw [Bool.eq_iff_iff]; simp [Nat.blt]; omega)
def natsEq : List Nat → List Nat → Bool
  | [], [] => true
  | a :: as, b :: bs => if Nat.beq a b then natsEq as bs else false
  | _, _ => false
theorem natsEq_eq : ∀ a b : List Nat, natsEq a b = decide (a = b)
  | [], [] => by simp [natsEq]
  | [], _ :: _ => by simp [natsEq]
  | _ :: _, [] => by simp [natsEq]
  | a :: as, b :: bs => by
    rw [natsEq, natsEq_eq as bs]
    by_cases h : a = b
    · subst h; simp
    · rw [if_neg (by rw [Nat.beq_eq]; exact h)]; simp [h]
def strEq (a b : Str) : Bool := natsEq a.cps.toList b.cps.toList
theorem strEq_eq (a b : Str) : strEq a b = decide (a = b) := by
  rw [strEq, natsEq_eq]
  obtain ⟨⟨a⟩⟩ := a
  obtain ⟨⟨b⟩⟩ := b
  simp
def natsLt : List Nat → List Nat → Bool
  | _, [] => false
  | [], _ :: _ => true
  | a :: as, b :: bs => if Nat.blt a b then true else if Nat.beq a b then natsLt as bs else false
theorem natsLt_eq : ∀ a b : List Nat, natsLt a b = decide (a < b)
  | [], [] => by simp [natsLt]
  | _ :: _, [] => by simp [natsLt]
  | [], _ :: _ => by simp [natsLt]
  | a :: as, b :: bs => by
    rw [natsLt, natsLt_eq as bs]
    have e : (a :: as < b :: bs) ↔ (a < b ∨ a = b ∧ as < bs) := List.cons_lt_cons_iff
    by_cases h : a < b
    · rw [if_pos (by simp [Nat.blt]; omega)]; simp [e, h]
    · rw [if_neg (by simp [Nat.blt]; omega)]
      by_cases h2 : a = b
      · subst h2; simp
      · rw [if_neg (by rw [Nat.beq_eq]; exact h2)]; simp [e, h, h2]
def strCat (a b : Str) : Str := ⟨⟨a.cps.toList ++ b.cps.toList⟩⟩
theorem strCat_eq (a b : Str) : strCat a b = a ++ b := by
  obtain ⟨⟨a⟩⟩ := a
  obtain ⟨⟨b⟩⟩ := b
  show (⟨⟨a ++ b⟩⟩ : Str) = ⟨_ ++ _⟩
  congr 1
  simp
def strLen (a : Str) : Nat := a.cps.toList.length
def allIm : List Val → Option (List Dt)
  | [] => some []
  | .im d :: vs => (match allIm vs with
    | some ds => some (d :: ds)
    | none => none)
  | _ => none
def mkTup (vs : List Val) : Val := match allIm vs with
  | some ds => .im (.tup ds)
  | none => .tv vs
def mkLst (vs : List Val) : Cl := match allIm vs with
  | some ds => .lst ds
  | none => .lsv vs
def lsV (st : Store) : Val → Option (List Val)
  | .ob i => (match st[i]? with
    | some (.lst ds) => some (ds.map .im)
    | some (.lsv vs) => some vs
    | _ => none)
  | _ => none
theorem allIm_eq : ∀ {vs : List Val} {ds : List Dt}, allIm vs = some ds → vs = ds.map .im
  | [], ds, h => by cases h; rfl
  | .im d :: vs, ds, h => by
    simp only [allIm] at h
    split at h
    · rename_i es he
      cases h
      rw [allIm_eq he]
      rfl
    · cases h
  | .ob i :: vs, ds, h => by cases h
  | .tv i :: vs, ds, h => by cases h
  | .scr i :: vs, ds, h => by cases h
  | .fn i :: vs, ds, h => by cases h
theorem allIm_map : ∀ (ds : List Dt), allIm (ds.map .im) = some ds
  | [] => rfl
  | d :: ds => by simp [allIm, allIm_map ds]
section
variable {g : G} {Wx : WX} {σ : Sg} {μ : List Addr} {st : Store} {H : Hp} {Q : VK}
theorem VOk.tup {vs : List Val} {a : Addr} {ws : List V} (h1 : SqN g.K H a ws) (h2 : VOks g H μ vs ws) : VOk g H μ (mkTup vs) (.ref a) := by
  unfold mkTup
  split
  · rename_i ds e
    rw [allIm_eq e] at h2
    exact ⟨a, ws, rfl, h1, VOks.im.mp h2⟩
  · exact ⟨a, ws, rfl, h1, h2⟩
theorem COk.lst {vs : List Val} {a : Addr} {ws : List V} (h1 : H a = some (.lst ws)) (h2 : VOks g H μ vs ws) : COk g H μ (mkLst vs) a := by
  unfold mkLst
  split
  · rename_i ds e
    rw [allIm_eq e] at h2
    exact ⟨ws, h1, VOks.im.mp h2⟩
  · exact ⟨ws, h1, h2⟩
theorem lsV_ok {v : Val} {u : V} {vs : List Val} (w : Wd g μ st H) (h : VOk g H μ v u) (e : lsV st v = some vs) : ∃ a ws, u = .ref a ∧ H a = some (.lst ws) ∧ VOks g H μ vs ws := by
  cases v with
  | ob i =>
    obtain ⟨a, ha, rfl⟩ := h
    simp only [lsV] at e
    split at e
    · rename_i ds hs
      cases e
      obtain ⟨ws, h1, h2⟩ := w.ok i a _ ha hs
      exact ⟨a, ws, rfl, h1, VOks.im.mpr h2⟩
    · rename_i ds hs
      cases e
      obtain ⟨ws, h1, h2⟩ := w.ok i a _ ha hs
      exact ⟨a, ws, rfl, h1, h2⟩
    · cases e
  | _ => cases e
/-- a new tuple -/
theorem k_tup {vs : List Val} {ws : List V} (w : Wd g μ st H) (h : VOks g H μ vs ws) (k : kR g Wx σ μ H (VOk g) Q (.ok (mkTup vs) st)) : NT H ws Q := fun p o ho hp =>
  k _ μ _ (Keep.fresh hp) (w.fresh hp) (VOk.tup (.inl ⟨o, ho, upd_same⟩) (h.keep (Keep.fresh hp)))
/-- a new list -/
theorem k_lst {vs : List Val} {ws : List V} (w : Wd g μ st H) (h : VOks g H μ vs ws) (k : kR g Wx σ μ H (VOk g) Q (.ok (.ob st.length) (st ++ [mkLst vs]))) : ∀ p, H p = none → Q (.ref p) (upd H p (.lst ws)) := fun p hp => by
  obtain ⟨k1, w1, v1⟩ := w.alloc (o := .lst ws) (c := mkLst vs) hp fun kk => COk.lst upd_same (h.keep kk)
  exact k _ _ _ k1 w1 v1
theorem k_im {d : Dt} {v : V} (w : Wd g μ st H) (k : kR g Wx σ μ H (VOk g) Q (.ok (.im d) st)) (h : Imm g.K H d v) : Q v H := k _ μ _ Keep.refl w h
theorem k_val {d : Val} {v : V} (w : Wd g μ st H) (h : VOk g H μ d v) (k : kR g Wx σ μ H (VOk g) Q (.ok d st)) : Q v H := k _ μ _ Keep.refl w h
end
/-! ### + - * // % ** -/
def imR (o : Option Dt) (st : Store) : R Val := match o with
  | some d => .ok (.im d) st
  | none => .bad
def ifR (b : Bool) (r : R Val) : R Val := match b with
  | true => r
  | false => .bad
def oAdd : Val → Val → Store → R Val
  | .im (.int i), .im (.int j), st => .ok (.im (.int (i + j))) st
  | .im (.str i), .im (.str j), st => ifR (szOk (strLen i + strLen j)) (.ok (.im (.str (strCat i j))) st)
  | .im (.tup a), .im (.tup b), st => ifR (szOk (a.length + b.length)) (.ok (.im (.tup (a ++ b))) st)
  | u, v, st => match tupV u, tupV v with
    | some a, some b => ifR (szOk (a.length + b.length)) (.ok (mkTup (a ++ b)) st)
    | _, _ => match lsV st u, lsV st v with
      | some a, some b => ifR (szOk (a.length + b.length)) (.ok (.ob st.length) (st ++ [mkLst (a ++ b)]))
      | _, _ => .bad
def oSub : Val → Val → Store → R Val
  | .im (.int i), .im (.int j), st => .ok (.im (.int (i - j))) st
  | _, _, _ => .bad
def mulOkB (i j : Int) : Bool := Nat.blt (i.natAbs.log2 + j.natAbs.log2) 1000000
def oMul : Val → Val → Store → R Val
  | .im (.int i), .im (.int j), st => ifR (mulOkB i j) (.ok (.im (.int (i * j))) st)
  | .im (.str x), .im (.int n), st => ifR (intLt n 1048576 && intLt (-1048576) n && szOk (strLen x * n.toNat)) (.ok (.im (.str (Txt.mul x n))) st)
  | u, .im (.int k), st => match tupV u with
    | some vs => ifR (!vs.isEmpty && !intLt k 0 && !intLt 1000 k && Nat.ble vs.length 1000) (.ok (mkTup (List.replicate k.toNat vs).flatten) st)
    | none => match lsV st u with
      | some vs => ifR (!intLt 1048576 k && intLt (-1048576) k && szOk (vs.length * k.toNat)) (.ok (.ob st.length) (st ++ [mkLst (List.replicate k.toNat vs).flatten]))
      | none => .bad
  | _, _, _ => .bad
def oDiv : Val → Val → Store → R Val
  | .im (.int i), .im (.int j), st => ifR (intLt 0 j && Nat.blt j.natAbs.log2 9000) (.ok (.im (.int (i / j))) st)
  | _, _, _ => .bad
def oMod : Val → Val → Store → R Val
  | .im (.int i), .im (.int j), st => ifR (intLt 0 j) (.ok (.im (.int (i % j))) st)
  | _, _, _ => .bad
def oPow : Val → Val → Store → R Val
  | .im (.int i), .im (.int j), st => ifR (!intLt j 0 && !intLt 1000000 j && Nat.blt i.natAbs 18446744073709551616) (.ok (.im (.int (i ^ j.toNat))) st)
  | _, _, _ => .bad
section
variable {g : G} {Wx : WX} {σ : Sg} {μ : List Addr} {st : Store} {H : Hp} {Q : VK}
theorem ifR_of {b : Bool} {r : R Val} (k : kR g Wx σ μ H (VOk g) Q (ifR b r)) : b = true ∧ kR g Wx σ μ H (VOk g) Q r := by
  cases b with
  | true => exact ⟨rfl, k⟩
  | false => exact k.elim
theorem ifR_calm {b : Bool} {v : Val} {st : Store} {e : Exn} {st' : Store} : ifR b (.ok v st) ≠ .ex e st' := by
  cases b <;> exact fun z => by cases z
theorem c_sub : Calm oSub := fun u v st e st' z => by unfold oSub at z; split at z <;> cases z
theorem c_add : Calm oAdd := fun u v st e st' z => by
  unfold oAdd at z
  split at z
  · cases z
  · exact ifR_calm z
  · exact ifR_calm z
  · split at z
    · exact ifR_calm z
    · split at z
      · exact ifR_calm z
      · cases z
theorem c_mul : Calm oMul := fun u v st e st' z => by
  unfold oMul at z
  split at z
  · exact ifR_calm z
  · exact ifR_calm z
  · split at z
    · exact ifR_calm z
    · split at z
      · exact ifR_calm z
      · cases z
  · cases z
theorem c_div : Calm oDiv := fun u v st e st' z => by unfold oDiv at z; split at z <;> first | exact ifR_calm z | cases z
theorem c_mod : Calm oMod := fun u v st e st' z => by unfold oMod at z; split at z <;> first | exact ifR_calm z | cases z
theorem c_pow : Calm oPow := fun u v st e st' z => by unfold oPow at z; split at z <;> first | exact ifR_calm z | cases z
theorem cat_ok {x y : List Val} {a b : Addr} {xs ys : List V} {Wx : WX} {σ : Sg} (w : Wd g μ st H) (h1 : SqN g.K H a xs) (h2 : SqN g.K H b ys) (hx : VOks g H μ x xs) (hy : VOks g H μ y ys) (hz : x.length + y.length ≤ sizeLine) (k : kR g Wx σ μ H (VOk g) Q (.ok (mkTup (x ++ y)) st)) : rCatN g.K (.ref a) (.ref b) H Q := by
  refine ⟨a, b, xs, ys, rfl, rfl, h1, h2, by rw [hx.length, hy.length]; exact hz, fun e => ?_, fun _ e => ?_, fun _ _ => k_tup w (hx.append hy) k⟩
  · have e1 : x = [] := by have := hx.length; rw [e] at this; exact List.eq_nil_of_length_eq_zero this.symm
    rw [e1, List.nil_append] at k
    exact k_val w (VOk.tup h2 hy) k
  · have e1 : y = [] := by have := hy.length; rw [e] at this; exact List.eq_nil_of_length_eq_zero this.symm
    rw [e1, List.append_nil] at k
    exact k_val w (VOk.tup h1 hx) k
theorem o_add : O2 g (rAddA g.K) oAdd := fun σ μ st H a b u v Q w ha hb k => by
  unfold oAdd at k
  split at k
  · cases ha; cases hb
    exact .inl ⟨_, _, rfl, rfl, k_im w k rfl⟩
  · cases ha; cases hb
    obtain ⟨h1, k⟩ := ifR_of k
    rw [strCat_eq] at k
    exact .inr (.inl ⟨_, _, rfl, rfl, szOk_le h1, k_im w k rfl⟩)
  · rename_i x y
    obtain ⟨h1, k⟩ := ifR_of k
    obtain ⟨p, xs, rfl, hx1, hx2⟩ := ha
    obtain ⟨q, ys, rfl, hy1, hy2⟩ := hb
    have k : kR g (fun _ _ _ _ => False) σ μ H (VOk g) Q (.ok (mkTup (x.map .im ++ y.map .im)) st) := by
      rw [← List.map_append]
      unfold mkTup
      rw [allIm_map]
      exact k
    exact .inr (.inr (.inl (cat_ok w hx1 hy1 (VOks.im.mpr hx2) (VOks.im.mpr hy2) (by simpa using szOk_le h1) k)))
  · split at k
    · rename_i e1 e2
      obtain ⟨h1, k⟩ := ifR_of k
      obtain ⟨p, xs, rfl, hx1, hx2⟩ := tupV_ok ha e1
      obtain ⟨q, ys, rfl, hy1, hy2⟩ := tupV_ok hb e2
      exact .inr (.inr (.inl (cat_ok w hx1 hy1 hx2 hy2 (szOk_le h1) k)))
    · split at k
      · rename_i e1 e2
        obtain ⟨h1, k⟩ := ifR_of k
        obtain ⟨p, xs, rfl, hx1, hx2⟩ := lsV_ok w ha e1
        obtain ⟨q, ys, rfl, hy1, hy2⟩ := lsV_ok w hb e2
        exact .inr (.inr (.inr ⟨p, q, xs, ys, rfl, rfl, hx1, hy1, by rw [hx2.length, hy2.length]; exact szOk_le h1, k_lst w (hx2.append hy2) k⟩))
      · exact k.elim
theorem o_sub : O2 g (rI0 fun i j => .int (i - j)) oSub := fun σ μ st H a b u v Q w ha hb k => by
  unfold oSub at k
  split at k
  · cases ha; cases hb
    exact ⟨_, _, rfl, rfl, k_im w k rfl⟩
  · exact k.elim
theorem mulOkB_of {i j : Int} (h : mulOkB i j = true) : CMulW i j := by
  have : i.natAbs.log2 + j.natAbs.log2 + 1 ≤ 1000000 := by simpa [mulOkB, Nat.blt] using h
  exact this
def rMulX (K : PySem.W.Frag) : R2 := fun x y H Q => rI CMulW (fun i j => .int (i * j)) x y H Q ∨ (rMulS x y H Q ∨ (rMulT K x y H Q ∨ rRep x y H Q))
theorem r_mulX {X : Cx} : OpR X (binaryOp .Mult) (rMulX X.K) := op_mulW.or (op_mulS.or (r_mulT.or op_rep))
theorem VOks.rep {vs : List Val} {ws : List V} (h : VOks g H μ vs ws) : ∀ n : Nat, VOks g H μ (List.replicate n vs).flatten (List.replicate n ws).flatten
  | 0 => VOks.nil
  | n + 1 => by
    rw [List.replicate_succ, List.replicate_succ, List.flatten_cons, List.flatten_cons]
    exact h.append (VOks.rep h n)
theorem o_mul : O2 g (rMulX g.K) oMul := fun σ μ st H a b u v Q w ha hb k => by
  unfold oMul at k
  split at k
  · cases ha; cases hb
    obtain ⟨h1, k⟩ := ifR_of k
    exact .inl ⟨_, _, rfl, rfl, mulOkB_of h1, k_im w k rfl⟩
  · cases ha; cases hb
    obtain ⟨h1, k⟩ := ifR_of k
    simp only [Bool.and_eq_true, intLt_eq, decide_eq_true_eq] at h1
    exact .inr (.inl ⟨_, _, rfl, rfl, ⟨by omega, by omega, szOk_le h1.2⟩, k_im w k rfl⟩)
  · cases hb
    split at k
    · rename_i kk _ _ _ vs e1
      obtain ⟨h1, k⟩ := ifR_of k
      obtain ⟨p, xs, rfl, hx1, hx2⟩ := tupV_ok ha e1
      simp only [Bool.and_eq_true, Bool.not_eq_true', intLt_eq, decide_eq_false_iff_not, List.isEmpty_eq_false_iff] at h1
      have hne : xs ≠ [] := fun e => h1.1.1.1 (by have := hx2.length; rw [e] at this; exact List.eq_nil_of_length_eq_zero this.symm)
      have hl : xs.length ≤ 1000 := by rw [hx2.length]; exact Nat.le_of_ble_eq_true h1.2
      have hk0 : 0 ≤ kk := by omega
      have hk1 : kk ≤ 1000 := by omega
      refine .inr (.inr (.inl ?_))
      by_cases h2 : 2 ≤ kk
      · exact .inl ⟨p, kk, xs, rfl, rfl, hx1, hne, h2, hk1, hl, k_tup w (hx2.rep _) k⟩
      · refine .inr ⟨p, kk, xs, rfl, rfl, hx1, hne, ?_⟩
        by_cases h3 : kk = 1
        · subst h3
          refine .inl ⟨rfl, ?_⟩
          have : (List.replicate (1 : Int).toNat vs).flatten = vs := by simp
          rw [this] at k
          exact k_val w (VOk.tup hx1 hx2) k
        · have h4 : kk = 0 := by omega
          subst h4
          exact .inr ⟨rfl, k_tup w (VOks.rep hx2 0) k⟩
    · split at k
      · rename_i e1
        obtain ⟨h1, k⟩ := ifR_of k
        obtain ⟨p, xs, rfl, hx1, hx2⟩ := lsV_ok w ha e1
        simp only [Bool.and_eq_true, Bool.not_eq_true', intLt_eq, decide_eq_false_iff_not, decide_eq_true_eq] at h1
        exact .inr (.inr (.inr ⟨p, _, xs, rfl, rfl, hx1, by omega, by omega, by rw [hx2.length]; exact szOk_le h1.2, k_lst w (hx2.rep _) k⟩))
      · exact k.elim
  · exact k.elim
theorem o_div : O2 g (rI CDivW fun i j => .int (i / j)) oDiv := fun σ μ st H a b u v Q w ha hb k => by
  unfold oDiv at k
  split at k
  · rename_i i j
    cases ha; cases hb
    obtain ⟨h1, k⟩ := ifR_of k
    simp only [Bool.and_eq_true, intLt_eq, decide_eq_true_eq] at h1
    have h2 : j.natAbs.log2 + 1 ≤ 9000 := by simpa [Nat.blt] using h1.2
    exact ⟨_, _, rfl, rfl, ⟨h1.1, h2⟩, k_im w k rfl⟩
  · exact k.elim
theorem o_mod : O2 g (rI (fun _ j => 0 < j) fun i j => .int (i % j)) oMod := fun σ μ st H a b u v Q w ha hb k => by
  unfold oMod at k
  split at k
  · cases ha; cases hb
    obtain ⟨h1, k⟩ := ifR_of k
    simp only [intLt_eq, decide_eq_true_eq] at h1
    exact ⟨_, _, rfl, rfl, h1, k_im w k rfl⟩
  · exact k.elim
theorem o_pow : O2 g (rI CPow fun i j => .int (i ^ j.toNat)) oPow := fun σ μ st H a b u v Q w ha hb k => by
  unfold oPow at k
  split at k
  · rename_i i j
    cases ha; cases hb
    obtain ⟨h1, k⟩ := ifR_of k
    simp only [Bool.and_eq_true, Bool.not_eq_true', intLt_eq, decide_eq_false_iff_not] at h1
    have h2 : i.natAbs + 1 ≤ 18446744073709551616 := by simpa [Nat.blt] using h1.2
    exact ⟨_, _, rfl, rfl, ⟨by omega, by omega, h2⟩, k_im w k rfl⟩
  · exact k.elim
end
/-! ### comparisons -/
def oCmp (fi : Int → Int → Bool) (fs : List Nat → List Nat → Bool) : Val → Val → Store → R Val
  | .im (.int i), .im (.int j), st => .ok (.im (.bl (fi i j))) st
  | .im (.str i), .im (.str j), st => .ok (.im (.bl (fs i.cps.toList j.cps.toList))) st
  | _, _, _ => .bad
def oLt := oCmp (fun i j => intLt i j) (fun i j => natsLt i j)
def oLe := oCmp (fun i j => !intLt j i) (fun i j => !natsLt j i)
def oGt := oCmp (fun i j => intLt j i) (fun i j => natsLt j i)
def oGe := oCmp (fun i j => !intLt i j) (fun i j => !natsLt i j)
mutual
def deqB : Dt → Dt → Bool
  | .int a, .int b => intEq a b
  | .str a, .str b => strEq a b
  | .tup a, .tup b => deqBs a b
  | a, b => deq a b
def deqBs : List Dt → List Dt → Bool
  | [], [] => true
  | a :: as, b :: bs => if deqB a b then deqBs as bs else false
  | _, _ => false
end
mutual
def okB : Dt → Bool
  | .str x => Nat.ble (strLen x) 1000000
  | .tup ds => Nat.ble ds.length 1000000 && okBs ds
  | .ref _ => false
  | _ => true
def okBs : List Dt → Bool
  | [] => true
  | d :: ds => if okB d then okBs ds else false
end
/-- nested at most n deep -/
def dpB : Nat → Dt → Bool
  | n, .tup ds => (match n with
    | 0 => false
    | n + 1 => ds.all (dpB n))
  | _, _ => true
def oEq (neg : Bool) : Val → Val → Store → R Val
  | .im (.int i), .im (.int j), st => .ok (.im (.bl (if neg then !intEq i j else intEq i j))) st
  | .im (.str i), .im (.str j), st => .ok (.im (.bl (if neg then !strEq i j else strEq i j))) st
  | .im a, .im b, st => ifR (okB a && okB b && (dpB 28 b || dpB 28 a)) (.ok (.im (.bl (if neg then !deqB a b else deqB a b))) st)
  | _, _, _ => .bad
theorem deqB_eq : (∀ a b : Dt, deqB a b = deq a b) ∧ True := by
  refine ⟨fun a => ?_, trivial⟩
  suffices h : ∀ n, ∀ a b : Dt, sizeOf a ≤ n → deqB a b = deq a b from fun b => h _ a b (Nat.le_refl _)
  intro n
  induction n with
  | zero => intro a b h; cases a <;> simp at h
  | succ n ih =>
    intro a b h
    have hs : ∀ (as bs : List Dt), sizeOf as ≤ n → deqBs as bs = deqs as bs := by
      intro as
      induction as with
      | nil => intro bs _; cases bs <;> simp [deqBs, deqs]
      | cons x as ihs =>
        intro bs hs
        have hs' : 1 + sizeOf x + sizeOf as ≤ n := by simpa using hs
        cases bs with
        | nil => simp [deqBs, deqs]
        | cons y bs =>
          rw [deqBs, deqs, ih x y (by omega), ihs bs (by omega)]
          cases deq x y <;> simp
    cases a <;> cases b <;> simp [deqB, deq, intEq_eq, strEq_eq]
    all_goals first
      | exact hs _ _ (by simp at h; omega)
      | (rw [Bool.eq_iff_iff]; simp)
theorem okB_eq : ∀ a : Dt, okB a = true → okD a = true := by
  suffices h : ∀ n, ∀ a : Dt, sizeOf a ≤ n → okB a = true → okD a = true from fun a => h _ a (Nat.le_refl _)
  intro n
  induction n with
  | zero => intro a h; cases a <;> simp at h
  | succ n ih =>
    intro a h k
    cases a with
    | str x => exact decide_eq_true (Nat.le_of_ble_eq_true k)
    | tup ds =>
      rw [okB, Bool.and_eq_true] at k
      rw [okD, Bool.and_eq_true]
      refine ⟨decide_eq_true (Nat.le_of_ble_eq_true k.1), ?_⟩
      have hs : ∀ as : List Dt, sizeOf as ≤ n → okBs as = true → okDs as = true := by
        intro as
        induction as with
        | nil => intro _ _; rfl
        | cons x as ihs =>
          intro hz hk
          have hs' : 1 + sizeOf x + sizeOf as ≤ n := by simpa using hz
          rw [okBs] at hk
          split at hk
          · rename_i hx
            rw [okDs, ih x (by omega) hx, ihs (by omega) hk]; rfl
          · cases hk
      exact hs ds (by simp at h; omega) k.2
    | ref a => cases k
    | _ => rfl
theorem dpB_le : ∀ (n : Nat) (d : Dt), dpB n d = true → dpt d ≤ n
  | 0, d, h => by
    cases d with
    | tup ds => simp [dpB] at h
    | _ => simp [dpt]
  | n + 1, d, h => by
    cases d with
    | tup ds =>
      have h' : ds.all (dpB n) = true := h
      have : dpts ds ≤ n := by
        clear h
        induction ds with
        | nil => simp [dpts]
        | cons x ds ih =>
          rw [List.all_cons, Bool.and_eq_true] at h'
          have := dpB_le n x h'.1
          have := ih h'.2
          simp only [dpts]
          omega
      simp only [dpt]; omega
    | _ => simp [dpt]
section
variable {g : G} {X : Cx}
theorem c_cmp {fi fs} : Calm (oCmp fi fs) := fun u v st e st' z => by unfold oCmp at z; split at z <;> cases z
theorem c_eq {neg} : Calm (oEq neg) := fun u v st e st' z => by
  unfold oEq at z
  split at z
  · cases z
  · cases z
  · exact ifR_calm z
  · cases z
theorem o_cmp {fi : Int → Int → Bool} {fs : List Nat → List Nat → Bool} {fi' : Int → Int → Bool} {fs' : Str → Str → Bool} (h1 : ∀ i j, fi i j = fi' i j) (h2 : ∀ i j : Str, fs i.cps.toList j.cps.toList = fs' i j) :
    O2 g (fun x y H Q => rI0 (fun i j => .bl (fi' i j)) x y H Q ∨ rStr (fun i j => .bl (fs' i j)) x y H Q) (oCmp fi fs) := fun σ μ st H a b u v Q w ha hb k => by
  unfold oCmp at k
  split at k
  · cases ha; cases hb
    rw [h1] at k
    exact .inl ⟨_, _, rfl, rfl, k_im w k rfl⟩
  · cases ha; cases hb
    rw [h2] at k
    exact .inr ⟨_, _, rfl, rfl, k_im w k rfl⟩
  · exact k.elim
theorem o_lt : O2 g rLt oLt := o_cmp (fun i j => intLt_eq i j) fun i j => natsLt_eq _ _
theorem o_le : O2 g rLe oLe := o_cmp (fun i j => by rw [intLt_eq]; by_cases h : j < i <;> simp [h] <;> omega) fun i j => by rw [natsLt_eq]
theorem o_gt : O2 g rGt oGt := o_cmp (fun i j => intLt_eq j i) fun i j => natsLt_eq _ _
theorem o_ge : O2 g rGe oGe := o_cmp (fun i j => by rw [intLt_eq]; by_cases h : i < j <;> simp [h] <;> omega) fun i j => by rw [natsLt_eq]
theorem neg_if {neg b : Bool} {c : Bool} (h : b = c) : (if neg = true then !b else b) = (if neg = true then !c else c) := by rw [h]
def rEqX (K : PySem.W.Frag) (neg : Bool) : R2 := fun x y H Q => (if neg then rNe x y H Q else rEq x y H Q) ∨ rEqM K neg x y H Q
theorem r_eqX (hu : X.A.units + 64 < cLine) : OpR X (compareOp .Eq) (rEqX X.K false) := OpR.or (r := rEq) op_eq (r_eqM hu)
theorem r_neX (hu : X.A.units + 64 < cLine) : OpR X (compareOp .NotEq) (rEqX X.K true) := OpR.or (r := rNe) op_ne (r_neM hu)
theorem o_eq (neg : Bool) : O2 g (rEqX g.K neg) (oEq neg) := fun σ μ st H a b u v Q w ha hb k => by
  unfold oEq at k
  split at k
  · cases ha; cases hb
    rw [neg_if (intEq_eq _ _)] at k
    have k := k_im w k rfl
    cases neg
    · exact .inl ⟨rfl, by simpa using k⟩
    · exact .inl ⟨rfl, by simpa using k⟩
  · cases ha; cases hb
    rw [neg_if (strEq_eq _ _)] at k
    have k := k_im w k rfl
    cases neg
    · exact .inl ⟨rfl, by simpa using k⟩
    · exact .inl ⟨rfl, by simpa using k⟩
  · rename_i x y _ _
    obtain ⟨h1, k⟩ := ifR_of k
    rw [neg_if (deqB_eq.1 _ _)] at k
    simp only [Bool.and_eq_true, Bool.or_eq_true] at h1
    exact .inr ⟨x, y, ha, hb, okB_eq _ h1.1.1, okB_eq _ h1.1.2, h1.2.symm.imp (dpB_le _ _) (dpB_le _ _), k_im w k rfl⟩
  · exact k.elim
/-- is, is not -/
def oIsN (neg : Bool) : Val → Val → Store → R Val
  | .im a, .im .non, st => .ok (.im (.bl (if neg then !isNonD a else isNonD a))) st
  | .ob _, .im .non, st => .ok (.im (.bl neg)) st
  | .tv _, .im .non, st => .ok (.im (.bl neg)) st
  | .im (.bl a), .im (.bl b), st => .ok (.im (.bl (if neg then !(a == b) else a == b))) st
  | _, _, _ => .bad
theorem c_is {neg} : Calm (oIsN neg) := fun u v st e st' z => by unfold oIsN at z; split at z <;> cases z
theorem o_isN (neg : Bool) : O2 g (fun x y H Q => (y = .non ∧ Q (.bl (if neg then !decide (x = .non) else decide (x = .non))) H) ∨ ∃ a b, x = .bl a ∧ y = .bl b ∧ Q (.bl (if neg then !decide (a = b) else decide (a = b))) H) (oIsN neg) := fun σ μ st H a b u v Q w ha hb k => by
  unfold oIsN at k
  split at k
  · cases hb
    refine .inl ⟨rfl, ?_⟩
    rw [isNon_of ha]
    exact k_im w k rfl
  · cases hb
    obtain ⟨p, _, rfl⟩ := ha
    refine .inl ⟨rfl, ?_⟩
    have : decide (V.ref p = V.non) = false := rfl
    rw [this]
    have := k_im w k rfl
    cases neg <;> exact this
  · cases hb
    obtain ⟨p, ws, rfl, _⟩ := ha
    refine .inl ⟨rfl, ?_⟩
    have : decide (V.ref p = V.non) = false := rfl
    rw [this]
    have := k_im w k rfl
    cases neg <;> exact this
  · rename_i x y
    cases ha; cases hb
    refine .inr ⟨_, _, rfl, rfl, ?_⟩
    have := k_im w k rfl
    rw [neg_if (show (x == y) = decide (x = y) by cases x <;> cases y <;> rfl)] at this
    exact this
  · exact k.elim
theorem r_is : OpR X (compareOp .Is) (fun x y H Q => (y = .non ∧ Q (.bl (if false then !decide (x = .non) else decide (x = .non))) H) ∨ ∃ a b, x = .bl a ∧ y = .bl b ∧ Q (.bl (if false then !decide (a = b) else decide (a = b))) H) := op_isN.or op_is_bl
theorem r_isnt : OpR X (compareOp .IsNot) (fun x y H Q => (y = .non ∧ Q (.bl (if true then !decide (x = .non) else decide (x = .non))) H) ∨ ∃ a b, x = .bl a ∧ y = .bl b ∧ Q (.bl (if true then !decide (a = b) else decide (a = b))) H) := op_notN.or op_isnot_bl
end
end SX
/-! SX: indexes, slices, displays, builtins, methods of texts and lists, comprehensions. -/
namespace SX
open PySem PySem.Spec PyProof.Rows L2 PL
open PL (Dt Imm Imms SqN Tups)
/-! ### -e -/
def uNeg : Val → Store → R Val
  | .im (.int i), st => .ok (.im (.int (-i))) st
  | _, _ => .bad
section
variable {T : Tb} {X : Cx} {Wx : WX} {pos : Pos} {ta : TE} {a : XE} {e e1 e2 : Expr} {es : List Expr} {tA : TA} {A : XA}
theorem sx_neg (h : SE T X Wx e ta a) : SE T X Wx (.UnaryOp .USub e pos) (tUn (rU fun i => .int (-i)) ta) (xUn uNeg a) := by
  refine ⟨pe_un un_neg h.pe, fun μ σ ρ st H Q w s k => ?_⟩
  refine h.ex μ σ ρ st H _ w s ((kR.bind k).mono fun v st1 u μ1 H1 _ _ _ _ z => ?_)
  obtain ⟨v', st1', μ1', _, k1, w1, r1, k2⟩ := z
  unfold uNeg at k2
  split at k2
  · cases r1
    exact ⟨_, rfl, k2 _ _ _ Keep.refl w1 rfl⟩
  · exact k2.elim
end
/-! ### indexes -/
def nth (n : Nat) (i : Int) : Option Nat := match i with
  | .ofNat k => if Nat.blt k n then some k else none
  | .negSucc k => if Nat.blt k n then some (n - (k + 1)) else none
theorem blt_iff {a b : Nat} : Nat.blt a b = true ↔ a < b := by
  show Nat.ble (a + 1) b = true ↔ a < b
  rw [Nat.ble_eq]
  exact Iff.rfl
theorem nth_eq (n : Nat) (i : Int) : nth n i = L2.ixN n i := by
  cases i with
  | ofNat k =>
    by_cases h : k < n
    · have e : nth n (.ofNat k) = some k := by show (if Nat.blt k n = true then some k else none) = _; rw [if_pos (blt_iff.mpr h)]
      rw [e]; unfold L2.ixN
      rw [if_pos (by simp), if_pos (by simpa using h)]; simp
    · have e : nth n (.ofNat k) = none := by show (if Nat.blt k n = true then some k else none) = _; rw [if_neg (fun z => h (blt_iff.mp z))]
      rw [e]; unfold L2.ixN
      rw [if_pos (by simp), if_neg (by simpa using h)]
  | negSucc k =>
    by_cases h : k < n
    · have e : nth n (.negSucc k) = some (n - (k + 1)) := by show (if Nat.blt k n = true then some (n - (k + 1)) else none) = _; rw [if_pos (blt_iff.mpr h)]
      rw [e]; unfold L2.ixN
      rw [if_neg (by omega), if_pos (by omega)]
      congr 1
      omega
    · have e : nth n (.negSucc k) = none := by show (if Nat.blt k n = true then some (n - (k + 1)) else none) = _; rw [if_neg (fun z => h (blt_iff.mp z))]
      rw [e]; unfold L2.ixN
      rw [if_neg (by omega), if_neg (by omega)]
def atV {α : Type} (xs : List α) (i : Int) : Option α := match nth xs.length i with
  | some j => xs[j]?
  | none => none
theorem atV_eq {α : Type} (xs : List α) (i : Int) : atV xs i = L2.atI xs i := by
  unfold atV L2.atI
  rw [nth_eq]
  cases L2.ixN xs.length i <;> rfl
def oIx : Val → Val → Store → R Val
  | .im (.tup ds), .im (.int i), st => imR (atV ds i) st
  | .im (.str z), .im (.int i), st => ifR (szOk (strLen z)) (match atV z.cps.toList i with
    | some c => .ok (.im (.str ⟨⟨[c]⟩⟩)) st
    | none => .bad)
  | .tv vs, .im (.int i), st => (match atV vs i with
    | some v => .ok v st
    | none => .bad)
  | .ob k, .im (.int i), st => (match st[k]? with
    | some (.lst ds) => imR (atV ds i) st
    | some (.lsv vs) => (match atV vs i with
      | some v => .ok v st
      | none => .bad)
    | _ => .bad)
  | _, _, _ => .bad
theorem imR_calm {o : Option Dt} {st st' : Store} {e : Exn} : imR o st ≠ .ex e st' := by cases o <;> exact fun z => by cases z
theorem c_ix : Calm oIx := fun u v st e st' z => by
  unfold oIx at z
  split at z
  · exact imR_calm z
  · revert z; cases szOk _ <;> intro z
    · cases z
    · simp only [ifR] at z; split at z <;> cases z
  · split at z <;> cases z
  · split at z
    · exact imR_calm z
    · split at z <;> cases z
    · cases z
  · cases z
section
variable {g : G} {Wx : WX} {σ : Sg} {μ : List Addr} {st : Store} {H : Hp} {Q : VK}
theorem VOks.atI {vs : List Val} {us : List V} {i : Int} {v : Val} (h : VOks g H μ vs us) (e : L2.atI vs i = some v) : ∃ u, L2.atI us i = some u ∧ VOk g H μ v u := by
  unfold L2.atI at e ⊢
  rw [h.length]
  cases q : L2.ixN vs.length i with
  | none => rw [q] at e; cases e
  | some j => rw [q] at e; exact h.get e
theorem o_ix : O2 g (rIx g.K) oIx := fun σ μ st H a b u v Q w ha hb k => by
  unfold oIx at k
  split at k
  · rename_i ds i
    obtain ⟨x, ws, rfl, h1, h2⟩ := ha
    cases hb
    rw [atV_eq] at k
    cases e : L2.atI ds i with
    | none => rw [e] at k; exact k.elim
    | some d =>
      rw [e] at k
      obtain ⟨u, e1, e2⟩ := h2.atI e
      exact .inr (.inl ⟨x, ws, i, u, rfl, rfl, h1, e1, k_im w k e2⟩)
  · rename_i z i
    cases ha; cases hb
    obtain ⟨h1, k⟩ := ifR_of k
    rw [atV_eq] at k
    split at k
    · rename_i ch e
      exact .inr (.inr ⟨z, i, ch, rfl, rfl, szOk_le h1, e, k_im w k rfl⟩)
    · exact k.elim
  · rename_i vs i
    obtain ⟨x, ws, rfl, h1, h2⟩ := ha
    cases hb
    rw [atV_eq] at k
    split at k
    · rename_i v e
      obtain ⟨u, e1, e2⟩ := h2.atI e
      exact .inr (.inl ⟨x, ws, i, u, rfl, rfl, h1, e1, k_val w e2 k⟩)
    · exact k.elim
  · rename_i kk i
    obtain ⟨x, hx, rfl⟩ := ha
    cases hb
    split at k
    · rename_i ds hs
      obtain ⟨ws, h1, h2⟩ := w.ok _ _ _ hx hs
      rw [atV_eq] at k
      cases e : L2.atI ds i with
      | none => rw [e] at k; exact k.elim
      | some d =>
        rw [e] at k
        obtain ⟨u, e1, e2⟩ := h2.atI e
        exact .inl ⟨x, ws, i, u, rfl, rfl, SqL.of h1, e1, k_im w k e2⟩
    · rename_i vs hs
      obtain ⟨ws, h1, h2⟩ := w.ok _ _ _ hx hs
      rw [atV_eq] at k
      split at k
      · rename_i v e
        obtain ⟨u, e1, e2⟩ := h2.atI e
        exact .inl ⟨x, ws, i, u, rfl, rfl, SqL.of h1, e1, k_val w e2 k⟩
      · exact k.elim
    · exact k.elim
  · exact k.elim
end
/-! ### slices -/
abbrev XO := Slots → Store → R (Option Int)
def relO : Hp → List Addr → Option Int → Option Int → Prop := fun _ _ a b => a = b
structure SO (T : Tb) (X : Cx) (Wx : WX) (e : Option Expr) (t : TO) (x : XO) : Prop where
  pe : PO X e t
  ex : ∀ (μ : List Addr) (σ : Sg) (ρ : Slots) (st : Store) (H : Hp) (Q : Option Int → Hp → Prop), Wd (gX T X) μ st H → SOk (gX T X) H μ σ ρ → kR (gX T X) Wx σ μ H relO Q (x ρ st) → t σ H Q
def xNoPart : XO := fun _ st => .ok none st
def intR : Val → Store → R (Option Int)
  | .im (.int i), st => .ok (some i) st
  | _, _ => .bad
def xPart (a : XE) : XO := fun ρ st => (a ρ st).bind intR
def cutX {α : Type} (xs : List α) (lo hi : Option Int) : List α := (xs.drop (HT.sIx xs.length 0 lo)).take (HT.sIx xs.length xs.length hi - HT.sIx xs.length 0 lo)
def oSl (v : Val) (lo hi : Option Int) (st : Store) : R Val := match v with
  | .im (.str z) => ifR (szOk (strLen z)) (.ok (.im (.str ⟨⟨cutX z.cps.toList lo hi⟩⟩)) st)
  | .im (.tup ds) => .ok (.im (.tup (cutX ds lo hi))) st
  | .tv vs => .ok (mkTup (cutX vs lo hi)) st
  | .ob k => (match st[k]? with
    | some (.lst ds) => .ok (.ob st.length) (st ++ [.lst (cutX ds lo hi)])
    | some (.lsv vs) => .ok (.ob st.length) (st ++ [mkLst (cutX vs lo hi)])
    | _ => .bad)
  | _ => .bad
def xSl (a : XE) (l h : XO) : XE := fun ρ st => (a ρ st).bind fun v st => (l ρ st).bind fun lo st => (h ρ st).bind fun hi st => oSl v lo hi st
section
variable {g : G} {Wx : WX} {σ : Sg} {μ : List Addr} {st : Store} {H : Hp} {Q : VK}
theorem VOks.cut {vs : List Val} {ws : List V} (h : VOks g H μ vs ws) (lo hi : Option Int) : VOks g H μ (cutX vs lo hi) (cutV ws lo hi) := by
  unfold cutX cutV
  rw [h.length]
  exact (h.drop _).take _
theorem Imms.cutX {K : PySem.W.Frag} {H : Hp} {ds : List Dt} {ws : List V} (h : Imms K H ds ws) (lo hi : Option Int) : Imms K H (cutX ds lo hi) (cutV ws lo hi) := by
  unfold SX.cutX cutV
  rw [PL.Imms.length h]
  exact (h.drop _).take _
theorem k_lstD {ds : List Dt} {ws : List V} (w : Wd g μ st H) (h : Imms g.K H ds ws) (k : kR g Wx σ μ H (VOk g) Q (.ok (.ob st.length) (st ++ [.lst ds]))) : ∀ p, H p = none → Q (.ref p) (upd H p (.lst ws)) := by
  refine k_lst (Wx := Wx) (σ := σ) (vs := ds.map .im) w (VOks.im.mpr h) ?_
  have : mkLst (ds.map .im) = .lst ds := by unfold mkLst; rw [allIm_map]
  rw [this]
  exact k
theorem k_tupD {ds : List Dt} {ws : List V} (w : Wd g μ st H) (h : Imms g.K H ds ws) (k : kR g Wx σ μ H (VOk g) Q (.ok (.im (.tup ds)) st)) : NT H ws Q := by
  refine k_tup (Wx := Wx) (σ := σ) (vs := ds.map .im) w (VOks.im.mpr h) ?_
  have : mkTup (ds.map .im) = .im (.tup ds) := by unfold mkTup; rw [allIm_map]
  rw [this]
  exact k
theorem cut_whole {α : Type} {xs : List α} {lo hi : Option Int} {n : Nat} (hn : n = xs.length) (h : HT.sIx n 0 lo = 0 ∧ HT.sIx n n hi = n) : cutX xs lo hi = xs := by
  subst hn
  unfold cutX
  rw [h.1, h.2, List.drop_zero, Nat.sub_zero, List.take_length]
end
section
variable {T : Tb} {X : Cx} {Wx : WX} {pos : Pos} {ta : TE} {a : XE} {e e1 e2 : Expr} {es : List Expr} {tA : TA} {A : XA}
theorem so_none : SO T X Wx none tNoPart xNoPart := ⟨po_none, fun μ σ ρ st H Q w s k => k none μ H Keep.refl w rfl⟩
theorem so_some (h : SE T X Wx e ta a) : SO T X Wx (some e) (tPart ta) (xPart a) := ⟨po_some h.pe, fun μ σ ρ st H Q w s k => by
  refine h.ex μ σ ρ st H _ w s ((kR.bind k).mono fun v st1 u μ1 H1 _ _ _ _ z => ?_)
  obtain ⟨v', st1', μ1', _, k1, w1, r1, k2⟩ := z
  unfold intR at k2
  split at k2
  · cases r1
    exact ⟨_, rfl, k2 _ _ _ Keep.refl w1 rfl⟩
  · exact k2.elim⟩
theorem sx_slice {lo hi : Option Expr} {tl th : TO} {xl xh : XO} {p2 : Pos} (h : SE T X Wx e ta a) (hl : SO T X Wx lo tl xl) (hh : SO T X Wx hi th xh) : SE T X Wx (.Subscript e (.Slice lo hi none p2) pos) (tSl (rSlc X.K) ta tl th) (xSl a xl xh) := by
  refine ⟨pe_slice (sl_list.or (sl_tupN.or sl_str)) h.pe hl.pe hh.pe, fun μ σ ρ st H Q w s k => ?_⟩
  refine h.ex μ σ ρ st H _ w s ((kR.bind k).mono fun _ _ u _ H1 _ _ _ _ z => ?_)
  obtain ⟨v, st1, μ1, _, k1, w1, r1, k2⟩ := z
  refine hl.ex μ1 σ ρ st1 H1 _ w1 (s.keep k1) ((kR.bind k2).mono fun _ _ lo' _ H2 _ _ _ _ z => ?_)
  obtain ⟨lo, st2, μ2, _, k3, w2, rfl, k4⟩ := z
  refine hh.ex μ2 σ ρ st2 H2 _ w2 ((s.keep k1).keep k3) ((kR.bind k4).mono fun _ _ hi' _ H3 _ _ _ _ z => ?_)
  obtain ⟨hi, st3, μ3, _, k5, w3, rfl, k6⟩ := z
  have r3 := (r1.keep k3).keep k5
  unfold oSl at k6
  split at k6
  · cases r3
    obtain ⟨h1, k6⟩ := ifR_of k6
    exact .inr (.inr ⟨_, rfl, szOk_le h1, k_im w3 k6 rfl⟩)
  · rename_i ds _
    obtain ⟨x, ws, rfl, h1, h2⟩ := r3
    refine .inr (.inl ⟨x, ws, rfl, h1.t, fun hw => ?_, fun _ => k_tupD w3 (ds := cutX ds lo hi) (Imms.cutX h2 lo hi) k6⟩)
    rw [cut_whole h2.length hw] at k6
    exact k_im w3 k6 ⟨x, ws, rfl, h1, h2⟩
  · rename_i vs _
    obtain ⟨x, ws, rfl, h1, h2⟩ := r3
    refine .inr (.inl ⟨x, ws, rfl, h1.t, fun hw => ?_, fun _ => k_tup w3 (h2.cut lo hi) k6⟩)
    rw [cut_whole h2.length hw] at k6
    exact k_val w3 (VOk.tup h1 h2) k6
  · obtain ⟨x, hx, rfl⟩ := r3
    split at k6
    · rename_i ds hs
      obtain ⟨ws, h1, h2⟩ := w3.ok _ _ _ hx hs
      exact .inl ⟨x, ws, rfl, SqL.of h1, k_lstD w3 (ds := cutX ds lo hi) (Imms.cutX h2 lo hi) k6⟩
    · rename_i vs hs
      obtain ⟨ws, h1, h2⟩ := w3.ok _ _ _ hx hs
      exact .inl ⟨x, ws, rfl, SqL.of h1, k_lst w3 (h2.cut lo hi) k6⟩
    · exact k6.elim
  · exact k6.elim
/-! ### displays -/
/-- a list that nothing names yet -/
abbrev XH := Slots → Store → R (List Val)
def kH (g : G) (Wx : WX) (σ : Sg) (μ : List Addr) (H : Hp) (Q : VK) : R (List Val) → Prop
  | .ok vs st' => ∀ D ws μ' H', H D = none → Keep μ H μ' H' → Wd g μ' st' H' → H' D = some (.lst ws) → D ∉ μ' → VOks g H' μ' vs ws → Q (.ref D) H'
  | .ex e st' => ∀ cls d μ' H', Keep μ H μ' H' → Wd g μ' st' H' → ExOk g e cls d H' → Wx cls d σ H'
  | .bad => False
def HX (g : G) (Wx : WX) (t : TE) (x : XH) : Prop := ∀ (μ : List Addr) (σ : Sg) (ρ : Slots) (st : Store) (H : Hp) (Q : VK), Wd g μ st H → SOk g H μ σ ρ → kH g Wx σ μ H Q (x ρ st) → t σ H Q
structure SH (T : Tb) (X : Cx) (Wx : WX) (e : Expr) (t : TE) (x : XH) : Prop where
  pe : PE X e t
  ex : HX (gX T X) Wx t x
theorem szAll {g : G} {H : Hp} {μ : List Addr} {vs : List Val} {ws : List V} (h : VOks g H μ vs ws) (hs : szOk vs.length = true) : ws.length ≤ sizeLine := by rw [h.length]; exact szOk_le hs
def xDsp (a : XA) : XH := fun ρ st => (a ρ st).bind fun vs st => if szOk vs.length then .ok vs st else .bad
def xTupD (a : XA) : XE := fun ρ st => (a ρ st).bind fun vs st => ifR (szOk vs.length) (.ok (mkTup vs) st)
theorem sx_tup {k : Nat} (h : SA T X Wx es tA A) : SE T X Wx (.Tuple es k pos) (tTupN tA) (xTupD A) := by
  refine ⟨pe_tupN h.pe, fun μ σ ρ st H Q w s k => ?_⟩
  refine h.ex μ σ ρ st H _ w s ((kR.bind k).mono fun _ _ u _ H1 _ _ _ _ z => ?_)
  obtain ⟨vs, st1, μ1, _, k1, w1, r1, k2⟩ := z
  obtain ⟨h1, k2⟩ := ifR_of k2
  exact ⟨szAll r1 h1, k_tup w1 r1 k2⟩
theorem sh_lst (h : SA T X Wx es tA A) : SH T X Wx (.List es pos) (tLst tA) (xDsp A) := by
  refine ⟨pe_lst h.pe, fun μ σ ρ st H Q w s k => ?_⟩
  cases q : A ρ st with
  | bad => unfold xDsp at k; rw [q] at k; exact k.elim
  | ex e st' =>
    unfold xDsp at k; rw [q] at k
    exact h.ex μ σ ρ st H _ w s (by rw [q]; exact k)
  | ok vs st1 =>
    unfold xDsp at k; rw [q] at k
    refine h.ex μ σ ρ st H _ w s ?_
    rw [q]
    intro us μ1 H1 k1 w1 r1
    simp only [R.bind] at k
    split at k
    · rename_i hz
      refine ⟨szAll r1 hz, fun p hp => k p us μ1 _ (k1.dom p hp) (k1.trans (Keep.fresh hp)) (w1.fresh hp) upd_same (fun z => (w1.cell z).1 hp) (r1.keep (Keep.fresh hp))⟩
    · exact k.elim
/-- it gets a cell -/
def xNew (h : XH) : XE := fun ρ st => (h ρ st).bind fun vs st => .ok (.ob st.length) (st ++ [mkLst vs])
mutual
theorem VOk.grow {g : G} {H : Hp} {μ μ' : List Addr} (m : Maps (fun i => some i) μ μ') : ∀ {v : Val} {u : V}, VOk g H μ v u → VOk g H μ' v u
  | .im d, _, h => h
  | .ob i, _, h => let ⟨a, e, r⟩ := h; ⟨a, m i i a rfl e, r⟩
  | .tv vs, _, h => let ⟨a, ws, e, s, t⟩ := h; ⟨a, ws, e, s, VOks.grow m t⟩
  | .scr ns, _, h => h
  | .fn _, _, h => h
theorem VOks.grow {g : G} {H : Hp} {μ μ' : List Addr} (m : Maps (fun i => some i) μ μ') : ∀ {vs : List Val} {us : List V}, VOks g H μ vs us → VOks g H μ' vs us
  | [], _, h => h
  | v :: vs, _, h => let ⟨u, us, e, s, t⟩ := h; ⟨u, us, e, VOk.grow m s, VOks.grow m t⟩
end
theorem COk.grow {g : G} {H : Hp} {μ μ' : List Addr} (m : Maps (fun i => some i) μ μ') {c : Cl} {a : Addr} (h : COk g H μ c a) : COk g H μ' c a := by
  cases c with
  | lst ds => exact h
  | lsv ds => obtain ⟨vs, e, s⟩ := h; exact ⟨vs, e, VOks.grow m s⟩
  | dct kvs => obtain ⟨vs, e, s, t⟩ := h; exact ⟨vs, e, s, VOks.grow m t⟩
  | dcn kvs => obtain ⟨vs, e, s, t, r⟩ := h; exact ⟨vs, e, s, VOks.grow m t, r⟩
  | ins c fs => obtain ⟨C, dx, us, e, s, t, r⟩ := h; exact ⟨C, dx, us, e, s, t, VOks.grow m r⟩
theorem hid_cell {g : G} {μ μ' : List Addr} {H H' : Hp} {st st' : Store} {vs : List Val} {ws : List V} {D : Addr} (w0 : Wd g μ st H) (h0 : H D = none) (k : Keep μ H μ' H') (w : Wd g μ' st' H') (hD : H' D = some (.lst ws)) (nD : D ∉ μ') (r : VOks g H' μ' vs ws) :
    Keep μ H (μ' ++ [D]) H' ∧ Wd g (μ' ++ [D]) (st' ++ [mkLst vs]) H' ∧ VOk g H' (μ' ++ [D]) (.ob st'.length) (.ref D) := by
  obtain ⟨ν, e, f⟩ := k.ext
  have mp : Maps (fun i => some i) μ' (μ' ++ [D]) := fun i j a h1 h2 => by
    cases h1
    rw [List.getElem?_append_left (List.getElem?_eq_some_iff.mp h2).1]
    exact h2
  refine ⟨⟨k.fr, k.dom, k.tups, ν ++ [D], by rw [e, List.append_assoc], fun b hb => ?_⟩, ⟨by simp [w.len], ?_, fun i a c h1 h2 => ?_, ?_⟩, D, by rw [← w.len]; simp, rfl⟩
  · rcases List.mem_append.mp hb with hb | hb
    · exact f b hb
    · cases List.mem_singleton.mp hb; exact h0
  · rw [List.nodup_append]
    exact ⟨w.nd, by simp, fun a ha b hb e => by cases List.mem_singleton.mp hb; subst e; exact nD ha⟩
  · have up : ∀ {c : Cl} {a : Addr}, COk g H' μ' c a → COk g H' (μ' ++ [D]) c a := fun {c a} h => COk.grow mp h
    by_cases hi : i < μ'.length
    · rw [List.getElem?_append_left hi] at h1
      rw [List.getElem?_append_left (by rw [← w.len]; exact hi)] at h2
      exact up (w.ok i a c h1 h2)
    · rw [List.getElem?_append_right (by omega)] at h1
      rw [List.getElem?_append_right (by rw [← w.len]; omega), ← w.len] at h2
      cases q : i - μ'.length with
      | zero => rw [q] at h1 h2; cases h1; cases h2; exact up (COk.lst hD r)
      | succ n => rw [q] at h1; simp at h1
  · rcases w0.sc with ⟨y1, y2⟩ | y
    · rcases w.sc with ⟨z1, z2⟩ | z
      · refine .inl ⟨fun y => ?_, z2⟩
        rcases List.mem_append.mp y with y | y
        · exact z1 y
        · have e := List.mem_singleton.mp y
          rcases y2 with y2 | ⟨o, y2⟩ <;> rw [e, h0] at y2 <;> cases y2
      · exact .inr z
    · exact .inr y
end
end SX
/-! SX: builtins, membership, stores, methods of lists. -/
namespace SX
open PySem PySem.Spec PyProof.Rows L2 PL
open PL (Dt Imm Imms SqN Tups)
section
variable {g : G} {Wx : WX} {σ : Sg} {μ μ' : List Addr} {st : Store} {H H' : Hp} {Q : VK}
/-- what kH asks, at what came -/
theorem kH.bind {β : Type} {r : R (List Val)} {f : List Val → Store → R β} {rel' : Hp → List Addr → β → V → Prop} (w0 : Wd g μ st H) (h : kR g Wx σ μ H rel' Q (r.bind f)) :
    kH g Wx σ μ H (fun u H1 => ∃ vs st1 μ1 D ws, r = .ok vs st1 ∧ u = .ref D ∧ H D = none ∧ Keep μ H μ1 H1 ∧ Wd g μ1 st1 H1 ∧ H1 D = some (.lst ws) ∧ D ∉ μ1 ∧ VOks g H1 μ1 vs ws ∧ kR g Wx σ μ1 H1 rel' Q (f vs st1)) r := by
  cases r with
  | ok vs st1 => exact fun D ws μ1 H1 h0 k w1 hD nD hv => ⟨vs, st1, μ1, D, ws, rfl, rfl, h0, k, w1, hD, nD, hv, kR.later k h⟩
  | ex e st1 => exact h
  | bad => exact h
end
section
variable {T : Tb} {X : Cx} {Wx : WX} {pos p' : Pos} {ta tb : TE} {a b : XE} {h : XH} {e e1 e2 : Expr} {es : List Expr} {tA : TA} {A : XA}
theorem sx_new (hh : SH T X Wx e ta h) : SE T X Wx e ta (xNew h) := by
  refine ⟨hh.pe, fun μ σ ρ st H Q w s k => ?_⟩
  refine hh.ex μ σ ρ st H Q w s ?_
  unfold xNew at k
  cases q : h ρ st with
  | bad => rw [q] at k; exact k.elim
  | ex e st1 => rw [q] at k; exact k
  | ok vs st1 =>
    rw [q] at k
    intro D ws μ1 H1 h0 k1 w1 hD nD hv
    obtain ⟨k2, w2, v2⟩ := hid_cell w h0 k1 w1 hD nD hv
    exact k _ _ _ k2 w2 v2
/-! ### f(l), l a list -/
def ONL (g : G) (r : List V → Hp → VK → Prop) (f : List Val → Store → R Val) : Prop := ∀ (σ : Sg) (μ : List Addr) (st : Store) (H : Hp) (D : Addr) (ws : List V) (vs : List Val) (Q : VK), Wd g μ st H → H D = some (.lst ws) → VOks g H μ vs ws → kR g (fun _ _ _ _ => False) σ μ H (VOk g) Q (f vs st) → r [.ref D] H Q
def Calm1 (f : List Val → Store → R Val) : Prop := ∀ v st e st', f v st ≠ .ex e st'
def lsF (f : List Val → Store → R Val) : Val → Store → R Val := fun v st => match lsV st v with
  | some vs => f vs st
  | none => .bad
def xHF (f : List Val → Store → R Val) (h : XH) : XE := fun ρ st => (h ρ st).bind f
variable {r : List V → Hp → VK → Prop} {f : List Val → Store → R Val} {x : Str} {id Ty : String}
theorem ex_HF {g : G} (hf : ONL g r f) (hc : Calm1 f) (ha : HX g Wx ta h) : EX g Wx (tCB r (tCons ta tNil)) (xHF f h) := fun μ σ ρ st H Q w s k => by
  refine ha μ σ ρ st H _ w s ?_
  have z := kH.bind w k
  cases q : h ρ st with
  | bad => rw [q] at z; exact z
  | ex e st1 => rw [q] at z; exact z
  | ok vs st1 =>
    rw [q] at z
    intro D ws μ1 H1 h0 k1 w1 hD nD hv
    obtain ⟨vs', st1', μ1', D', ws', e1, e2, _, k2, w2, hD', nD', hv', z⟩ := z D ws μ1 H1 h0 k1 w1 hD nD hv
    cases e1; cases e2
    rw [hD] at hD'; cases hD'
    exact hf σ _ _ _ _ _ _ _ w2 hD hv' (z.W0 (hc _ _))
theorem sx_bH (hc : CallR X (.builtin id) r) (hf : ONL (gX T X) r f) (cf : Calm1 f) (hm : X.mg x = none) (hv : bootBuiltins x = some (.builtin id)) (ha : SH T X Wx e ta h) (hgl : Gl X x := by rfl) (hn : x ≠ "__name__" := by decide) (hdb : (x == ("__debug__" : Str)) = false := by decide)
    (he : starEach [e] X.env = (false, eval e X.env) :: starEach [] X.env := by rfl) (hpl : (backTo pos (starEach [] X.env)).any (·.1) = false := by rfl) : SE T X Wx (.Call (.Name x p') [e] [] pos) (tCB r (tCons ta tNil)) (xHF f h) :=
  ⟨pe_callB hc hgl hm hv (pa_cons ha.pe pa_nil he) hn hdb he hpl, ex_HF hf cf ha.ex⟩
theorem sx_tH (hc : CallR X (.type Ty) r) (hf : ONL (gX T X) r f) (cf : Calm1 f) (hm : X.mg x = none) (hv : bootBuiltins x = some (.type Ty)) (ha : SH T X Wx e ta h) (hgl : Gl X x := by rfl) (hn : x ≠ "__name__" := by decide) (hdb : (x == ("__debug__" : Str)) = false := by decide)
    (he : starEach [e] X.env = (false, eval e X.env) :: starEach [] X.env := by rfl) (hpl : (backTo pos (starEach [] X.env)).any (·.1) = false := by rfl) : SE T X Wx (.Call (.Name x p') [e] [] pos) (tCB r (tCons ta tNil)) (xHF f h) :=
  ⟨pe_callTy hc hgl hm hv (pa_cons ha.pe pa_nil he) hn hdb he hpl, ex_HF hf cf ha.ex⟩
/-! ### f(v), f(u, v), any values -/
def ON1 (g : G) (r : List V → Hp → VK → Prop) (f : Val → Store → R Val) : Prop := ∀ (σ : Sg) (μ : List Addr) (st : Store) (H : Hp) (v : Val) (u : V) (Q : VK), Wd g μ st H → VOk g H μ v u → kR g (fun _ _ _ _ => False) σ μ H (VOk g) Q (f v st) → r [u] H Q
def CalmV (f : Val → Store → R Val) : Prop := ∀ v st e st', f v st ≠ .ex e st'
variable {f1 : Val → Store → R Val} {f2 : Val → Val → Store → R Val}
theorem ex_1 {g : G} (hf : ON1 g r f1) (hc : CalmV f1) (ha : EX g Wx ta a) : EX g Wx (tCB r (tCons ta tNil)) (xUn f1 a) := fun μ σ ρ st H Q w s k => by
  refine ha μ σ ρ st H _ w s ((kR.bind k).mono fun _ _ u _ H1 _ _ _ _ z => ?_)
  obtain ⟨v, st1, μ1, _, k1, w1, r1, k2⟩ := z
  exact hf σ _ _ _ _ _ _ w1 r1 (k2.W0 (hc _ _))
theorem sx_b1 (hc : CallR X (.builtin id) r) (hf : ON1 (gX T X) r f1) (cf : CalmV f1) (hm : X.mg x = none) (hv : bootBuiltins x = some (.builtin id)) (ha : SE T X Wx e ta a) (hgl : Gl X x := by rfl) (hn : x ≠ "__name__" := by decide) (hdb : (x == ("__debug__" : Str)) = false := by decide)
    (he : starEach [e] X.env = (false, eval e X.env) :: starEach [] X.env := by rfl) (hpl : (backTo pos (starEach [] X.env)).any (·.1) = false := by rfl) : SE T X Wx (.Call (.Name x p') [e] [] pos) (tCB r (tCons ta tNil)) (xUn f1 a) :=
  ⟨pe_callB hc hgl hm hv (pa_cons ha.pe pa_nil he) hn hdb he hpl, ex_1 hf cf ha.ex⟩
theorem sx_t1 (hc : CallR X (.type Ty) r) (hf : ON1 (gX T X) r f1) (cf : CalmV f1) (hm : X.mg x = none) (hv : bootBuiltins x = some (.type Ty)) (ha : SE T X Wx e ta a) (hgl : Gl X x := by rfl) (hn : x ≠ "__name__" := by decide) (hdb : (x == ("__debug__" : Str)) = false := by decide)
    (he : starEach [e] X.env = (false, eval e X.env) :: starEach [] X.env := by rfl) (hpl : (backTo pos (starEach [] X.env)).any (·.1) = false := by rfl) : SE T X Wx (.Call (.Name x p') [e] [] pos) (tCB r (tCons ta tNil)) (xUn f1 a) :=
  ⟨pe_callTy hc hgl hm hv (pa_cons ha.pe pa_nil he) hn hdb he hpl, ex_1 hf cf ha.ex⟩
end
/-! ### the builtins -/
def seqV (st : Store) (v : Val) : Option (List Val) := match tupV v with
  | some vs => some vs
  | none => lsV st v
def fLen : Val → Store → R Val
  | .im (.str z), st => ifR (szOk (strLen z)) (.ok (.im (.int (strLen z : Nat))) st)
  | .im (.tup ds), st => .ok (.im (.int (ds.length : Nat))) st
  | .scr ns, st => .ok (.im (.int (ns.length : Nat))) st
  | v, st => match seqV st v with
    | some vs => .ok (.im (.int (vs.length : Nat))) st
    | none => .bad
def fAbs : Val → Store → R Val
  | .im (.int i), st => .ok (.im (.int (if intLt i 0 then -i else i))) st
  | _, _ => .bad
def fStr : Val → Store → R Val
  | .im (.int i), st => ifR (Nat.blt i.natAbs.log2 1920) (.ok (.im (.str (toString i))) st)
  | _, _ => .bad
def fInt : Val → Store → R Val
  | .im (.int i), st => .ok (.im (.int i)) st
  | .im (.bl b), st => .ok (.im (.int (if b then 1 else 0))) st
  | .im (.str z), st => ifR (Nat.ble (strLen z) 640) (match PySem.intText? z with
    | some n => .ok (.im (.int n)) st
    | none => .bad)
  | _, _ => .bad
def fTup (vs : List Val) (st : Store) : R Val := .ok (mkTup vs) st
def fTupV : Val → Store → R Val := fun v st => match v with
  | .im (.tup ds) => .ok (.im (.tup ds)) st
  | .tv vs => .ok (.tv vs) st
  | v => lsF fTup v st
def fList (vs : List Val) (st : Store) : R Val := .ok (.ob st.length) (st ++ [mkLst vs])
def fListV : Val → Store → R Val := fun v st => match v with
  | .scr ns => .ok (.ob st.length) (st ++ [.lst (ns.map .int)])
  | v => match seqV st v with
    | some vs => fList vs st
    | none => .bad
def allB : List Val → Option Bool
  | [] => some true
  | .im (.bl b) :: vs => (match allB vs with
    | some r => some (match b with
      | true => r
      | false => false)
    | none => none)
  | _ => none
def anyB : List Val → Option Bool
  | [] => some false
  | .im (.bl b) :: vs => (match anyB vs with
    | some r => some (match b with
      | true => true
      | false => r)
    | none => none)
  | _ => none
def blO : Option Bool → Store → R Val
  | some b, st => .ok (.im (.bl b)) st
  | none, _ => .bad
def fAll (vs : List Val) (st : Store) : R Val := blO (allB vs) st
def fAny (vs : List Val) (st : Store) : R Val := blO (anyB vs) st
section
variable {g : G} {Wx : WX} {σ : Sg} {μ μ' : List Addr} {st : Store} {H H' : Hp} {Q : VK}
theorem seqV_ok {v : Val} {u : V} {vs : List Val} (w : Wd g μ st H) (h : VOk g H μ v u) (e : seqV st v = some vs) : ∃ a ws, u = .ref a ∧ (SqL g.K H a ws ∨ SqT g.K H a ws) ∧ VOks g H μ vs ws := by
  unfold seqV at e
  split at e
  · rename_i us e1
    cases e
    obtain ⟨a, ws, rfl, h1, h2⟩ := tupV_ok h e1
    exact ⟨a, ws, rfl, .inr h1.t, h2⟩
  · obtain ⟨a, ws, rfl, h1, h2⟩ := lsV_ok w h e
    exact ⟨a, ws, rfl, .inl (SqL.of h1), h2⟩
theorem scr_seq (w : Wd g μ st H) : SqL g.K H g.T.sa (g.T.sn.map V.int) := by
  rcases w.sc with ⟨_, h⟩ | h
  · exact .inl h
  · exact .inr h
theorem on_len : ON1 g (rLenX g.K) fLen := fun σ μ st H v u Q w h k => by
  unfold fLen at k
  split at k
  · cases h
    obtain ⟨h1, k⟩ := ifR_of k
    exact ⟨_, _, rfl, ⟨szOk_le h1, rfl⟩, k_im w k rfl⟩
  · obtain ⟨a, ws, rfl, h1, h2⟩ := h
    exact ⟨_, ws.length, rfl, .inr ⟨ws, h1.t, rfl⟩, by rw [h2.length]; exact k_im w k rfl⟩
  · obtain ⟨rfl, rfl⟩ := h
    exact ⟨_, g.T.sn.length, rfl, .inl ⟨_, scr_seq w, by simp⟩, k_im w k rfl⟩
  · split at k
    · rename_i vs e
      obtain ⟨a, ws, rfl, h1, h2⟩ := seqV_ok w h e
      refine ⟨_, ws.length, rfl, ?_, by rw [h2.length]; exact k_im w k rfl⟩
      rcases h1 with h1 | h1
      · exact .inl ⟨ws, h1, rfl⟩
      · exact .inr ⟨ws, h1, rfl⟩
    · exact k.elim
theorem c_len : CalmV fLen := fun v st e st' z => by
  unfold fLen at z
  split at z
  · exact ifR_calm z
  · cases z
  · cases z
  · split at z <;> cases z
theorem on_abs : ON1 g (fun xs H Q => ∃ i, xs = [.int i] ∧ Q (.int (if i < 0 then -i else i)) H) fAbs := fun σ μ st H v u Q w h k => by
  unfold fAbs at k
  split at k
  · rename_i i
    cases h
    refine ⟨_, rfl, ?_⟩
    have : (if intLt i 0 = true then -i else i) = if i < 0 then -i else i := by rw [intLt_eq]; simp
    rw [this] at k
    exact k_im w k rfl
  · exact k.elim
theorem c_abs : CalmV fAbs := fun v st e st' z => by unfold fAbs at z; split at z <;> cases z
theorem on_str : ON1 g (fun xs H Q => ∃ i, xs = [.int i] ∧ i.natAbs.log2 < 1920 ∧ Q (.str (toString i)) H) fStr := fun σ μ st H v u Q w h k => by
  unfold fStr at k
  split at k
  · cases h
    obtain ⟨h1, k⟩ := ifR_of k
    exact ⟨_, rfl, blt_iff.mp h1, k_im w k rfl⟩
  · exact k.elim
theorem c_str : CalmV fStr := fun v st e st' z => by unfold fStr at z; split at z <;> first | exact ifR_calm z | cases z
theorem on_int : ON1 g rToI fInt := fun σ μ st H v u Q w h k => by
  unfold fInt at k
  split at k
  · cases h; exact .inl (.inl ⟨_, rfl, k_im w k rfl⟩)
  · cases h; exact .inl (.inr ⟨_, rfl, k_im w k rfl⟩)
  · cases h
    obtain ⟨h1, k⟩ := ifR_of k
    split at k
    · rename_i n e
      exact .inr ⟨_, n, rfl, e, Nat.le_of_ble_eq_true h1, k_im w k rfl⟩
    · exact k.elim
  · exact k.elim
theorem c_int : CalmV fInt := fun v st e st' z => by
  unfold fInt at z
  split at z
  · cases z
  · cases z
  · revert z
    cases Nat.ble _ 640 <;> intro z
    · cases z
    · simp only [ifR] at z; split at z <;> cases z
  · cases z
theorem on_tup : ONL g (rTupOf g.K) fTup := fun σ μ st H D ws vs Q w hD hv k => ⟨D, ws, rfl, .inl ⟨SqL.of hD, k_tup w hv k⟩⟩
theorem c_tup : Calm1 fTup := fun v st e st' z => by cases z
theorem on_tupV : ON1 g (rTupOf g.K) fTupV := fun σ μ st H v u Q w h k => by
  unfold fTupV at k
  split at k
  · obtain ⟨a, ws, rfl, h1, h2⟩ := h
    exact ⟨a, ws, rfl, .inr ⟨h1.t, k_im w k ⟨a, ws, rfl, h1, h2⟩⟩⟩
  · obtain ⟨a, ws, rfl, h1, h2⟩ := h
    exact ⟨a, ws, rfl, .inr ⟨h1.t, k_val w (show VOk g H μ (.tv _) _ from ⟨a, ws, rfl, h1, h2⟩) k⟩⟩
  · unfold lsF at k
    split at k
    · rename_i vs e
      obtain ⟨D, ws, rfl, h1, h2⟩ := lsV_ok w h e
      exact on_tup σ μ st H D ws vs Q w h1 h2 k
    · exact k.elim
theorem c_tupV : CalmV fTupV := fun v st e st' z => by
  unfold fTupV at z
  split at z
  · cases z
  · cases z
  · unfold lsF at z; split at z <;> cases z
theorem on_listV : ON1 g (fun xs H Q => ∃ p ys, xs = [V.ref p] ∧ (SqL g.K H p ys ∨ SqT g.K H p ys) ∧ ∀ l, H l = none → Q (.ref l) (upd H l (.lst ys))) fListV := fun σ μ st H v u Q w h k => by
  unfold fListV at k
  split at k
  · obtain ⟨rfl, rfl⟩ := h
    exact ⟨_, _, rfl, .inl (scr_seq w), k_lstD w (imms_ints _) k⟩
  · split at k
    · rename_i vs e
      obtain ⟨a, ws, rfl, h1, h2⟩ := seqV_ok w h e
      exact ⟨a, ws, rfl, h1, k_lst w h2 k⟩
    · exact k.elim
theorem c_listV : CalmV fListV := fun v st e st' z => by
  unfold fListV at z
  split at z
  · cases z
  · split at z <;> cases z
theorem allB_ok : ∀ {vs : List Val} {ws : List V} {b : Bool}, allB vs = some b → VOks g H μ vs ws → ∃ bs : List Bool, ws = bs.map V.bl ∧ bs.all id = b
  | [], ws, b, e, h => by cases e; exact ⟨[], h, rfl⟩
  | .im (.bl c) :: vs, ws, b, e, h => by
    simp only [allB] at e
    split at e
    · rename_i r er
      obtain ⟨u, us, rfl, h1, h2⟩ := h
      obtain ⟨bs, rfl, hb⟩ := allB_ok er h2
      cases h1
      refine ⟨c :: bs, rfl, ?_⟩
      cases e
      rw [List.all_cons, hb]
      cases c <;> rfl
    · cases e
  | .im .non :: vs, _, _, e, _ => by cases e
  | .im (.int _) :: vs, _, _, e, _ => by cases e
  | .im (.str _) :: vs, _, _, e, _ => by cases e
  | .im (.ref _) :: vs, _, _, e, _ => by cases e
  | .im (.tup _) :: vs, _, _, e, _ => by cases e
  | .ob i :: vs, _, _, e, _ => by cases e
  | .tv i :: vs, _, _, e, _ => by cases e
  | .scr i :: vs, _, _, e, _ => by cases e
  | .fn i :: vs, _, _, e, _ => by cases e
theorem anyB_ok : ∀ {vs : List Val} {ws : List V} {b : Bool}, anyB vs = some b → VOks g H μ vs ws → ∃ bs : List Bool, ws = bs.map V.bl ∧ bs.any id = b
  | [], ws, b, e, h => by cases e; exact ⟨[], h, rfl⟩
  | .im (.bl c) :: vs, ws, b, e, h => by
    simp only [anyB] at e
    split at e
    · rename_i r er
      obtain ⟨u, us, rfl, h1, h2⟩ := h
      obtain ⟨bs, rfl, hb⟩ := anyB_ok er h2
      cases h1
      refine ⟨c :: bs, rfl, ?_⟩
      cases e
      rw [List.any_cons, hb]
      cases c <;> rfl
    · cases e
  | .im .non :: vs, _, _, e, _ => by cases e
  | .im (.int _) :: vs, _, _, e, _ => by cases e
  | .im (.str _) :: vs, _, _, e, _ => by cases e
  | .im (.ref _) :: vs, _, _, e, _ => by cases e
  | .im (.tup _) :: vs, _, _, e, _ => by cases e
  | .ob i :: vs, _, _, e, _ => by cases e
  | .tv i :: vs, _, _, e, _ => by cases e
  | .scr i :: vs, _, _, e, _ => by cases e
  | .fn i :: vs, _, _, e, _ => by cases e
theorem on_all : ONL g (rAll g.K) fAll := fun σ μ st H D ws vs Q w hD hv k => by
  unfold fAll at k
  cases q : allB vs with
  | none => rw [q] at k; exact k.elim
  | some b =>
    rw [q] at k
    obtain ⟨bs, rfl, rfl⟩ := allB_ok q hv
    exact ⟨D, bs, rfl, SqL.of hD, k_im w k rfl⟩
theorem on_any : ONL g (rAny g.K) fAny := fun σ μ st H D ws vs Q w hD hv k => by
  unfold fAny at k
  cases q : anyB vs with
  | none => rw [q] at k; exact k.elim
  | some b =>
    rw [q] at k
    obtain ⟨bs, rfl, rfl⟩ := anyB_ok q hv
    exact ⟨D, bs, rfl, SqL.of hD, k_im w k rfl⟩
theorem blO_calm {o : Option Bool} {st st' : Store} {e : Exn} : blO o st ≠ .ex e st' := by cases o <;> exact fun z => by cases z
theorem c_all : Calm1 fAll := fun v st e st' => blO_calm
theorem c_any : Calm1 fAny := fun v st e st' => blO_calm
end
end SX
/-! SX: isinstance, membership, dicts, stores, methods of lists and texts. -/
namespace SX
open PySem PySem.Spec PyProof.Rows L2 PL
open PL (Dt Imm Imms SqN Tups)
/-! ### isinstance -/
def xIsi (f : Dt → Bool) (a : XE) : XE := fun ρ st => (a ρ st).bind fun v st => match v with
  | .im (.ref _) => .bad
  | .im d => .ok (.im (.bl (f d))) st
  | .tv _ => .ok (.im (.bl (f (.tup [])))) st
  | _ => .bad
theorem sqn_ty {K : PySem.W.Frag} {H : Hp} {x : Addr} {ws : List V} (h1 : SqN K H x ws) : TyX K H (.ref x) (.type "tuple") := by
  rcases h1 with ⟨o, _, h1⟩ | ⟨o, its, n, g1, g2, _, g3, _⟩
  · exact .fTuple h1
  · exact .kTuple g1 g2
section
variable {T : Tb} {X : Cx} {Wx : WX} {pos p' : Pos} {ta tb : TE} {a b : XE} {h : XH} {e e1 e2 : Expr} {es : List Expr} {tA : TA} {A : XA}
theorem sx_isi {Ty : String} {x : Str} {p1 p2 : Pos} {f : Dt → Bool} (kb : ∀ {d : Dt}, (∀ a, d ≠ .ref a) → kitB (tyN d) Ty = some (f d)) (hm : X.mg "isinstance" = none) (hmt : X.mg x = none) (hv : bootBuiltins x = some (.type Ty)) (h : SE T X Wx e ta a) (hgl : Gl X "isinstance" := by rfl) (hgt : Gl X x := by rfl) (hn : x ≠ "__name__" := by decide) (hdb : (x == ("__debug__" : Str)) = false := by decide)
    (he : starEach [e, .Name x p2] X.env = (false, eval e X.env) :: starEach [.Name x p2] X.env := by rfl) (he2 : starEach [.Name x p2] X.env = (false, eval (.Name x p2) X.env) :: starEach [] X.env := by rfl) (hpl : (backTo pos (starEach [.Name x p2] X.env)).any (·.1) = false := by rfl) :
    SE T X Wx (.Call (.Name "isinstance" p1) [e, .Name x p2] [] pos) (tCB (rIsi X.K) (tCons ta (tCons (tC (.ty Ty)) tNil))) (xIsi f a) := by
  refine ⟨pe_callB call_isi hgl hm boot_isinstance (pa_cons h.pe (pa_cons (pe_bltn hgt hmt hv rfl hn hdb) pa_nil he2) he) (by decide) (by decide) he hpl, fun μ σ ρ st H Q w s k => ?_⟩
  refine h.ex μ σ ρ st H _ w s ((kR.bind k).mono fun _ _ u _ H1 _ _ _ _ z => ?_)
  obtain ⟨v, st1, μ1, _, k1, w1, r1, k2⟩ := z
  split at k2
  · exact k2.elim
  · rename_i d hnr _
    have r1 : Imm X.K H1 d u := r1
    have hnr' : ∀ a, d ≠ .ref a := fun a z => hnr a (by rw [z])
    exact ⟨u, .ty Ty, .type (tyN d), .type Ty, f d, rfl, .ty Ty, r1.ty hnr', kit_ty (kb hnr'), k_im w1 k2 rfl⟩
  · rename_i vs
    obtain ⟨x, ws, rfl, h1, h2⟩ := r1
    have hnr' : ∀ a, Dt.tup [] ≠ .ref a := fun a z => by cases z
    have hty : TyX X.K H1 (.ref x) (.type "tuple") := sqn_ty h1
    exact ⟨.ref x, .ty Ty, .type "tuple", .type Ty, f (.tup []), rfl, .ty Ty, hty, kit_ty (kb hnr'), k_im w1 k2 rfl⟩
  · exact k2.elim
end
/-! ### keys -/
def kEq : Key → Key → Bool
  | .inl a, .inl b => intEq a b
  | .inr a, .inr b => strEq a b
  | _, _ => false
theorem kEq_eq (a b : Key) : kEq a b = decide (a = b) := by
  cases a <;> cases b <;> simp [kEq, intEq_eq, strEq_eq]
section
variable {κ : Type}
def dG (eq : κ → κ → Bool) : List (κ × Val) → κ → Option Val
  | [], _ => none
  | (k', v) :: r, k => if eq k' k then some v else dG eq r k
def dHas (eq : κ → κ → Bool) : List (κ × Val) → κ → Bool
  | [], _ => false
  | (k', v) :: r, k => if eq k' k then true else dHas eq r k
def dRep (eq : κ → κ → Bool) (k : κ) (v : Val) : List (κ × Val) → List (κ × Val)
  | [] => []
  | (k', v') :: r => if eq k' k then (k', v) :: dRep eq k v r else (k', v') :: dRep eq k v r
def dPut (eq : κ → κ → Bool) (kvs : List (κ × Val)) (k : κ) (v : Val) : List (κ × Val) := if dHas eq kvs k then dRep eq k v kvs else kvs ++ [(k, v)]
end
section
variable {g : G} {Wx : WX} {σ : Sg} {μ μ' : List Addr} {st : Store} {H H' : Hp} {Q : VK} {κ : Type} [DecidableEq κ]
/-- a dict's items and what stands for them -/
def VD (g : G) (H : Hp) (μ : List Addr) (kvs : List (κ × Val)) (ks : List (κ × V)) : Prop := ks.map (·.1) = kvs.map (·.1) ∧ VOks g H μ (kvs.map (·.2)) (ks.map (·.2))
theorem VD.nil : VD g H μ ([] : List (κ × Val)) [] := ⟨rfl, VOks.nil⟩
theorem VD.nil_of {ks : List (κ × V)} (h : VD g H μ [] ks) : ks = [] := by
  have := congrArg List.length h.1
  exact List.eq_nil_of_length_eq_zero (by simpa using this)
theorem VD.uncons {k : κ} {d : Val} {r : List (κ × Val)} {ks : List (κ × V)} (h : VD g H μ ((k, d) :: r) ks) : ∃ v t, ks = (k, v) :: t ∧ VOk g H μ d v ∧ VD g H μ r t := by
  obtain ⟨h1, h2⟩ := h
  cases ks with
  | nil => cases h1
  | cons p t =>
    obtain ⟨k', v⟩ := p
    obtain ⟨w, ws, e, i1, i2⟩ := h2
    simp only [List.map_cons, List.cons.injEq] at h1 e
    obtain ⟨rfl, h1⟩ := h1
    obtain ⟨rfl, rfl⟩ := e
    exact ⟨v, t, rfl, i1, h1, i2⟩
theorem VD.cons {k : κ} {d : Val} {v : V} {r : List (κ × Val)} {t : List (κ × V)} (i : VOk g H μ d v) (h : VD g H μ r t) : VD g H μ ((k, d) :: r) ((k, v) :: t) := by
  refine ⟨?_, VOks.cons i h.2⟩
  rw [List.map_cons, List.map_cons, h.1]
theorem VD.length {kvs : List (κ × Val)} {ks : List (κ × V)} (h : VD g H μ kvs ks) : ks.length = kvs.length := by
  have := congrArg List.length h.1
  simpa using this
theorem VD.snoc {kvs : List (κ × Val)} {ks : List (κ × V)} {k : κ} {d : Val} {v : V} (h : VD g H μ kvs ks) (hv : VOk g H μ d v) : VD g H μ (kvs ++ [(k, d)]) (ks ++ [(k, v)]) := by
  refine ⟨by rw [List.map_append, List.map_append, h.1]; rfl, ?_⟩
  rw [List.map_append, List.map_append]
  exact h.2.append (VOks.cons hv VOks.nil)
variable {eq : κ → κ → Bool}
theorem VD.get (k : κ) : ∀ {kvs : List (κ × Val)} {ks : List (κ × V)}, (∀ kv ∈ kvs, eq kv.1 k = decide (kv.1 = k)) → VD g H μ kvs ks → (dG eq kvs k = none → valV ks k = none) ∧ ∀ d, dG eq kvs k = some d → ∃ v, valV ks k = some v ∧ VOk g H μ d v
  | [], ks, _, h => by
    rw [h.nil_of]
    exact ⟨fun _ => rfl, fun d e => by cases e⟩
  | (k', d') :: r, _, he, h => by
    obtain ⟨v, t, rfl, i1, h2⟩ := h.uncons
    have ih := VD.get k (fun kv hk => he kv (List.mem_cons_of_mem _ hk)) h2
    have h0 := he (k', d') List.mem_cons_self
    by_cases e : k' = k
    · have e1 : dG eq ((k', d') :: r) k = some d' := by rw [dG, if_pos (by rw [h0]; simpa using e)]
      rw [e1, valV_pos (p := (k', v)) e]
      exact ⟨fun z => (by cases z), fun d z => (by cases z; exact ⟨v, rfl, i1⟩)⟩
    · have e1 : dG eq ((k', d') :: r) k = dG eq r k := by rw [dG, if_neg (by rw [h0]; simpa using e)]
      rw [e1, valV_neg (p := (k', v)) e]
      exact ih
theorem VD.has (k : κ) : ∀ {kvs : List (κ × Val)} {ks : List (κ × V)}, (∀ kv ∈ kvs, eq kv.1 k = decide (kv.1 = k)) → VD g H μ kvs ks → (ks.any fun kv => decide (kv.1 = k)) = dHas eq kvs k
  | [], ks, _, h => by rw [h.nil_of]; rfl
  | (k', d') :: r, _, he, h => by
    obtain ⟨v, t, rfl, i1, h2⟩ := h.uncons
    have h0 := he (k', d') List.mem_cons_self
    rw [List.any_cons, VD.has k (fun kv hk => he kv (List.mem_cons_of_mem _ hk)) h2, dHas, h0]
    by_cases e : k' = k <;> simp [e]
theorem VD.rep (k : κ) {d : Val} {v : V} (hv : VOk g H μ d v) : ∀ {kvs : List (κ × Val)} {ks : List (κ × V)}, (∀ kv ∈ kvs, eq kv.1 k = decide (kv.1 = k)) → VD g H μ kvs ks → VD g H μ (dRep eq k d kvs) (ks.map fun kv => if kv.1 = k then (kv.1, v) else kv)
  | [], ks, _, h => by rw [h.nil_of]; exact VD.nil
  | (k', d') :: r, _, he, h => by
    obtain ⟨w, t, rfl, i1, h2⟩ := h.uncons
    have h0 := he (k', d') List.mem_cons_self
    have ih := VD.rep k hv (fun kv hk => he kv (List.mem_cons_of_mem _ hk)) h2
    rw [List.map_cons, dRep, h0]
    by_cases e : k' = k
    · rw [if_pos (by simpa using e)]
      simp only [e, if_true]
      exact VD.cons hv ih
    · rw [if_neg (by simpa using e)]
      simp only [e, if_false]
      exact VD.cons i1 ih
theorem VD.put (k : κ) {d : Val} {v : V} (hv : VOk g H μ d v) {kvs : List (κ × Val)} {ks : List (κ × V)} (he : ∀ kv ∈ kvs, eq kv.1 k = decide (kv.1 = k)) (h : VD g H μ kvs ks) : VD g H μ (dPut eq kvs k d) (putK ks k v) := by
  unfold dPut putK
  rw [h.has (eq := eq) k he]
  split
  · exact h.rep k hv he
  · exact h.snoc hv
theorem VD.keep {kvs : List (κ × Val)} {ks : List (κ × V)} (k : Keep μ H μ' H') (h : VD g H μ kvs ks) : VD g H' μ' kvs ks := ⟨h.1, h.2.keep k⟩
end
def keyD : Dt → Option Key
  | .int i => some (.inl i)
  | .str x => some (.inr x)
  | _ => none
theorem keyD_v {K : PySem.W.Frag} {H : Hp} {d : Dt} {v : V} {k : Key} (h : Imm K H d v) (e : keyD d = some k) : v = kV k := by
  cases d with
  | int i => cases e; exact h
  | str x => cases e; exact h
  | _ => cases e
def dctV (st : Store) : Val → Option (List (Key × Val))
  | .ob i => (match st[i]? with
    | some (.dct kvs) => some kvs
    | _ => none)
  | _ => none
theorem dctV_ok {g : G} {μ : List Addr} {st : Store} {H : Hp} {v : Val} {u : V} {kvs : List (Key × Val)} (w : Wd g μ st H) (h : VOk g H μ v u) (e : dctV st v = some kvs) : ∃ i a ks, v = .ob i ∧ μ[i]? = some a ∧ st[i]? = some (.dct kvs) ∧ u = .ref a ∧ H a = some (.dK ks) ∧ VD g H μ kvs ks := by
  cases v with
  | ob i =>
    obtain ⟨a, ha, rfl⟩ := h
    simp only [dctV] at e
    split at e
    · rename_i kvs' hs
      cases e
      obtain ⟨ks, h1, h2, h3⟩ := w.ok i a _ ha hs
      exact ⟨i, a, ks, rfl, ha, hs, rfl, h1, h2, h3⟩
    · cases e
  | _ => cases e
/-! ### d[k], also of what is no dict -/
def oIxA : Val → Val → Store → R Val := fun u v st => match u, v with
  | .ob i, .im d => (match st[i]? with
    | some (.dct kvs) => (match keyD d with
      | some k => (match dG kEq kvs k with
        | some z => .ok z st
        | none => .bad)
      | none => .bad)
    | _ => oIx u v st)
  | _, _ => oIx u v st
/-- membership -/
def eqF : Dt → Dt → Bool
  | .int a, .int b => intEq a b
  | .str a, .str b => strEq a b
  | a, b => eqDt a b
theorem eqF_eq (a b : Dt) : eqF a b = eqDt a b := by
  cases a <;> cases b <;> simp [eqF, eqDt, intEq_eq, strEq_eq] <;> (rw [Bool.eq_iff_iff]; simp)
def anyF (d : Dt) : List Dt → Bool
  | [] => false
  | e :: ds => if eqF e d then true else anyF d ds
def flatF : List Dt → Bool
  | [] => true
  | d :: ds => flatD d && flatF ds
theorem anyF_eq (d : Dt) : ∀ ds : List Dt, anyF d ds = ds.any fun e => eqDt e d
  | [] => rfl
  | e :: ds => by rw [anyF, eqF_eq, anyF_eq d ds, List.any_cons]; cases eqDt e d <;> rfl
theorem flatF_eq : ∀ ds : List Dt, flatF ds = ds.all flatD
  | [] => rfl
  | e :: ds => by rw [flatF, flatF_eq ds, List.all_cons]
def memNat (c : Nat) : List Nat → Bool
  | [] => false
  | d :: l => if Nat.beq c d then true else memNat c l
theorem memNat_eq (c : Nat) : ∀ l : List Nat, memNat c l = decide (c ∈ l)
  | [] => by simp [memNat]
  | d :: l => by
    rw [memNat, memNat_eq c l]
    by_cases h : c = d
    · subst h; simp
    · rw [if_neg (by rw [Nat.beq_eq]; exact h)]; simp [h]
def ngB (neg : Bool) (b : Bool) : Bool := match neg with
  | true => !b
  | false => b
def oIn (neg : Bool) : Val → Val → Store → R Val := fun u v st => match u with
  | .im d => (match v with
    | .im (.str z) => (match d with
      | .str x => (match x.cps.toList with
        | [c] => .ok (.im (.bl (ngB neg (memNat c z.cps.toList)))) st
        | _ => .bad)
      | _ => .bad)
    | .im (.tup ds) => ifR (flatD d && flatF ds) (.ok (.im (.bl (ngB neg (anyF d ds)))) st)
    | .ob i => (match st[i]? with
      | some (.lst ds) => ifR (flatD d && flatF ds) (.ok (.im (.bl (ngB neg (anyF d ds)))) st)
      | some (.dct kvs) => (match keyD d with
        | some k => .ok (.im (.bl (ngB neg (dHas kEq kvs k)))) st
        | none => .bad)
      | _ => .bad)
    | _ => .bad)
  | _ => .bad
section
variable {g : G} {Wx : WX} {σ : Sg} {μ μ' : List Addr} {st : Store} {H H' : Hp} {Q : VK}
theorem c_ixA : Calm oIxA := fun u v st e st' z => by
  unfold oIxA at z
  split at z
  · split at z
    · split at z
      · split at z <;> cases z
      · cases z
    · exact c_ix _ _ _ _ _ z
  · exact c_ix _ _ _ _ _ z
theorem o_ixA : O2 g (rIxA g.K) oIxA := fun σ μ st H a b u v Q w ha hb k => by
  unfold oIxA at k
  split at k
  · rename_i i d
    split at k
    · rename_i kvs hs
      split at k
      · rename_i key hk
        obtain ⟨i', x, ks, e0, hx, _, rfl, h1, h2⟩ := dctV_ok (kvs := kvs) w ha (by simp only [dctV, hs])
        cases e0
        split at k
        · rename_i z hz
          obtain ⟨u, e1, e2⟩ := (h2.get (eq := kEq) key (fun kv _ => kEq_eq _ _)).2 z hz
          refine .inr ⟨x, u, rfl, ?_, k_val w e2 k⟩
          rw [keyD_v hb hk, ← e1]
          exact DGet.k h1
        · exact k.elim
      · exact k.elim
    · exact .inl (o_ix σ μ st H _ _ u v Q w ha hb k)
  · exact .inl (o_ix σ μ st H _ _ u v Q w ha hb k)
theorem c_in {neg} : Calm (oIn neg) := fun u v st e st' z => by
  unfold oIn at z
  repeat' split at z
  all_goals first
    | exact ifR_calm z
    | cases z
theorem ngB_if (neg b : Bool) : ngB neg b = if neg = true then !b else b := by cases neg <;> rfl
theorem o_in (neg : Bool) : O2 g (rInA g.K neg) (oIn neg) := fun σ μ st H a b u v Q w ha hb k => by
  unfold oIn at k
  split at k
  · rename_i d
    have hd : Imm g.K H d u := ha
    split at k
    · rename_i z
      cases hb
      split at k
      · rename_i x
        cases hd
        split at k
        · rename_i c hc
          rw [ngB_if, memNat_eq] at k
          have : x = ⟨#[c]⟩ := by
            obtain ⟨⟨l⟩⟩ := x
            have hc : l = [c] := hc
            subst hc; rfl
          subst this
          exact .inl ⟨c, z, rfl, rfl, k_im w k rfl⟩
        · exact k.elim
      · exact k.elim
    · rename_i ds
      obtain ⟨x, ws, rfl, h3, h4⟩ := hb
      obtain ⟨h1, k⟩ := ifR_of k
      rw [Bool.and_eq_true, flatF_eq] at h1
      rw [ngB_if, anyF_eq] at k
      exact .inr (.inl ⟨x, ws, rfl, .inr h3.t, flat_v hd h1.1, flats_v h4 h1.2, by rw [in_v hd h1.1 h4 h1.2]; exact k_im w k rfl⟩)
    · rename_i i
      split at k
      · rename_i ds hs
        obtain ⟨x, hx, rfl⟩ := hb
        obtain ⟨ws, h3, h4⟩ := w.ok _ _ _ hx hs
        obtain ⟨h1, k⟩ := ifR_of k
        rw [Bool.and_eq_true, flatF_eq] at h1
        rw [ngB_if, anyF_eq] at k
        exact .inr (.inl ⟨x, ws, rfl, .inl (SqL.of h3), flat_v hd h1.1, flats_v h4 h1.2, by rw [in_v hd h1.1 h4 h1.2]; exact k_im w k rfl⟩)
      · rename_i kvs hs
        split at k
        · rename_i key hk
          obtain ⟨i', x, ks, e0, hx, _, rfl, h1, h2⟩ := dctV_ok (kvs := kvs) w hb (by simp only [dctV, hs])
          rw [ngB_if] at k
          have e0 : (valV ks key).isSome = dHas kEq kvs key := by rw [← valV_any, h2.has (eq := kEq) key (fun kv _ => kEq_eq _ _)]
          refine .inr (.inr ⟨x, valV ks key, rfl, ?_, by rw [e0]; exact k_im w k rfl⟩)
          rw [keyD_v hd hk]
          exact DGet.k h1
        · exact k.elim
      · exact k.elim
    · exact k.elim
  · exact k.elim
end
end SX
/-! SX: dicts by ints and texts, stores, methods of lists and texts. -/
namespace SX
open PySem PySem.Spec PyProof.Rows L2 PL
open PL (Dt Imm Imms SqN Tups)
def mergeX : List (Key × Val) → List (Key × Val) → List (Key × Val)
  | kvs, [] => kvs
  | kvs, (k, v) :: more => mergeX (dPut kEq kvs k v) more
def pairV : Val → Option (Key × Val)
  | .im (.tup [k, d]) => (match keyD k with
    | some q => some (q, .im d)
    | none => none)
  | .tv [.im k, v] => (match keyD k with
    | some q => some (q, v)
    | none => none)
  | _ => none
def pairsV : List Val → Option (List (Key × Val))
  | [] => some []
  | v :: vs => (match pairV v with
    | some p => (match pairsV vs with
      | some ps => some (p :: ps)
      | none => none)
    | none => none)
def fDict (vs : List Val) (st : Store) : R Val := match pairsV vs with
  | some ps => .ok (.ob st.length) (st ++ [.dct (mergeX [] ps)])
  | none => .bad
section
variable {g : G} {Wx : WX} {σ : Sg} {μ μ' : List Addr} {st : Store} {H H' : Hp} {Q : VK}
theorem VD.merge : ∀ {more : List (Key × Val)} {ks : List (Key × V)} {kvs : List (Key × Val)} {ls : List (Key × V)}, VD g H μ more ks → VD g H μ kvs ls → VD g H μ (mergeX kvs more) (mergeK ls ks)
  | [], ks, kvs, ls, h, z => by rw [h.nil_of]; exact z
  | (k, d) :: more, ks, kvs, ls, h, z => by
    obtain ⟨v, t, rfl, i, h2⟩ := h.uncons
    show VD g H μ (mergeX (dPut kEq kvs k d) more) (mergeK (putK ls k v) t)
    exact VD.merge h2 (z.put k i fun kv _ => kEq_eq _ _)
theorem pairV_ok {v : Val} {u : V} {k : Key} {d : Val} (e : pairV v = some (k, d)) (h : VOk g H μ v u) : ∃ p y, u = .ref p ∧ SqT g.K H p [kV k, y] ∧ VOk g H μ d y := by
  unfold pairV at e
  split at e
  · split at e
    · rename_i q hq
      cases e
      obtain ⟨a, ws, rfl, h1, x, xs, rfl, hx, h2⟩ := h
      obtain ⟨y, rfl, hy⟩ := PL.Imms.inj1 h2
      rw [keyD_v hx hq] at h1
      exact ⟨a, y, rfl, h1.t, hy⟩
    · cases e
  · split at e
    · rename_i q hq
      cases e
      obtain ⟨a, ws, rfl, h1, x, xs, rfl, hx, h2⟩ := h
      obtain ⟨y, rfl, hy⟩ := h2.one
      rw [keyD_v hx hq] at h1
      exact ⟨a, y, rfl, h1.t, hy⟩
    · cases e
  · cases e
theorem pairsV_ok : ∀ {vs : List Val} {ws : List V} {ps : List (Key × Val)}, pairsV vs = some ps → VOks g H μ vs ws → ∃ (as : List Addr) (ks : List (Key × V)), ws = as.map V.ref ∧ VD g H μ ps ks ∧ Paired (fun p kv => SqT g.K H p [kV kv.1, kv.2]) as ks
  | [], ws, ps, e, h => by cases e; exact ⟨[], [], h, VD.nil, .nil⟩
  | v :: vs, ws, ps, e, h => by
    simp only [pairsV] at e
    split at e
    · rename_i p hp
      split at e
      · rename_i ps' hps
        cases e
        obtain ⟨u, us, rfl, h1, h2⟩ := h
        obtain ⟨as, ks, rfl, z1, z2⟩ := pairsV_ok hps h2
        obtain ⟨a, y, rfl, z3, z4⟩ := pairV_ok hp h1
        exact ⟨a :: as, (p.1, y) :: ks, rfl, VD.cons z4 z1, .cons z3 z2⟩
      · cases e
    · cases e
theorem dict_new {ps : List (Key × Val)} {ks : List (Key × V)} (w : Wd g μ st H) (h : VD g H μ ps ks) (k : kR g Wx σ μ H (VOk g) Q (.ok (.ob st.length) (st ++ [.dct ps]))) : ∀ p, H p = none → Q (.ref p) (upd H p (.dK ks)) := fun p hp => by
  obtain ⟨k1, w1, v1⟩ := w.alloc (o := .dK ks) (c := .dct ps) hp fun kk => ⟨ks, upd_same, h.1, h.2.keep kk⟩
  exact k _ _ _ k1 w1 v1
theorem on_dict : ONL g (rDictOf g.K) fDict := fun σ μ st H D ws vs Q w hD hv k => by
  unfold fDict at k
  split at k
  · rename_i ps e
    obtain ⟨as, ks, rfl, h1, h2⟩ := pairsV_ok e hv
    exact ⟨D, as, ks, rfl, .inl (SqL.of hD), h2, dict_new w (h1.merge VD.nil) k⟩
  · exact k.elim
theorem c_dict : Calm1 fDict := fun v st e st' z => by unfold fDict at z; split at z <;> cases z
end
/-! ### x[i] = v -/
def sSet : Val → Val → Val → Store → Option Store := fun v o i st => match o, i with
  | .ob j, .im d => (match st[j]? with
    | some (.lst ds) => (match d with
      | .int z => (match nth ds.length z with
        | some q => (match v with
          | .im e => some (st.set j (.lst (ds.set q e)))
          | _ => some (st.set j (.lsv ((ds.map .im).set q v))))
        | none => none)
      | _ => none)
    | some (.lsv vs) => (match d with
      | .int z => (match nth vs.length z with
        | some q => some (st.set j (.lsv (vs.set q v)))
        | none => none)
      | _ => none)
    | some (.dct kvs) => (match keyD d with
      | some k => if Nat.blt kvs.length 16777216 then some (st.set j (.dct (dPut kEq kvs k v))) else none
      | none => none)
    | _ => none)
  | _, _ => none
def xSetI (a o i : XE) : XS := fun ρ st => (a ρ st).toO ρ fun v st => (o ρ st).toO ρ fun u st => (i ρ st).toO ρ fun k st => match sSet v u k st with
  | some st' => .nx ρ st'
  | none => .bad
section
variable {g : G} {Wx : WX} {σ : Sg} {μ μ' : List Addr} {st : Store} {H H' : Hp} {Q : VK}
theorem sSet_ok {v o i : Val} {x y z : V} {st' : Store} {Qh : Hp → Prop} (w : Wd g μ st H) (hv : VOk g H μ v x) (ho : VOk g H μ o y) (hi : VOk g H μ i z) (e : sSet v o i st = some st') (q : ∀ H', Keep μ H μ H' → Wd g μ st' H' → Qh H') : rSetA y z x H Qh := by
  unfold sSet at e
  split at e
  · rename_i j d
    obtain ⟨p, hp, rfl⟩ := ho
    have hd : Imm g.K H d z := hi
    have lst : ∀ {ws : List V} {c c' : Cl} {n : Nat} {jj : Nat} {zz : Int}, d = .int zz → st[j]? = some c → H p = some (.lst ws) → ws.length = n → nth n zz = some jj → st' = st.set j c' → (∀ kk : Keep μ H μ (upd H p (.lst (ws.set jj x))), COk g (upd H p (.lst (ws.set jj x))) μ c' p) → rSetA (.ref p) z x H Qh := fun {ws c c' n jj zz} hd' hs h1 hn hj e2 hc => by
      subst hd'; subst e2
      cases hd
      obtain ⟨k1, w1⟩ := w.write (o := .lst (ws.set jj x)) (c' := c') hp hs hc
      exact .inl ⟨p, ws, zz, jj, rfl, rfl, h1, by rw [hn, ← nth_eq]; exact hj, q _ k1 w1⟩
    split at e
    · rename_i ds hs
      obtain ⟨ws, h1, h2⟩ := w.ok _ _ _ hp hs
      split at e
      · rename_i zz
        split at e
        · rename_i jj hj
          split at e
          · cases e
            exact lst rfl hs h1 h2.length hj rfl fun kk => ⟨_, upd_same, PL.Imms.set (hv.keep kk) _ (h2.mono kk.tups)⟩
          · cases e
            exact lst rfl hs h1 h2.length hj rfl fun kk => ⟨_, upd_same, VOks.set (hv.keep kk) _ ((VOks.im.mpr h2).keep kk)⟩
        · cases e
      · cases e
    · rename_i vs hs
      obtain ⟨ws, h1, h2⟩ := w.ok _ _ _ hp hs
      split at e
      · rename_i zz
        split at e
        · rename_i jj hj
          cases e
          exact lst rfl hs h1 h2.length hj rfl fun kk => ⟨_, upd_same, VOks.set (hv.keep kk) _ (h2.keep kk)⟩
        · cases e
      · cases e
    · rename_i kvs hs
      split at e
      · rename_i key hk
        split at e
        · rename_i hl
          cases e
          obtain ⟨ks, h1, h2, h3⟩ := w.ok _ _ _ hp hs
          have vd : VD g H μ kvs ks := ⟨h2, h3⟩
          obtain ⟨k1, w1⟩ := w.write (o := .dK (putK ks key x)) (c' := .dct (dPut kEq kvs key v)) hp hs fun kk => by
            have z := (vd.put (eq := kEq) key hv fun kv _ => kEq_eq _ _).keep kk
            exact ⟨_, upd_same, z.1, z.2⟩
          refine .inr ⟨p, _, rfl, ?_, q _ k1 w1⟩
          rw [keyD_v hd hk]
          exact DPut.k h1 (by rw [vd.length, sizeLine_eq]; exact blt_iff.mp hl)
        · cases e
      · cases e
    · cases e
  · cases e
end
section
variable {T : Tb} {X : Cx} {Wx : WX} {pos p' : Pos} {ta to ti tz : TE} {a xo xi xz : XE} {h : XH} {e e1 e2 : Expr} {es : List Expr} {tA : TA} {A : XA}
theorem ss_setI {o ix : Expr} {p2 : Pos} (hu : X.A.units + 64 < cLine) (h : SE T X Wx e ta a) (ho : SE T X Wx o to xo) (hi : SE T X Wx ix ti xi)
    (ha : ∀ v, assign (.Subscript o ix p2) X.env v = (do
      let ov ← holding [v] (eval o X.env)
      let iv ← holding [v, ov] (eval ix X.env)
      standAt p2
      holding [v, ov, iv] (setItem ov iv v)
      release [v, ov, iv] []) := by intro _; rfl)
    (hs : swapsWithSole [.Subscript o ix p2] e pos.line X.env = pure false := by rfl) (hw : swappedStores [.Subscript o ix p2] e X.env = pure none := by rfl) (h3 : (assignEach [.Subscript o ix p2] X.env).map (·.2) = [assign (.Subscript o ix p2) X.env] := by rfl) :
    SS T X Wx (.Assign [.Subscript o ix p2] e pos) (tAsg ta (gSub to ti rSetA)) (xSetI a xo xi) := by
  refine ⟨ps_asg h.pe (pg_sub ho.pe hi.pe (set_any hu) ha) hs hw h3, fun μ σ ρ st H D w s k => ?_⟩
  refine h.ex μ σ ρ st H _ w s ((kO.bind s k).mono fun _ _ u _ H1 _ _ _ _ z => ?_)
  obtain ⟨v, st1, μ1, _, k1, w1, r1, k2⟩ := z
  refine ho.ex μ1 σ ρ st1 H1 _ w1 (s.keep k1) ((kO.bind (s.keep k1) k2).mono fun _ _ u2 _ H2 _ _ _ _ z => ?_)
  obtain ⟨v2, st2, μ2, _, k3, w2, r2, k4⟩ := z
  refine hi.ex μ2 σ ρ st2 H2 _ w2 ((s.keep k1).keep k3) ((kO.bind ((s.keep k1).keep k3) k4).mono fun _ _ u3 _ H3 _ _ _ _ z => ?_)
  obtain ⟨v3, st3, μ3, _, k5, w3, r3, k6⟩ := z
  split at k6
  · rename_i st' e
    exact sSet_ok w3 ((r1.keep k3).keep k5) (r2.keep k5) r3 e fun H' kk ww => k6 σ μ3 H' kk ww ((((s.keep k1).keep k3).keep k5).keep kk)
  · exact k6.elim
/-! ### {}, d.get(k, e) -/
def xDnew : XE := fun _ st => .ok (.ob st.length) (st ++ [.dct []])
theorem sx_dnew : SE T X Wx (.Dict [] [] pos) tDNewK xDnew := ⟨pe_dnewK, fun μ σ ρ st H Q w s k => dict_new w VD.nil k⟩
def xGet2 (o k z : XE) : XE := fun ρ st => (o ρ st).bind fun u st => match dctV st u with
  | some _ => (k ρ st).bind fun kv st => (z ρ st).bind fun d st => (match kv, dctV st u with
    | .im kd, some kvs => (match keyD kd with
      | some key => (match dG kEq kvs key with
        | some x => .ok x st
        | none => .ok d st)
      | none => .bad)
    | _, _ => .bad)
  | none => .bad
theorem sx_get2 {apos cpos : Pos} {f : Expr} {o : Expr} (hu : X.A.units + 64 < cLine) (ho : SE T X Wx o to xo) (he : SE T X Wx e ti xi) (hf : SE T X Wx f tz xz) (m : M2 X o "get" apos e f cpos := by exact ⟨rfl, rfl, rfl, rfl⟩) : SE T X Wx (.Call (.Attribute o "get" apos) [e, f] [] cpos) (tDGet2 to ti tz) (xGet2 xo xi xz) := by
  refine ⟨pe_dget2 (by omega) ho.pe he.pe hf.pe m, fun μ σ ρ st H Q w s k => ?_⟩
  refine ho.ex μ σ ρ st H _ w s ((kR.bind k).mono fun _ _ u _ H1 _ _ _ _ z => ?_)
  obtain ⟨v, st1, μ1, _, k1, w1, r1, k2⟩ := z
  split at k2
  · rename_i kvs0 hd0
    obtain ⟨i0, a0, ks0, rfl, hx0, hs0, rfl, h01, h02⟩ := dctV_ok w1 r1 hd0
    refine ⟨a0, rfl, .inl ⟨ks0, .inl h01⟩, ?_⟩
    refine he.ex μ1 σ ρ st1 H1 _ w1 (s.keep k1) ((kR.bind k2).mono fun _ _ u2 _ H2 _ _ _ _ z => ?_)
    obtain ⟨v2, st2, μ2, _, k3, w2, r2, k4⟩ := z
    refine hf.ex μ2 σ ρ st2 H2 _ w2 ((s.keep k1).keep k3) ((kR.bind k4).mono fun _ _ u3 _ H3 _ _ _ _ z => ?_)
    obtain ⟨v3, st3, μ3, _, k5, w3, r3, k6⟩ := z
    split at k6
    · rename_i kd kvs hk1 _
      split at k6
      · rename_i key hk
        have r1' := (r1.keep k3).keep k5
        obtain ⟨i1, a1, ks, e0, hx, hs, e1, h1, h2⟩ := dctV_ok w3 r1' hk1
        cases e1
        have hkd : Imm X.K H3 kd u2 := r2.keep k5
        refine ⟨valV ks key, by rw [keyD_v hkd hk]; exact DGet.k h1, ?_⟩
        obtain ⟨z1, z2⟩ := h2.get (eq := kEq) key (fun kv _ => kEq_eq _ _)
        split at k6
        · rename_i x hx'
          obtain ⟨y, e2, e3⟩ := z2 x hx'
          rw [e2]
          exact k_val w3 e3 k6
        · rename_i hx'
          rw [z1 hx']
          exact k_val w3 r3 k6
      · exact k6.elim
    · exact k6.elim
  · exact k2.elim
/-! ### methods -/
def OM1 (g : G) (Ty : String) (r : V → List V → Hp → VK → Prop) (f : Val → List Val → Store → R Val) (ty : Val → Store → Bool) : Prop :=
  (∀ (μ : List Addr) (st : Store) (H : Hp) (v : Val) (u : V), Wd g μ st H → VOk g H μ v u → ty v st = true → tyV g.K Ty u H) ∧
  ∀ (σ : Sg) (μ : List Addr) (st : Store) (H : Hp) (v : Val) (u : V) (vs : List Val) (us : List V) (Q : VK), Wd g μ st H → VOk g H μ v u → VOks g H μ vs us → kR g (fun _ _ _ _ => False) σ μ H (VOk g) Q (f v vs st) → r u us H Q
def CalmM (f : Val → List Val → Store → R Val) : Prop := ∀ v vs st e st', f v vs st ≠ .ex e st'
def xM (ty : Val → Store → Bool) (f : Val → List Val → Store → R Val) (o : XE) (a : XA) : XE := fun ρ st => (o ρ st).bind fun v st => match ty v st with
  | true => (a ρ st).bind fun vs st => f v vs st
  | false => .bad
variable {Ty id : String} {name : Str} {apos cpos : Pos} {o : Expr} {rm : V → List V → Hp → VK → Prop} {f : Val → List Val → Store → R Val} {ty : Val → Store → Bool}
theorem ex_M {g : G} {tA : TA} {A : XA} (hg : OM1 g Ty rm f ty) (hc : CalmM f) (ho : EX g Wx to xo) (ha : AX g Wx tA A) : EX g Wx (tBM g.K Ty rm to tA) (xM ty f xo A) := fun μ σ ρ st H Q w s k => by
  refine ho μ σ ρ st H _ w s ((kR.bind k).mono fun _ _ u _ H1 _ _ _ _ z => ?_)
  obtain ⟨v, st1, μ1, _, k1, w1, r1, k2⟩ := z
  split at k2
  · rename_i ht
    refine ⟨hg.1 μ1 st1 H1 v u w1 r1 ht, ?_⟩
    refine ha μ1 σ ρ st1 H1 _ w1 (s.keep k1) ((kR.bind k2).mono fun _ _ us _ H2 _ _ _ _ z => ?_)
    obtain ⟨vs, st2, μ2, _, k3, w2, r2, k4⟩ := z
    exact hg.2 σ _ _ _ _ _ _ _ _ w2 (r1.keep k3) r2 (k4.W0 (hc _ _ _))
  · exact k2.elim
theorem sx_m (pa : PlainAttrs Ty) (slot : Slot Ty name id) (hty : typeOf (.builtin id) = pure (.type "method_descriptor")) (hm : MtR X id rm) (hg : OM1 (gX T X) Ty rm f ty) (hc : CalmM f) (ho : SE T X Wx o to xo) (ha : SA T X Wx (e :: es) tA A)
    (hbase : attributeBase o name X.env (eval o X.env) = eval o X.env := by rfl)
    (hfew : ((backTo cpos (starEach (e :: es) X.env)).all (fun x => !x.1) && (backToKw cpos (keywordEach [] X.env)).all (fun x => x.1.isSome)
      && decide ((e :: es).length + ([] : List Keyword).length + (if ([] : List Keyword).isEmpty then 0 else 1) < 30)) = true := by rfl)
    (hline : (apos.endLine == cpos.line) = true := by rfl) (hs : starEach (e :: es) X.env = (false, eval e X.env) :: starEach es X.env := by rfl) (hplain : (backTo cpos (starEach es X.env)).any (·.1) = false := by rfl) :
    SE T X Wx (.Call (.Attribute o name apos) (e :: es) [] cpos) (tBM X.K Ty rm to tA) (xM ty f xo A) := ⟨pe_bm pa slot hty hm ho.pe ha.pe hbase hfew hline hs hplain, ex_M hg hc ho.ex ha.ex⟩
end
def isL : Val → Store → Bool := fun v st => (lsV st v).isSome
def isS : Val → Store → Bool := fun v _ => match v with
  | .im (.str _) => true
  | _ => false
def mApp : Val → List Val → Store → R Val := fun o vs st => match o, vs with
  | .ob j, [v] => (match st[j]? with
    | some (.lst ds) => ifR (Nat.blt ds.length 16777216) (match v with
      | .im e => .ok (.im .non) (st.set j (.lst (ds ++ [e])))
      | _ => .ok (.im .non) (st.set j (.lsv (ds.map .im ++ [v]))))
    | some (.lsv us) => ifR (Nat.blt us.length 16777216) (.ok (.im .non) (st.set j (.lsv (us ++ [v]))))
    | _ => .bad)
  | _, _ => .bad
section
variable {g : G} {Wx : WX} {σ : Sg} {μ μ' : List Addr} {st : Store} {H H' : Hp} {Q : VK}
theorem isL_ok {v : Val} {u : V} (w : Wd g μ st H) (h : VOk g H μ v u) (e : isL v st = true) : tyV g.K "list" u H := by
  unfold isL at e
  cases q : lsV st v with
  | none => rw [q] at e; cases e
  | some vs =>
    obtain ⟨a, ws, rfl, h1, h2⟩ := lsV_ok w h q
    exact .inl ⟨rfl, ws, SqL.of h1⟩
theorem isS_ok {v : Val} {u : V} (w : Wd g μ st H) (h : VOk g H μ v u) (e : isS v st = true) : tyV g.K "str" u H := by
  unfold isS at e
  split at e
  · cases h; rfl
  · cases e
theorem lsV_at {j : Nat} {u : V} {vs : List Val} (w : Wd g μ st H) (h : VOk g H μ (.ob j) u) (e : lsV st (.ob j) = some vs) : ∃ a ws c, μ[j]? = some a ∧ st[j]? = some c ∧ u = .ref a ∧ H a = some (.lst ws) ∧ VOks g H μ vs ws := by
  obtain ⟨a, ws, rfl, h1, h2⟩ := lsV_ok w h e
  obtain ⟨a', ha, e2⟩ := h
  cases e2
  cases hs : st[j]? with
  | none => simp only [lsV, hs] at e; cases e
  | some c => exact ⟨a, ws, c, ha, rfl, rfl, h1, h2⟩
/-- the list at a takes ws' -/
theorem k_write {j : Nat} {a : Addr} {c c' : Cl} {ws' : List V} {z : Val} {x : V} (w : Wd g μ st H) (ha : μ[j]? = some a) (hs : st[j]? = some c) (hz : VOk g H μ z x)
    (k : kR g Wx σ μ H (VOk g) Q (.ok z (st.set j c'))) (hc : ∀ kk : Keep μ H μ (upd H a (.lst ws')), COk g (upd H a (.lst ws')) μ c' a) : Q x (upd H a (.lst ws')) := by
  obtain ⟨k1, w1⟩ := w.write (o := .lst ws') (c' := c') ha hs hc
  exact k _ _ _ k1 w1 (hz.keep k1)
theorem om_app : OM1 g "list" rAppend mApp isL := ⟨fun μ st H v u w h e => isL_ok w h e, fun σ μ st H o u vs us Q w ho hv k => by
  unfold mApp at k
  split at k
  · rename_i j v
    obtain ⟨a, ha, rfl⟩ := ho
    obtain ⟨x, rfl, hx⟩ := hv.one
    split at k
    · rename_i ds hs
      obtain ⟨ws, h1, h2⟩ := w.ok _ _ _ ha hs
      obtain ⟨hl, k⟩ := ifR_of k
      refine ⟨a, ws, x, rfl, rfl, h1, by rw [h2.length, sizeLine_eq]; exact blt_iff.mp hl, ?_⟩
      split at k
      · exact k_write w ha hs (show VOk g H μ (.im .non) .non from rfl) k (fun kk => ⟨_, upd_same, (h2.mono kk.tups).append (PL.Imms.cons (hx.keep kk) PL.Imms.nil)⟩)
      · exact k_write w ha hs (show VOk g H μ (.im .non) .non from rfl) k (fun kk => ⟨_, upd_same, ((VOks.im.mpr h2).keep kk).append (VOks.cons (hx.keep kk) VOks.nil)⟩)
    · rename_i us hs
      obtain ⟨ws, h1, h2⟩ := w.ok _ _ _ ha hs
      obtain ⟨hl, k⟩ := ifR_of k
      refine ⟨a, ws, x, rfl, rfl, h1, by rw [h2.length, sizeLine_eq]; exact blt_iff.mp hl, ?_⟩
      exact k_write w ha hs (show VOk g H μ (.im .non) .non from rfl) k (fun kk => ⟨_, upd_same, (h2.keep kk).append (VOks.cons (hx.keep kk) VOks.nil)⟩)
    · exact k.elim
  · exact k.elim⟩
theorem c_app : CalmM mApp := fun v vs st e st' z => by
  unfold mApp at z
  repeat' split at z
  all_goals first
    | exact ifR_calm z
    | cases z
    | (revert z; cases Nat.blt _ _ <;> intro z <;> simp only [ifR] at z <;> first | cases z | (split at z <;> cases z))
end
end SX
/-! SX: what is walked; comprehensions. -/
namespace SX
open PySem PySem.Spec PyProof.Rows L2 PL
open PL (Dt Imm Imms SqN Tups)
section
variable {g : G} {H H' : Hp} {μ μ' : List Addr}
mutual
theorem VOk.up (t : Tups H H') (m : Maps (fun i => some i) μ μ') : ∀ {v : Val} {u : V}, VOk g H μ v u → VOk g H' μ' v u
  | .im d, u, h => Imm.mono t d u h
  | .ob i, _, h => let ⟨a, e, r⟩ := h; ⟨a, m i i a rfl e, r⟩
  | .tv vs, _, h => let ⟨a, ws, e, s, z⟩ := h; ⟨a, ws, e, t.seq s, VOks.up t m z⟩
  | .scr ns, _, h => h
  | .fn _, _, h => h
theorem VOks.up (t : Tups H H') (m : Maps (fun i => some i) μ μ') : ∀ {vs : List Val} {us : List V}, VOks g H μ vs us → VOks g H' μ' vs us
  | [], _, h => h
  | v :: vs, _, h => let ⟨u, us, e, s, z⟩ := h; ⟨u, us, e, VOk.up t m s, VOks.up t m z⟩
end
theorem COk.up (t : Tups H H') (m : Maps (fun i => some i) μ μ') {c : Cl} {a : Addr} (hs : H' a = H a) (h : COk g H μ c a) : COk g H' μ' c a := by
  cases c with
  | lst ds => obtain ⟨vs, e, s⟩ := h; exact ⟨vs, by rw [hs]; exact e, s.mono t⟩
  | lsv ds => obtain ⟨vs, e, s⟩ := h; exact ⟨vs, by rw [hs]; exact e, VOks.up t m s⟩
  | dct kvs => obtain ⟨vs, e, s, z⟩ := h; exact ⟨vs, by rw [hs]; exact e, s, VOks.up t m z⟩
  | dcn kvs => obtain ⟨vs, e, s, z, r, q⟩ := h; exact ⟨vs, by rw [hs]; exact e, s, VOks.up t m z, r.mono t, q⟩
  | ins c fs => obtain ⟨C, dx, us, e, s, z, r⟩ := h; exact ⟨C, dx, us, e, by rw [hs]; exact s, z, VOks.up t m r⟩
end
/-! ### sources -/
def signs (z : Str) : List Val := z.cps.toList.map fun c => .im (.str ⟨⟨[c]⟩⟩)
def liveL (i0 : Nat) (i : Nat) (st : Store) : Option (Option Val) := match st[i0]? with
  | some (.lst ds) => some (match ds[i]? with
    | some d => some (.im d)
    | none => none)
  | some (.lsv vs) => some vs[i]?
  | _ => none
def srcV : Val → Store → R Src := fun v st => match v with
  | .im (.str z) => .ok (.vals (signs z)) st
  | .im (.tup ds) => .ok (.vals (ds.map .im)) st
  | .tv vs => .ok (.vals vs) st
  | .ob i => (match lsV st (.ob i) with
    | some _ => .ok (.live 16777216 (liveL i)) st
    | none => .bad)
  | _ => .bad
def xIV (a : XE) : XI := fun ρ st => (a ρ st).bind srcV
def xIH (h : XH) : XI := fun ρ st => (h ρ st).bind fun vs st => .ok (.vals vs) st
def intsV (lo : Int) : Nat → List Val
  | 0 => []
  | n + 1 => .im (.int lo) :: intsV (lo + 1) n
def rngOk (i : Int) : Bool := !intLt i (-4611686018427387904) && intLt i 4611686018427387904
def srcR1 : List Val → Store → R Src := fun vs st => match vs with
  | [.im (.int j)] => if rngOk j then .ok (.vals (intsV 0 j.toNat)) st else .bad
  | _ => .bad
def srcR2 : List Val → Store → R Src := fun vs st => match vs with
  | [.im (.int i), .im (.int j)] => if rngOk i && rngOk j then .ok (.vals (intsV i (j - i).toNat)) st else .bad
  | _ => .bad
def xIR (f : List Val → Store → R Src) (a : XA) : XI := fun ρ st => (a ρ st).bind f
section
variable {g : G} {Wx : WX} {σ : Sg} {μ μ' μ1 : List Addr} {st : Store} {H H' H1 : Hp}
theorem kI.bind {rel : VRel} {α β : Type} {rel' : Hp → List Addr → α → β → Prop} {Q : It → Hp → Prop} {r : R α} {f : α → Store → R Src} (h : kI g rel Wx σ μ H Q (r.bind f)) :
    kR g Wx σ μ H rel' (fun u H1 => ∃ v st1 μ1, r = .ok v st1 ∧ Keep μ H μ1 H1 ∧ Wd g μ1 st1 H1 ∧ rel' H1 μ1 v u ∧ kI g rel Wx σ μ1 H1 Q (f v st1)) r := by
  cases r with
  | ok v st' =>
    refine fun u μ' H' k w z => ⟨v, st', μ', rfl, k, w, z, ?_⟩
    have h : kI g rel Wx σ μ H Q (f v st') := h
    cases q : f v st' with
    | ok s st2 => rw [q] at h; exact fun J μ2 H2 k2 => h J μ2 H2 (k.trans k2)
    | ex e st2 => rw [q] at h; exact fun cls d μ2 H2 k2 => h cls d μ2 H2 (k.trans k2)
    | bad => rw [q] at h; exact h
  | ex e st' => exact h
  | bad => exact h
theorem src_tup {a : Addr} {ws : List V} {vs : List Val} (h1 : SqN g.K H a ws) (h2 : VOks g H μ vs ws) : SrcOk g (VOk g) μ H (Itt g.K a) (.vals vs) := fun μ2 H2 k => by
  have s2 := k.tups.seq h1
  have v2 := h2.keep k
  refine ⟨⟨ws, s2.t, by rw [v2.length]; exact Nat.le_refl _⟩, fun i v e => ?_⟩
  obtain ⟨u, e1, e2⟩ := v2.get e
  refine ⟨⟨ws, u, s2.t, e1⟩, fun x H3 y => ?_⟩
  obtain ⟨rfl, y⟩ := y
  have := y ws s2.t
  rw [e1] at this
  cases this
  exact ⟨Same.refl _, e2⟩
theorem src_hid {D : Addr} {ws : List V} {vs : List Val} (hD : H D = some (.lst ws)) (nD : D ∉ μ) (h2 : VOks g H μ vs ws) : SrcOk g (VOk g) μ H (Itl g.K D) (.vals vs) := fun μ2 H2 k => by
  have s2 : SqL g.K H2 D ws := SqL.of (k.fr _ _ hD nD)
  have v2 := h2.keep k
  refine ⟨⟨ws, s2, by rw [v2.length]; exact Nat.le_refl _⟩, fun i v e => ?_⟩
  obtain ⟨u, e1, e2⟩ := v2.get e
  refine ⟨⟨ws, u, s2, e1⟩, fun x H3 y => ?_⟩
  obtain ⟨rfl, y⟩ := y
  have := y ws s2
  rw [e1] at this
  cases this
  exact ⟨Same.refl _, e2⟩
theorem liveL_ok {i0 : Nat} {a : Addr} (w : Wd g μ st H) (ha : μ[i0]? = some a) {i : Nat} {o : Option Val} (e : liveL i0 i st = some o) : ∃ ws, H a = some (.lst ws) ∧ (o = none → ws.length ≤ i) ∧ ∀ v, o = some v → ∃ u, ws[i]? = some u ∧ VOk g H μ v u := by
  unfold liveL at e
  split at e
  · rename_i ds hs
    obtain ⟨ws, h1, h2⟩ := w.ok _ _ _ ha hs
    refine ⟨ws, h1, fun z => ?_, fun v z => ?_⟩
    · subst z
      split at e
      · cases e
      · rename_i q
        rw [h2.length]
        exact List.getElem?_eq_none_iff.mp q
    · subst z
      split at e
      · rename_i d q
        cases e
        exact h2.get q
      · cases e
  · rename_i vs hs
    obtain ⟨ws, h1, h2⟩ := w.ok _ _ _ ha hs
    refine ⟨ws, h1, fun z => ?_, fun v z => ?_⟩
    · subst z
      rw [h2.length]
      exact List.getElem?_eq_none_iff.mp (Option.some.inj e)
    · subst z
      exact h2.get (Option.some.inj e)
  · cases e
theorem src_live {i0 n : Nat} {a : Addr} (ha : μ[i0]? = some a) : SrcOk g (VOk g) μ H (Itl g.K a) (.live n (liveL i0)) := fun μ2 st2 H2 k w i => by
  cases e : liveL i0 i st2 with
  | none => trivial
  | some o =>
    obtain ⟨ws, h1, h2, h3⟩ := liveL_ok w (k.get ha) e
    cases o with
    | none => exact ⟨ws, SqL.of h1, h2 rfl⟩
    | some v =>
      obtain ⟨u, e1, e2⟩ := h3 v rfl
      refine ⟨⟨ws, u, SqL.of h1, e1⟩, fun x H3 y => ?_⟩
      obtain ⟨rfl, y⟩ := y
      have := y ws (SqL.of h1)
      rw [e1] at this
      cases this
      exact ⟨Same.refl _, e2⟩
theorem src_str {z : Str} : SrcOk g (VOk g) μ H (Its z) (.vals (signs z)) := fun μ2 H2 k => by
  have hl : (signs z).length = z.cps.size := by simp [signs]
  refine ⟨by show z.cps.size ≤ _; omega, fun i v e => ?_⟩
  have hi : i < z.cps.size := by rw [← hl]; exact (List.getElem?_eq_some_iff.mp e).1
  refine ⟨hi, fun x H3 y => ?_⟩
  obtain ⟨rfl, c, hc, rfl⟩ := y
  have hc' : z.cps.toList[i]? = some c := by simpa using hc
  simp only [signs, List.getElem?_map, hc'] at e
  cases e
  exact ⟨Same.refl _, rfl⟩
theorem intsV_len : ∀ {n : Nat} {lo : Int}, (intsV lo n).length = n
  | 0, _ => rfl
  | n + 1, lo => by rw [intsV, List.length_cons, intsV_len]
theorem intsV_get : ∀ {n : Nat} {lo : Int} {i : Nat} {v : Val}, (intsV lo n)[i]? = some v → i < n ∧ v = .im (.int (lo + (i : Int)))
  | 0, _, _, _, e => by simp [intsV] at e
  | n + 1, lo, 0, v, e => by simp [intsV] at e; subst e; exact ⟨by omega, by simp⟩
  | n + 1, lo, i + 1, v, e => by
    obtain ⟨h1, h2⟩ := intsV_get (n := n) (lo := lo + 1) (i := i) (v := v) (by simpa [intsV] using e)
    refine ⟨by omega, ?_⟩
    rw [h2]
    congr 2
    push_cast
    omega
theorem src_rng {lo : Int} {n : Nat} : SrcOk g (VOk g) μ H (Itr lo n) (.vals (intsV lo n)) := fun μ2 H2 k => by
  refine ⟨by show n ≤ _; rw [intsV_len]; exact Nat.le_refl _, fun i v e => ?_⟩
  obtain ⟨h1, rfl⟩ := intsV_get e
  refine ⟨h1, fun x H3 y => ?_⟩
  obtain ⟨rfl, rfl⟩ := y
  exact ⟨Same.refl _, rfl⟩
end
section
variable {T : Tb} {X : Cx} {Wx : WX} {pos p' : Pos} {tg e e1 e2 : Expr} {ta : TE} {a : XE} {h : XH} {es : List Expr} {tA : TA} {A : XA}
theorem si_v (ha : SE T X Wx e ta a) : SI T X Wx tg e (iSeq X.K ta) (xIV a) := ⟨pi_seq ha.pe, fun μ σ ρ st H Q w s k => by
  refine ha.ex μ σ ρ st H _ w s ((kI.bind k).mono fun _ _ u _ H1 _ _ _ _ z => ?_)
  obtain ⟨v, st1, μ1, _, k1, w1, r1, k2⟩ := z
  unfold srcV at k2
  split at k2
  · cases r1
    exact .inr (.inr ⟨_, rfl, k2 _ _ _ Keep.refl w1 src_str⟩)
  · obtain ⟨x, ws, rfl, h1, h2⟩ := r1
    exact .inr (.inl ⟨x, rfl, ⟨ws, h1.t⟩, k2 _ _ _ Keep.refl w1 (src_tup h1 (VOks.im.mpr h2))⟩)
  · obtain ⟨x, ws, rfl, h1, h2⟩ := r1
    exact .inr (.inl ⟨x, rfl, ⟨ws, h1.t⟩, k2 _ _ _ Keep.refl w1 (src_tup h1 h2)⟩)
  · split at k2
    · rename_i vs e
      obtain ⟨x, ws, c, hx, hs, rfl, h1, h2⟩ := lsV_at w1 r1 e
      exact .inl ⟨x, rfl, ⟨ws, SqL.of h1⟩, k2 _ _ _ Keep.refl w1 (src_live hx)⟩
    · exact k2.elim
  · exact k2.elim⟩
theorem si_h (ha : SH T X Wx e ta h) : SI T X Wx tg e (iSeq X.K ta) (xIH h) := ⟨pi_seq ha.pe, fun μ σ ρ st H Q w s k => by
  refine ha.ex μ σ ρ st H _ w s ?_
  unfold xIH at k
  cases q : h ρ st with
  | bad => rw [q] at k; exact k
  | ex e st1 => rw [q] at k; exact k
  | ok vs st1 =>
    rw [q] at k
    intro D ws μ1 H1 h0 k1 w1 hD nD hv
    exact .inl ⟨D, rfl, ⟨ws, SqL.of hD⟩, k _ _ _ k1 w1 (src_hid hD nD hv)⟩⟩
theorem rngOk_of {i : Int} (h : rngOk i = true) : -(2 ^ 62) ≤ i ∧ i < 2 ^ 62 := by
  simp only [rngOk, Bool.and_eq_true, Bool.not_eq_true', intLt_eq, decide_eq_false_iff_not, decide_eq_true_eq] at h
  omega
theorem si_r1 {a : Expr} {p : Pos} (hg : Gl X "range") (hm : X.mg "range" = none) (ha : SA T X Wx [a] tA A) (hs : starEach [a] X.env = [(false, eval a X.env)] := by rfl) : SI T X Wx tg (.Call (.Name "range" p) [a] [] pos) (iRng1 tA) (xIR srcR1 A) := ⟨pi_range1 hg hm ha.pe hs, fun μ σ ρ st H Q w s k => by
  refine ha.ex μ σ ρ st H _ w s ((kI.bind k).mono fun _ _ u _ H1 _ _ _ _ z => ?_)
  obtain ⟨v, st1, μ1, _, k1, w1, r1, k2⟩ := z
  unfold srcR1 at k2
  split at k2
  · split at k2
    · rename_i hr
      obtain ⟨x, rfl, hx⟩ := r1.one
      cases hx
      have := rngOk_of hr
      exact ⟨_, rfl, this.1, this.2, k2 _ _ _ Keep.refl w1 src_rng⟩
    · exact k2.elim
  · exact k2.elim⟩
theorem si_r2 {a b : Expr} {p : Pos} (hg : Gl X "range") (hm : X.mg "range" = none) (ha : SA T X Wx [a, b] tA A) (hs : starEach [a, b] X.env = [(false, eval a X.env), (false, eval b X.env)] := by rfl) (hs2 : starEach [b] X.env = [(false, eval b X.env)] := by rfl) : SI T X Wx tg (.Call (.Name "range" p) [a, b] [] pos) (iRng2 tA) (xIR srcR2 A) := ⟨pi_range2 hg hm ha.pe hs hs2, fun μ σ ρ st H Q w s k => by
  refine ha.ex μ σ ρ st H _ w s ((kI.bind k).mono fun _ _ u _ H1 _ _ _ _ z => ?_)
  obtain ⟨v, st1, μ1, _, k1, w1, r1, k2⟩ := z
  unfold srcR2 at k2
  split at k2
  · split at k2
    · rename_i hr
      rw [Bool.and_eq_true] at hr
      obtain ⟨x, xs, rfl, hx, hv⟩ := r1
      obtain ⟨y, rfl, hy⟩ := VOks.one hv
      cases hx; cases hy
      have h1 := rngOk_of hr.1
      have h2 := rngOk_of hr.2
      exact ⟨_, _, rfl, ⟨h1.1, h1.2, h2.1, h2.2⟩, k2 _ _ _ Keep.refl w1 src_rng⟩
    · exact k2.elim
  · exact k2.elim⟩
end
end SX
/-! SX: comprehensions. -/
namespace SX
open PySem PySem.Spec PyProof.Rows L2 PL
open PL (Dt Imm Imms SqN Tups)
def wipeX (ρ : Slots) : List Nat → Slots
  | [] => ρ
  | i :: l => (wipeX ρ l).set i none
/-- nothing is raised within -/
def R.calm {α β : Type} (r : R α) (k : α → Store → R β) : R β := match r with
  | .ok a st => k a st
  | _ => .bad
def lcV (y : XG) (c : XT) (e : XE) (ρw : Slots) : List Val → Store → R (List Val)
  | [], st => .ok [] st
  | v :: vs, st => match y v ρw with
    | some ρ4 => (c ρ4 st).calm fun b st => match b with
      | true => (e ρ4 st).calm fun z st => (lcV y c e ρw vs st).calm fun zs st => .ok (z :: zs) st
      | false => lcV y c e ρw vs st
    | none => .bad
def lcL (f : Nat → Store → Option (Option Val)) (y : XG) (c : XT) (e : XE) (ρw : Slots) : Nat → Nat → Store → R (List Val)
  | n, i, st => match f i st with
    | none => .bad
    | some none => .ok [] st
    | some (some v) => match n with
      | 0 => .bad
      | n + 1 => match y v ρw with
        | some ρ4 => (c ρ4 st).calm fun b st => match b with
          | true => (e ρ4 st).calm fun z st => (lcL f y c e ρw n (i + 1) st).calm fun zs st => .ok (z :: zs) st
          | false => lcL f y c e ρw n (i + 1) st
        | none => .bad
def xLc (it : XI) (y : XG) (c : XT) (e : XE) (own : List Nat) : XH := fun ρ st => (it ρ st).bind fun s st => (match s with
  | .vals vs => lcV y c e (wipeX ρ own) vs st
  | .live n f => lcL f y c e (wipeX ρ own) n 0 st).calm fun vs st => if szOk vs.length then .ok vs st else .bad
def xYes : XT := fun _ st => .ok true st
section
variable {g : G} {Wx : WX} {μ μ1 : List Addr} {H H1 : Hp}
theorem wipeX_get {ρ : Slots} (j : Nat) : ∀ vs : List Nat, (wipeX ρ vs)[j]? = if j ∈ vs ∧ j < ρ.length then some none else ρ[j]?
  | [] => by simp [wipeX]
  | v :: vs => by
    have hl : ∀ l : List Nat, (wipeX ρ l).length = ρ.length := fun l => by induction l with
      | nil => rfl
      | cons a l ih => simp [wipeX, ih]
    unfold wipeX
    by_cases e : v = j
    · subst e
      by_cases hv : v < ρ.length
      · rw [List.getElem?_set_self (by rw [hl]; exact hv), if_pos ⟨List.mem_cons_self, hv⟩]
      · rw [List.getElem?_eq_none (by rw [List.length_set, hl]; omega), if_neg (fun z => hv z.2), List.getElem?_eq_none (by omega)]
    · rw [List.getElem?_set_ne e, wipeX_get j vs]
      by_cases h : j ∈ vs ∧ j < ρ.length
      · rw [if_pos h, if_pos ⟨List.mem_cons_of_mem _ h.1, h.2⟩]
      · rw [if_neg h, if_neg (fun z => h ⟨(List.mem_cons.mp z.1).resolve_left (fun q => e q.symm), z.2⟩)]
theorem wipeX_len {ρ : Slots} : ∀ l : List Nat, (wipeX ρ l).length = ρ.length
  | [] => rfl
  | a :: l => by simp [wipeX, wipeX_len l]
theorem SOk.wipe {σ : Sg} {ρ : Slots} (s : SOk g H μ σ ρ) (own : List Nat) : SOk g H μ (L2.wipe σ own) (wipeX ρ own) := by
  refine ⟨by rw [wipe_length, wipeX_len]; exact s.1, fun i v e => ?_⟩
  rw [wipeX_get] at e
  by_cases z : i ∈ own ∧ i < ρ.length
  · rw [if_pos z] at e; cases e
  · rw [if_neg z] at e
    rw [PL.wipe_get, if_neg (by rw [s.1]; exact z)]
    exact s.2 i v e
theorem Keeps.wipe {ws own : List Nat} {σ σ' : Sg} (h : Keeps ws (L2.wipe σ own) σ') (hs : ∀ j ∈ ws, j ∈ own) : L2.wipe σ' own = L2.wipe σ own := PL.Keeps.wipe (ws := ws) ⟨h.1, h.2⟩ hs
/-- a hidden list and its items, the rest as Keep has it from a base -/
structure Hid (g : G) (μ1 : List Addr) (H1 : Hp) (D : Addr) (μ : List Addr) (st : Store) (H : Hp) (acc : List Val) (ws : List V) : Prop where
  k : Keep μ1 H1 μ H
  w : Wd g μ st H
  hD : H D = some (.lst ws)
  nD : D ∉ μ
  v : VOks g H μ acc ws
def okP {α : Type} (P : α → Store → Prop) : R α → Prop
  | .ok a st => P a st
  | _ => False
/-- within a heap that has the hidden list -/
theorem Hid.step {st st' : Store} {D : Addr} {μ' : List Addr} {H' : Hp} {acc : List Val} {ws : List V} (h : Hid g μ1 H1 D μ st H acc ws) (k : Keep μ H μ' H') (w : Wd g μ' st' H') : Hid g μ1 H1 D μ' st' H' acc ws := by
  refine ⟨h.k.trans k, w, k.fr _ _ h.hD h.nD, fun z => ?_, h.v.keep k⟩
  obtain ⟨ν, e, f⟩ := k.ext
  rw [e] at z
  rcases List.mem_append.mp z with z | z
  · exact h.nD z
  · have := f D z; rw [h.hD] at this; cases this
theorem Hid.same {st : Store} {D : Addr} {H' : Hp} {acc : List Val} {ws : List V} (h : Hid g μ1 H1 D μ st H acc ws) (s : Same H H') : Hid g μ1 H1 D μ st H' acc ws := h.step (Keep.same s) (h.w.same s)
theorem Hid.grow {st st1 : Store} {D : Addr} {acc : List Val} {ws : List V} {z : Val} {y : V} (w1 : Wd g μ1 st1 H1) (h0 : H1 D = none) (h : Hid g μ1 H1 D μ st H acc ws) (hz : VOk g H μ z y) : Hid g μ1 H1 D μ st (upd H D (.lst (ws ++ [y]))) (acc ++ [z]) (ws ++ [y]) := by
  have tp : Tups H (upd H D (.lst (ws ++ [y]))) := fun b o xs e => by
    rw [upd_ne (fun z => by rw [z, h.hD] at e; cases e)]; exact e
  have mp : Maps (fun i => some i) μ μ := fun i j a e1 e2 => by cases e1; exact e2
  refine ⟨⟨fun b o e hb => ?_, fun b e => ?_, h.k.tups.trans tp, h.k.ext⟩, ⟨h.w.len, h.w.nd, fun i a c e1 e2 => ?_, ?_⟩, upd_same, h.nD, (h.v.up tp mp).append (VOks.cons (hz.up tp mp) VOks.nil)⟩
  · rw [upd_ne (fun z => by rw [z, h0] at e; cases e)]; exact h.k.fr b o e hb
  · by_cases z : b = D
    · subst z; rw [upd_same] at e; cases e
    · rw [upd_ne z] at e; exact h.k.dom b e
  · exact (h.w.ok i a c e1 e2).up tp mp (upd_ne fun z => h.nD (by rw [← z]; exact List.mem_of_getElem? e1))
  · rcases w1.sc with ⟨y1, y2⟩ | y
    · rcases h.w.sc with ⟨z1, z2⟩ | z
      · refine .inl ⟨z1, ?_⟩
        have ne : g.T.sa ≠ D := fun z => by rcases y2 with y2 | ⟨o, y2⟩ <;> rw [z, h0] at y2 <;> cases y2
        rcases z2 with z2 | ⟨o, z2⟩
        · exact .inl (by rw [upd_ne ne]; exact z2)
        · exact .inr ⟨o, by rw [upd_ne ne]; exact z2⟩
      · exact .inr z
    · exact .inr y
/-- the body at one item -/
theorem lc_body {σ : Sg} {ρ : Slots} {tt : TT} {c : XT} {te : TE} {e : XE} {tg : TG} {y : XG} {rel : VRel} {ws own : List Nat} {st1 st : Store} {D : Addr} {acc : List Val} {xs : List V} {v : Val} {x : V} {H3 : Hp} {Nx : Hp → Prop} {rest : Store → R (List Val)} {P : List Val → Store → Prop}
    (hg : GXr g rel ws tg y) (ht : TX g W0 tt c) (he : EX g W0 te e) (hw : ∀ j ∈ ws, j ∈ own) (w1 : Wd g μ1 st1 H1) (h0 : H1 D = none)
    (h : Hid g μ1 H1 D μ st H acc xs) (s : SOk g H μ σ ρ) (sm : Same H H3) (hv : rel H3 μ v x)
    (k : okP (fun zs st => szOk (acc ++ zs).length = true ∧ P (acc ++ zs) st) (match y v (wipeX ρ own) with
    | some ρ4 => (c ρ4 st).calm fun b st => match b with
      | true => (e ρ4 st).calm fun z st => (rest st).calm fun zs st => .ok (z :: zs) st
      | false => rest st
    | none => .bad))
    (next : ∀ μ' st' H' acc' xs', Hid g μ1 H1 D μ' st' H' acc' xs' → okP (fun zs st => szOk (acc' ++ zs).length = true ∧ P (acc' ++ zs) st) (rest st') → Nx H') :
    tg x (wipe σ own) H3 fun σ2 H2 => wipe σ2 own = wipe σ own ∧ tt σ2 H2 fun b H3 =>
      if b = true then te σ2 H3 fun y H4 => ∃ acc, H4 D = some (.lst acc) ∧ acc.length < sizeLine ∧ Nx (upd H4 D (.lst (acc ++ [y]))) else Nx H3 := by
  have h3 := h.same sm
  cases q : y v (wipeX ρ own) with
  | none => rw [q] at k; exact k.elim
  | some ρ4 =>
    rw [q] at k
    simp only at k
    refine hg _ _ _ _ _ _ _ _ ((s.keep (Keep.same sm)).wipe own) hv q fun σ4 s4 kp => ⟨kp.wipe hw, ?_⟩
    refine ht _ σ4 ρ4 st H3 _ h3.w s4 ?_
    cases q2 : c ρ4 st with
    | bad => rw [q2] at k; exact k.elim
    | ex a b => rw [q2] at k; exact k.elim
    | ok b st4 =>
      rw [q2] at k
      intro b' μ4 H4 k4 w4 eb
      cases eb
      have h4 := h3.step k4 w4
      cases b with
      | false => exact iteF (next _ _ _ _ _ h4 k)
      | true =>
        refine iteT (he _ σ4 ρ4 st4 H4 _ w4 (s4.keep k4) ?_)
        cases q3 : e ρ4 st4 with
        | bad => simp only [R.calm, q3] at k; exact k.elim
        | ex a b => simp only [R.calm, q3] at k; exact k.elim
        | ok z st5 =>
          simp only [R.calm, q3] at k
          intro u μ5 H5 k5 w5 hu
          have h5 := h4.step k5 w5
          cases q4 : rest st5 with
          | bad => rw [q4] at k; exact k.elim
          | ex a b => rw [q4] at k; exact k.elim
          | ok zs st6 =>
            rw [q4] at k
            obtain ⟨k1, k2⟩ := k
            refine ⟨xs, h5.hD, ?_, next _ _ _ _ _ (h5.grow w1 h0 hu) ?_⟩
            · rw [h5.v.length]
              have := szOk_le k1
              simp only [List.length_append, List.length_cons] at this
              omega
            · rw [q4]
              have e : acc ++ [z] ++ zs = acc ++ z :: zs := by simp
              show szOk (acc ++ [z] ++ zs).length = true ∧ P (acc ++ [z] ++ zs) st6
              rw [e]
              exact ⟨k1, k2⟩
theorem hx_lc {wi : TI} {it : XI} {tg : TG} {y : XG} {tt : TT} {c : XT} {te : TE} {e : XE} {rel : VRel} {ws own : List Nat} (hi : IX g rel Wx wi it) (hg : GXr g rel ws tg y) (ht : TX g W0 tt c) (he : EX g W0 te e) (hw : ∀ j ∈ ws, j ∈ own) : HX g Wx (tLc wi tg tt te own) (xLc it y c e own) := fun μ σ ρ st H Q w s k => by
  refine hi μ σ ρ st H _ w s ?_
  unfold xLc at k
  cases q : it ρ st with
  | bad => rw [q] at k; exact k
  | ex x st' => rw [q] at k; exact k
  | ok src st1 =>
    rw [q] at k
    intro J μ1 H1 k1 w1 hJ D h0
    have s1 := s.keep k1
    have ne : ∀ b o, H b = some o → b ≠ D := fun b o e z => by
      subst z
      have := k1.dom _ h0
      rw [e] at this; cases this
    have hid0 : Hid g μ1 H1 D μ1 st1 (upd H1 D (.lst [])) [] [] := ⟨Keep.fresh h0, w1.fresh h0, upd_same, fun z => (w1.cell z).1 h0, VOks.nil⟩
    let P : List Val → Store → Prop := fun zs st' => ∀ ws μ' H', Hid g μ1 H1 D μ' st' H' zs ws → Q (.ref D) H'
    have fin : ∀ {r : R (List Val)}, kH g Wx σ μ H Q (r.calm fun vs st => if szOk vs.length then .ok vs st else .bad) → okP (fun zs st => szOk zs.length = true ∧ P zs st) r := fun {r} k => by
      cases r with
      | bad => exact k
      | ex x st' => exact k
      | ok zs st' =>
        simp only [R.calm] at k
        split at k
        · rename_i hz
          exact ⟨hz, fun ws μ' H' h => k D ws μ' H' (k1.dom _ h0) (k1.trans h.k) h.w h.hD h.nD h.v⟩
        · exact k.elim
    cases src with
    | vals vs =>
      have k := fin k
      refine ⟨fun i m H => m = vs.length - i ∧ i ≤ vs.length ∧ ∃ μ2 st2 acc xs, Hid g μ1 H1 D μ2 st2 H acc xs ∧ okP (fun zs st => szOk (acc ++ zs).length = true ∧ P (acc ++ zs) st) (lcV y c e (wipeX ρ own) (vs.drop i) st2), ⟨vs.length, by simp, Nat.zero_le _, μ1, st1, [], [], hid0, k⟩, ?_⟩
      rintro i m H2 ⟨rfl, hi, μ2, st2, acc, xs, hd, h2⟩
      obtain ⟨hs, hy⟩ := hJ μ2 H2 hd.k
      by_cases hlt : i < vs.length
      · obtain ⟨go, yl⟩ := hy i _ (List.getElem?_eq_getElem hlt)
        rw [List.drop_eq_getElem_cons hlt] at h2
        refine .inr ⟨go, fun H3 => ∃ μ2 st2 acc xs, Hid g μ1 H1 D μ2 st2 H3 acc xs ∧ okP (fun zs st => szOk (acc ++ zs).length = true ∧ P (acc ++ zs) st) (lcV y c e (wipeX ρ own) (vs.drop (i + 1)) st2), fun H3 h3 => ⟨vs.length - (i + 1), by omega, rfl, hlt, h3⟩, fun x H3 hx => ?_⟩
        obtain ⟨sm, hv⟩ := yl x H3 hx
        exact lc_body hg ht he hw w1 h0 hd (s1.keep hd.k) sm hv h2 fun μ' st' H' acc' xs' h h' => ⟨μ', st', acc', xs', h, h'⟩
      · have e : i = vs.length := by omega
        subst e
        rw [List.drop_length] at h2
        obtain ⟨_, h2⟩ := h2
        rw [List.append_nil] at h2
        exact .inl ⟨hs, h2 _ _ _ hd⟩
    | live n f =>
      have k := fin k
      refine ⟨fun i m H => ∃ μ2 st2 acc xs, Hid g μ1 H1 D μ2 st2 H acc xs ∧ okP (fun zs st => szOk (acc ++ zs).length = true ∧ P (acc ++ zs) st) (lcL f y c e (wipeX ρ own) m i st2), ⟨n, μ1, st1, [], [], hid0, k⟩, ?_⟩
      rintro i m H2 ⟨μ2, st2, acc, xs, hd, h2⟩
      have hy := hJ μ2 st2 H2 hd.k hd.w i
      unfold lcL at h2
      split at h2
      · exact h2.elim
      · rename_i e'
        rw [e'] at hy
        obtain ⟨_, h2⟩ := h2
        rw [List.append_nil] at h2
        exact .inl ⟨hy, h2 _ _ _ hd⟩
      · rename_i v e'
        rw [e'] at hy
        obtain ⟨go, yl⟩ := hy
        split at h2
        · exact h2.elim
        · rename_i m
          refine .inr ⟨go, fun H3 => ∃ μ2 st2 acc xs, Hid g μ1 H1 D μ2 st2 H3 acc xs ∧ okP (fun zs st => szOk (acc ++ zs).length = true ∧ P (acc ++ zs) st) (lcL f y c e (wipeX ρ own) m (i + 1) st2), fun H3 h3 => ⟨m, by omega, h3⟩, fun x H3 hx => ?_⟩
          obtain ⟨sm, hv⟩ := yl x H3 hx
          exact lc_body hg ht he hw w1 h0 hd (s1.keep hd.k) sm hv h2 fun μ' st' H' acc' xs' h h' => ⟨μ', st', acc', xs', h, h'⟩
end
structure STs (T : Tb) (X : Cx) (es : List Expr) (t : TT) (x : XT) : Prop where
  pe : PTs X es t
  ex : TX (gX T X) W0 t x
section
variable {T : Tb} {X : Cx} {Wx : WX} {pos : Pos} {elt tg iter e : Expr} {ifs : List Expr} {scope : Scope} {own : List (Str × Nat)} {wi : TI} {it : XI} {g : TG} {y : XG} {c : XT} {x : XE} {ws : List Nat} {te : Shared → Hp → Addr → List (Str × Addr) → List Addr → TE} {tt : Shared → Hp → Addr → List (Str × Addr) → List Addr → TT}
theorem sts_nil : STs T X [] tYes xYes := ⟨pts_nil, fun μ σ ρ st H Q w s k => k true μ H Keep.refl w rfl⟩
theorem sts_one {t : TT} (h : ST T X W0 e t c) : STs T X [e] t c := ⟨pts_one h.pe, h.ex⟩
theorem sh_lc (hc : X.calm = true) (hN : X.N.Nodup) (hi : SI T X Wx tg iter wi it) (ok : BlkOk X.N X.env.scope scope own)
    (hg : ∀ (s : Shared) (H : Hp) (C : Addr) (cl : List (Str × Addr)) (fp : List Addr), SG T (X.blk s H scope (compEnvC scope cl C X.env) fp) tg ws g y)
    (ht : ∀ (s : Shared) (H : Hp) (C : Addr) (cl : List (Str × Addr)) (fp : List Addr), STs T (X.blk s H scope (compEnvC scope cl C X.env) fp) ifs (tt s H C cl fp) c)
    (he : ∀ (s : Shared) (H : Hp) (C : Addr) (cl : List (Str × Addr)) (fp : List Addr), SE T (X.blk s H scope (compEnvC scope cl C X.env) fp) W0 elt (te s H C cl fp) x) (hw : ∀ j ∈ ws, j ∈ own.map (·.2) := by decide)
    (hs : ∀ x, foldedSetIterable iter X.env x = pure x := by intro _; rfl) (htt : ∀ s H C cl fp, tt s H C cl fp = tt X.s_0 X.H_0 0 [] [] := by intros; rfl) (hte : ∀ s H C cl fp, te s H C cl fp = te X.s_0 X.H_0 0 [] [] := by intros; rfl) :
    SH T X Wx (.ListComp elt [⟨tg, iter, ifs, 0⟩] scope pos) (tLc wi g (tt X.s_0 X.H_0 0 [] []) (te X.s_0 X.H_0 0 [] []) (own.map (·.2))) (xLc it y c x (own.map (·.2))) :=
  ⟨pe_lc hc hN hi.pi ok (fun s H C cl fp => (hg s H C cl fp).pg) (fun s H C cl fp => by rw [← htt s H C cl fp]; exact (ht s H C cl fp).pe) (fun s H C cl fp => by rw [← hte s H C cl fp]; exact (he s H C cl fp).pe) hs,
    hx_lc hi.ex (hg X.s_0 X.H_0 0 [] []).ex (ht X.s_0 X.H_0 0 [] []).ex (he X.s_0 X.H_0 0 [] []).ex hw⟩
/-- name = [..] on one line -/
theorem ss_setLc (i : Nat) {yn : Str} {py spos : Pos} (hc : X.calm = true) (hN : X.N.Nodup) (hi : SI T X Wx tg iter wi it) (ok : BlkOk X.N X.env.scope scope own)
    (hg : ∀ (s : Shared) (H : Hp) (C : Addr) (cl : List (Str × Addr)) (fp : List Addr), SG T (X.blk s H scope (compEnvC scope cl C X.env) fp) tg ws g y)
    (ht : ∀ (s : Shared) (H : Hp) (C : Addr) (cl : List (Str × Addr)) (fp : List Addr), STs T (X.blk s H scope (compEnvC scope cl C X.env) fp) ifs (tt s H C cl fp) c)
    (he : ∀ (s : Shared) (H : Hp) (C : Addr) (cl : List (Str × Addr)) (fp : List Addr), SE T (X.blk s H scope (compEnvC scope cl C X.env) fp) W0 elt (te s H C cl fp) x) (hw : ∀ j ∈ ws, j ∈ own.map (·.2) := by decide)
    (hy : X.N[i]? = some yn := by rfl) (hyl : X.env.scope.names.lookup yn = some .local := by rfl) (hsw : swapsWith (.ListComp elt [⟨tg, iter, ifs, 0⟩] scope pos) (some (.Name yn py)) spos.line X.env = pure true := by exact sw_true rfl rfl rfl (by decide +kernel))
    (hs : ∀ x, foldedSetIterable iter X.env x = pure x := by intro _; rfl) (htt : ∀ s H C cl fp, tt s H C cl fp = tt X.s_0 X.H_0 0 [] [] := by intros; rfl) (hte : ∀ s H C cl fp, te s H C cl fp = te X.s_0 X.H_0 0 [] [] := by intros; rfl) :
    SS T X Wx (.Assign [.Name yn py] (.ListComp elt [⟨tg, iter, ifs, 0⟩] scope pos) spos) (tAsg (tLc wi g (tt X.s_0 X.H_0 0 [] []) (te X.s_0 X.H_0 0 [] []) (own.map (·.2))) (gName i)) (xSet i (xNew (xLc it y c x (own.map (·.2))))) := by
  have h := sh_lc (pos := pos) hc hN hi ok hg ht he hw hs htt hte
  exact ⟨ps_setLc hc hN hy hyl hsw hi.pi ok (fun s H C cl fp => (hg s H C cl fp).pg) (fun s H C cl fp => by rw [← htt s H C cl fp]; exact (ht s H C cl fp).pe) (fun s H C cl fp => by rw [← hte s H C cl fp]; exact (he s H C cl fp).pe) hs,
    es_set i (sx_new h).ex⟩
end
end SX
/-! SX: instances of the text's classes: fields, methods, making. -/
namespace SX
open PySem PySem.Spec PyProof.Rows L2 PL
open PL (Dt Imm Imms SqN Tups)
def fG : List (Str × Val) → Str → Option Val
  | [], _ => none
  | (k, v) :: r, f => if strEq k f then some v else fG r f
def fPut (f : Str) (v : Val) : List (Str × Val) → List (Str × Val)
  | [] => [(f, v)]
  | (g, x) :: r => if strEq g f then (g, v) :: r else (g, x) :: fPut f v r
def memC (c : Nat) (cs : List Nat) : Bool := memN c cs
/-- the classes cs have a field f (no class of theirs has the name) -/
def FldOk (K : PySem.W.Frag) (mg : Str → Option Value) (T : Tb) (cs : List Nat) (f : Str) : Prop := ∀ c ∈ cs, ∃ C, mg (T.CN c) = some (.ref C) ∧ Cls K C ∧ NoAttr K C f
def xFld (cs : List Nat) (f : Str) (a : XE) : XE := fun ρ st => (a ρ st).bind fun v st => match v with
  | .ob i => (match st[i]? with
    | some (.ins c fs) => if memC c cs then (match fG fs f with
      | some z => .ok z st
      | none => .bad) else .bad
    | _ => .bad)
  | _ => .bad
def xSetF (cs : List Nat) (f : Str) (e o : XE) : XS := fun ρ st => (e ρ st).toO ρ fun z st => (o ρ st).toO ρ fun v st => match v with
  | .ob i => (match st[i]? with
    | some (.ins c fs) => if memC c cs && Nat.blt fs.length 1000 then .nx ρ (st.set i (.ins c (fPut f z fs))) else .bad
    | _ => .bad)
  | _ => .bad
def xAugF (cs : List Nat) (f : Str) (op : Val → Val → Store → R Val) (o e : XE) : XS := fun ρ st => (o ρ st).toO ρ fun v st => match v with
  | .ob i => (match st[i]? with
    | some (.ins c fs) => if memC c cs then (match fG fs f with
      | some z => (e ρ st).toO ρ fun y st => (op z y st).toO ρ fun x st => (match st[i]? with
        | some (.ins c' fs') => if Nat.beq c c' && Nat.blt fs'.length 1000 then .nx ρ (st.set i (.ins c' (fPut f x fs'))) else .bad
        | _ => .bad)
      | none => .bad) else .bad
    | _ => .bad)
  | _ => .bad
section
variable {g : G} {Wx : WX} {σ : Sg} {μ μ' : List Addr} {st : Store} {H H' : Hp} {Q : VK}
theorem beqStr (a b : Str) : (a == b) = decide (a = b) := by rw [Bool.eq_iff_iff]; simp
theorem FD.get (f : Str) : ∀ {fs : List (Str × Val)} {us : List (Str × V)}, VD g H μ fs us → (fG fs f = none → us.lookup f = none) ∧ ∀ d, fG fs f = some d → ∃ v, us.lookup f = some v ∧ VOk g H μ d v
  | [], us, h => by
    rw [VD.nil_of h]
    exact ⟨fun _ => rfl, fun d e => by cases e⟩
  | (k, d') :: r, _, h => by
    obtain ⟨v, t, rfl, i1, h2⟩ := VD.uncons h
    have ih := FD.get f h2
    by_cases e : k = f
    · subst e
      have e1 : fG ((k, d') :: r) k = some d' := by rw [fG, if_pos (by rw [strEq_eq]; simp)]
      have e2 : ((k, v) :: t).lookup k = some v := by simp [List.lookup]
      rw [e1, e2]
      exact ⟨fun z => (by cases z), fun d z => (by cases z; exact ⟨v, rfl, i1⟩)⟩
    · have e1 : fG ((k, d') :: r) f = fG r f := by rw [fG, if_neg (by rw [strEq_eq]; simpa using e)]
      have e2 : ((k, v) :: t).lookup f = t.lookup f := by
        have : (f == k) = false := by rw [beqStr]; exact decide_eq_false (fun z => e z.symm)
        simp only [List.lookup, this]
      rw [e1, e2]
      exact ih
theorem FD.put (f : Str) {d : Val} {v : V} (hv : VOk g H μ d v) : ∀ {fs : List (Str × Val)} {us : List (Str × V)}, VD g H μ fs us → VD g H μ (fPut f d fs) (putF f v us)
  | [], us, h => by
    rw [VD.nil_of h]
    exact VD.cons hv VD.nil
  | (k, d') :: r, _, h => by
    obtain ⟨w, t, rfl, i1, h2⟩ := VD.uncons h
    rw [fPut, putF]
    by_cases e : k = f
    · rw [if_pos (by rw [strEq_eq]; simpa using e), if_pos e]
      exact VD.cons hv h2
    · rw [if_neg (by rw [strEq_eq]; simpa using e), if_neg e]
      exact VD.cons i1 (FD.put f hv h2)
theorem insAt {v : Val} {u : V} {i c : Nat} {fs : List (Str × Val)} (w : Wd g μ st H) (h : VOk g H μ (.ob i) u) (e : st[i]? = some (.ins c fs)) : ∃ a C dx us, μ[i]? = some a ∧ u = .ref a ∧ g.mg (g.T.CN c) = some (.ref C) ∧ H a = some (.ins C dx us) ∧ VD g H μ fs us := by
  obtain ⟨a, ha, rfl⟩ := h
  obtain ⟨C, dx, us, h1, h2, h3, h4⟩ := w.ok i a _ ha e
  exact ⟨a, C, dx, us, ha, rfl, h1, h2, h3, h4⟩
theorem fld_cls {cs : List Nat} {c : Nat} {f : Str} {C : Addr} (F : FldOk g.K g.mg g.T cs f) (hc : memC c cs = true) (h : g.mg (g.T.CN c) = some (.ref C)) : Cls g.K C ∧ NoAttr g.K C f := by
  obtain ⟨C', h1, h2, h3⟩ := F c (memN_iff.mp hc)
  rw [h] at h1
  cases h1
  exact ⟨h2, h3⟩
end
section
variable {T : Tb} {X : Cx} {Wx : WX} {pos pos' tpos p' : Pos} {tg e o e1 e2 : Expr} {ta to : TE} {a xo : XE} {h : XH} {es : List Expr} {tA : TA} {A : XA} {f : Str} {cs : List Nat}
theorem sx_fld (F : FldOk X.K X.mg T cs f) (ho : SE T X Wx o to xo) (hb : attributeBase o f X.env (eval o X.env) = eval o X.env := by rfl) : SE T X Wx (.Attribute o f pos) (tFld X.K to f) (xFld cs f xo) := by
  refine ⟨pe_fld ho.pe hb, fun μ σ ρ st H Q w s k => ?_⟩
  refine ho.ex μ σ ρ st H _ w s ((kR.bind k).mono fun _ _ u _ H1 _ _ _ _ z => ?_)
  obtain ⟨v, st1, μ1, _, k1, w1, r1, k2⟩ := z
  split at k2
  · split at k2
    · rename_i c fs hs
      split at k2
      · rename_i hc
        obtain ⟨a, C, dx, us, ha, rfl, h1, h2, h3⟩ := insAt (v := .ob 0) w1 r1 hs
        obtain ⟨c1, c2⟩ := fld_cls (g := gX T X) F hc h1
        split at k2
        · rename_i z hz
          obtain ⟨y, e1, e2⟩ := (FD.get f h3).2 z hz
          exact ⟨a, C, dx, us, y, rfl, h2, c1, c2, e1, k_val w1 e2 k2⟩
        · exact k2.elim
      · exact k2.elim
    · exact k2.elim
  · exact k2.elim
theorem setF_ok {g : G} {μ : List Addr} {st : Store} {H : Hp} {i c : Nat} {fs : List (Str × Val)} {a C dx : Addr} {us : List (Str × V)} {z : Val} {y : V} (w : Wd g μ st H) (ha : μ[i]? = some a) (hs : st[i]? = some (.ins c fs)) (h1 : g.mg (g.T.CN c) = some (.ref C)) (h3 : VD g H μ fs us) (hz : VOk g H μ z y) :
    Keep μ H μ (upd H a (.ins C dx (putF f y us))) ∧ Wd g μ (st.set i (.ins c (fPut f z fs))) (upd H a (.ins C dx (putF f y us))) := by
  refine w.write ha hs fun kk => ?_
  have z := (FD.put f hz h3).keep kk
  exact ⟨C, dx, _, h1, upd_same, z.1, z.2⟩
theorem ss_setF (F : FldOk X.K X.mg T cs f) (ho : SE T X Wx o to xo) (he : SE T X Wx e ta a) (hs : swapsWith e (some (.Attribute o f pos')) pos.line X.env = pure false := by rfl) : SS T X Wx (.Assign [.Attribute o f pos'] e pos) (sFld X.K to ta f) (xSetF cs f a xo) := by
  refine ⟨ps_fld ho.pe he.pe hs, fun μ σ ρ st H D w s k => ?_⟩
  refine he.ex μ σ ρ st H _ w s ((kO.bind s k).mono fun _ _ u _ H1 _ _ _ _ z => ?_)
  obtain ⟨v, st1, μ1, _, k1, w1, r1, k2⟩ := z
  refine ho.ex μ1 σ ρ st1 H1 _ w1 (s.keep k1) ((kO.bind (s.keep k1) k2).mono fun _ _ u2 _ H2 _ _ _ _ z => ?_)
  obtain ⟨v2, st2, μ2, _, k3, w2, r2, k4⟩ := z
  split at k4
  · split at k4
    · rename_i c fs hs
      split at k4
      · rename_i hc
        rw [Bool.and_eq_true] at hc
        obtain ⟨a, C, dx, us, ha, rfl, h1, h2, h3⟩ := insAt (v := .ob 0) w2 r2 hs
        obtain ⟨c1, c2⟩ := fld_cls (g := gX T X) F hc.1 h1
        obtain ⟨kk, ww⟩ := setF_ok (f := f) (dx := dx) w2 ha hs h1 h3 (r1.keep k3)
        exact ⟨a, C, dx, us, rfl, h2, c1, c2, by rw [h3.length]; exact blt_iff.mp hc.2, k4 σ _ _ kk ww (((s.keep k1).keep k3).keep kk)⟩
      · exact k4.elim
    · exact k4.elim
  · exact k4.elim
theorem inOp_of {op : Operator} {r : R2} (h : OpR X (inplaceOp op) r) : InOp X op r := fun pins s σ H x y u v Q I rx ry q => h pins s σ H x y u v Q I rx ry q
theorem ss_augF {op : Operator} {r : R2} {fo : Val → Val → Store → R Val} (F : FldOk X.K X.mg T cs f) (hr : OpR X (inplaceOp op) r) (hf : O2 (gX T X) r fo) (hc : Calm fo) (ho : SE T X Wx o to xo) (he : SE T X Wx e ta a) : SS T X Wx (.AugAssign (.Attribute o f tpos) op e pos) (sFldAug X.K to ta r f) (xAugF cs f fo xo a) := by
  refine ⟨ps_fldaug ho.pe he.pe (inOp_of hr), fun μ σ ρ st H D w s k => ?_⟩
  refine ho.ex μ σ ρ st H _ w s ((kO.bind s k).mono fun _ _ u _ H1 _ _ _ _ z => ?_)
  obtain ⟨v, st1, μ1, _, k1, w1, r1, k2⟩ := z
  split at k2
  · rename_i i _
    split at k2
    · rename_i c fs hs
      split at k2
      · rename_i hcc
        obtain ⟨a, C, dx, us, ha, rfl, h1, h2, h3⟩ := insAt (v := .ob 0) w1 r1 hs
        obtain ⟨c1, c2⟩ := fld_cls (g := gX T X) F hcc h1
        split at k2
        · rename_i z hz
          obtain ⟨y, e1, e2⟩ := (FD.get f h3).2 z hz
          refine ⟨a, C, dx, us, y, rfl, h2, c1, c2, e1, ?_⟩
          refine he.ex μ1 σ ρ st1 H1 _ w1 (s.keep k1) ((kO.bind (s.keep k1) k2).mono fun _ _ u2 _ H2 _ _ _ _ z => ?_)
          obtain ⟨v2, st2, μ2, _, k3, w2, r2, k4⟩ := z
          refine hf σ _ _ _ _ _ _ _ _ w2 (e2.keep k3) r2 ?_
          have k5 := kO.bind (rel := VOk (gX T X)) ((s.keep k1).keep k3) k4
          refine (k5.W0 (hc _ _ _)).mono fun _ _ u3 _ H3 _ _ _ _ z => ?_
          obtain ⟨v3, st3, μ3, _, k6, w3, r3, k7⟩ := z
          split at k7
          · rename_i c' fs' hs'
            split at k7
            · rename_i hc'
              rw [Bool.and_eq_true] at hc'
              have ec := Nat.eq_of_beq_eq_true hc'.1
              subst ec
              have ha3 := k6.get (k3.get ha)
              obtain ⟨a', C', dx', us', ha', e0, h1', h2', h3'⟩ := insAt (v := .ob 0) w3 (⟨a, ha3, rfl⟩ : VOk (gX T X) H3 μ3 (.ob i) (.ref a)) hs'
              cases e0
              rw [h1] at h1'
              cases h1'
              obtain ⟨kk, ww⟩ := setF_ok (f := f) (dx := dx') w3 ha' hs' h1 h3' r3
              exact ⟨dx', us', h2', by rw [h3'.length]; exact blt_iff.mp hc'.2, k7 σ _ _ kk ww ((((s.keep k1).keep k3).keep k6).keep kk)⟩
            · exact k7.elim
          · exact k7.elim
        · exact k2.elim
      · exact k2.elim
    · exact k2.elim
  · exact k2.elim
end
/-! ### methods -/
/-- a method m of the class c -/
def clsOf (mg : Str → Option Value) (T : Tb) (c : Nat) : Addr := match mg (T.CN c) with
  | some (.ref C) => C
  | _ => 0
theorem clsOf_eq {mg : Str → Option Value} {T : Tb} {c : Nat} {C : Addr} (h : mg (T.CN c) = some (.ref C)) : clsOf mg T c = C := by
  unfold clsOf
  rw [h]
/-- the value of a default -/
def dvV : Val → V
  | .im (.int i) => .int i
  | .im (.bl b) => .bl b
  | .im (.str x) => .str x
  | _ => .non
def dvOk : Val → Bool
  | .im (.int _) => true
  | .im (.bl _) => true
  | .im (.str _) => true
  | .im .non => true
  | _ => false
theorem dv_ok {g : G} {H : Hp} {μ : List Addr} : ∀ {ds : List Val}, ds.all dvOk = true → VOks g H μ ds (ds.map dvV)
  | [], _ => VOks.nil
  | d :: ds, h => by
    rw [List.all_cons, Bool.and_eq_true] at h
    refine VOks.cons ?_ (dv_ok h.2)
    have := h.1
    unfold dvOk at this
    split at this <;> first | rfl | cases this
structure MX (T : Tb) (P : Program) (w : World) (K : PySem.W.Frag) (mg : Str → Option Value) (base : Heap) (k : Nat) (c : Nat) (m : Str) (n : Nat) (ds : List Val) (xf : List Val → Store → R Val) : Prop where
  ex : ∃ (f : Addr) (fd : FuncData) (ps : List Str) (dus : List Value), mg (T.CN c) = some (.ref (clsOf mg T c)) ∧ Cls K (clsOf mg T c) ∧ Meth K (clsOf mg T c) m f ∧ Binds K fd ps dus ∧ Vals (ds.map dvV) dus ∧ ds.all dvOk = true ∧ ps.length = n ∧ FnOk P w K mg base (L2.CX P w) k f fd ps (spX ⟨K, mg, w, T⟩ n xf)
def xMeth (c : Nat) (m : Str) (n : Nat) (ds : List Val) (xf : List Val → Store → R Val) (o : XE) (a : XA) : XE := fun ρ st => (o ρ st).bind fun v st1 => match v with
  | .ob i => (match st1[i]? with
    | some (.ins c' fs) => if Nat.beq c' c then (match fG fs m with
      | none => (a ρ st1).bind fun vs st2 => if Nat.beq (vs.length + ds.length + 1) n then callR xf st.length (.ob i :: (vs ++ ds)) st2 else .bad
      | some _ => .bad) else .bad
    | _ => .bad)
  | _ => .bad
section
variable {T : Tb} {X : Cx} {Wx : WX} {pos apos p' : Pos} {tg e o e1 e2 : Expr} {ta to : TE} {a xo : XE} {h : XH} {es : List Expr} {tA : TA} {A : XA} {m x : Str} {cs : List Nat} {n k j c : Nat} {xf : List Val → Store → R Val} {ds : List Val} {P : Program} {w : World} {K : PySem.W.Frag} {mg : Str → Option Value} {base : Heap}
def tMethX (C : Addr) (m : Str) (sp : Sp) (dvs : List V) (E : Sg → XK) (ta : TE) (t : TA) : TE := fun σ H Q => ta σ H fun x H1 => ∃ a dx fs, x = .ref a ∧ H1 a = some (.ins C dx fs) ∧ fs.lookup m = none ∧ t σ H1 fun vs H2 => sp (x :: (vs ++ dvs)) H2 Q (E σ)
theorem run_fnSD' {f : Addr} {fd : FuncData} {ps : List Str} {sp : Sp} {E : Sg → XK} {CX : CXT} {ds : List Value} {dvs : List V} {pins : List (Addr × Obj)} {σ : Sg} {H : Hp} {s : Shared} {Q : VK} {us : List Value} {vs : List V} (F : FnOk X.prog X.w X.K X.mg X.base CX k f fd ps sp) (hr : Room k X.A) (hb : Binds X.K fd ps ds) (hd : Vals dvs ds) (hx : PassesAt CX X σ (E σ))
    (I : Inv X pins σ H s) (r : Vals vs us) (h : sp (vs ++ dvs) H Q (E σ)) : wpAny (model X.prog X.w) X.A (call (.ref f) us) (EP X pins σ Q) X.xe s := by
  have r2 := r.append hd
  have hl : (us ++ ds).length = ps.length := by rw [← r2.length]; exact F.len _ _ _ _ h
  refine wpAny_call (codeAny_mono (F.run X.A X.stack s H ⟨us, []⟩ (us ++ ds) (vs ++ dvs) Q (E σ) hr I.env0 (hb s us I.kIn hl) r2 h) fun r s' hq => ?_)
  cases r with
  | error e => exact hx pins H s e s' I hq
  | ok fl =>
    cases fl with
    | ret u => exact I.after hq
    | next => exact False.elim hq
    | brk => exact False.elim hq
    | cont => exact False.elim hq
theorem pe_methX {C f : Addr} {fd : FuncData} {ps : List Str} {sp : Sp} {E : Sg → XK} {CX : CXT} {ds : List Value} {dvs : List V} {pl : Sem Bool} (he : PE X o to) (c : Cls X.K C) (hm : Meth X.K C m f) (F : FnOk X.prog X.w X.K X.mg X.base CX k f fd ps sp) (hr : Room k X.A) (hb : Binds X.K fd ps ds) (hd : Vals dvs ds) (hx : ∀ σ, PassesAt CX X σ (E σ)) (ha : PA X (e :: es) tA)
    (hst : starEach (e :: es) X.env = (false, eval e X.env) :: starEach es X.env := by rfl) (hpl : (backTo pos (starEach es X.env)).any (·.1) = false := by rfl)
    (ht : eval (.Call (.Attribute o m apos) (e :: es) [] pos) X.env = (do
      let ov ← eval o X.env
      standAt apos.atName
      let (f, first) ← holding [ov] (getMethod ov m pl)
      callWith pos f first (backTo pos (starEach (e :: es) X.env)) (backToKw pos (keywordEach [] X.env))) := by rfl) :
    PE X (.Call (.Attribute o m apos) (e :: es) [] pos) (tMethX C m sp dvs E to tA) := by
  refine ⟨fun pins s σ H Q I h => ?_⟩
  refine PySem.W.methodCall_KW (pl := pl) (thn (he.run pins s σ H _ I h) fun u s1 ⟨x, H1, I1, rx, a, dx, fs, ex, ea, l, q⟩ => ?_) ht
  subst ex
  obtain rfl : u = Value.ref a := rx
  refine getmeth_ok I1 ea c hm l ?_
  refine PySem.W.callWith_K (h₀ := X.base) (first := [.ref a]) I1.ok.mod.kin hm.kp (thn (ha.run pos pins s1 σ H1 _ I1 q) fun us s2 ⟨vs, H2, I2, r, q2⟩ => ⟨I2.kIn, ?_⟩) hst hpl
  exact run_fnSD' (us := .ref a :: us) (vs := .ref a :: vs) F hr hb hd (hx σ) I2 (.cons rfl r) q2
theorem pe_meth0X {C f : Addr} {fd : FuncData} {ps : List Str} {sp : Sp} {E : Sg → XK} {CX : CXT} {ds : List Value} {dvs : List V} {pl : Sem Bool} (he : PE X o to) (c : Cls X.K C) (hm : Meth X.K C m f) (F : FnOk X.prog X.w X.K X.mg X.base CX k f fd ps sp) (hr : Room k X.A) (hb : Binds X.K fd ps ds) (hd : Vals dvs ds) (hx : ∀ σ, PassesAt CX X σ (E σ))
    (ht : eval (.Call (.Attribute o m apos) [] [] pos) X.env = (do
      let ov ← eval o X.env
      standAt apos.atName
      let (f, first) ← holding [ov] (getMethod ov m pl)
      callWith pos f first (backTo pos (starEach [] X.env)) (backToKw pos (keywordEach [] X.env))) := by rfl) :
    PE X (.Call (.Attribute o m apos) [] [] pos) (tMethX C m sp dvs E to tNil) := by
  refine ⟨fun pins s σ H Q I h => ?_⟩
  refine PySem.W.methodCall_KW (pl := pl) (thn (he.run pins s σ H _ I h) fun u s1 ⟨x, H1, I1, rx, a, dx, fs, ex, ea, l, q⟩ => ?_) ht
  subst ex
  obtain rfl : u = Value.ref a := rx
  refine getmeth_ok I1 ea c hm l ?_
  exact PySem.W.callWith_K0 (first := [.ref a]) I1.kIn hm.kp (run_fnSD' (us := [.ref a]) (vs := [.ref a]) F hr hb hd (hx σ) I1 (.cons rfl .nil) q)
theorem ex_meth {g : G} {C : Addr} {Er : Sg → XK} (hC : g.mg (g.T.CN c) = some (.ref C)) (hd : ds.all dvOk = true) (hE : ∀ σ cls d H, Wx cls d σ H → Er σ cls d H) (ho : EX g Wx to xo) (ha : AX g Wx tA A) : EX g Wx (tMethX C m (spX g n xf) (ds.map dvV) Er to tA) (xMeth c m n ds xf xo A) := fun μ σ ρ st H Q w s k => by
  refine ho μ σ ρ st H _ w s ((kR.bind0 k).mono fun _ _ u _ H1 _ _ _ _ z => ?_)
  obtain ⟨v, st1, μ1, _, k1, w1, r1, k2⟩ := z
  split at k2
  · rename_i i _
    split at k2
    · rename_i c' fs hs
      split at k2
      · rename_i hcc
        have ec := Nat.eq_of_beq_eq_true hcc
        subst ec
        obtain ⟨a, C', dx, us, ha', rfl, h1, h2, h3⟩ := insAt (v := .ob 0) w1 r1 hs
        rw [hC] at h1
        cases h1
        split at k2
        · rename_i hm
          refine ⟨a, dx, us, rfl, h2, (FD.get m h3).1 hm, ?_⟩
          have k2' := k2
          refine ha μ1 σ ρ st1 H1 _ w1 (s.keep k1) ?_
          cases q : A ρ st1 with
          | bad => rw [q] at k2; exact k2.elim
          | ex e st2 => rw [q] at k2; exact fun cls d μ' H' a b c => k2 cls d μ' H' (k1.trans a) b c
          | ok vs st2 =>
            rw [q] at k2
            intro us2 μ2 H2 k3 w2 r2
            simp only [R.bind] at k2
            split at k2
            · rename_i hn
              have hn := Nat.eq_of_beq_eq_true hn
              rw [← w.len] at k2
              have vals : VOks g H2 μ2 (.ob i :: (vs ++ ds)) (.ref a :: (us2 ++ ds.map dvV)) := VOks.cons (r1.keep k3) (r2.append (dv_ok hd))
              obtain ⟨μ3, As, st3, z1, z2, z3, z4⟩ := call_ok (n := n) (k1.trans k3) w2 vals (by simp only [List.length_cons, List.length_append]; omega) k2
              refine ⟨μ3, As, st3, z1, z2, z3, ?_⟩
              cases q : xf As st3 with
              | ok v st' => rw [q] at z4; exact z4
              | bad => rw [q] at z4; exact z4
              | ex e st' => rw [q] at z4; exact fun cls d μ' H' a b c => hE σ cls d H' (z4 cls d μ' H' a b c)
            · exact k2.elim
        · exact k2.elim
      · exact k2.elim
    · exact k2.elim
  · exact k2.elim
theorem sx_meth (F : MX T P w K mg base k c m n ds xf) (tk : Takes X Wx) (hr : Room j X.A) (hk : k ≤ j) (ho : SE T X Wx o to xo) (ha : SA T X Wx (e :: es) tA A) (hX : Same5 X P w K mg base := by exact ⟨rfl, rfl, rfl, rfl, rfl⟩)
    (hs : starEach (e :: es) X.env = (false, eval e X.env) :: starEach es X.env := by rfl) (hpl : (backTo pos (starEach es X.env)).any (·.1) = false := by rfl)
    {pl : Sem Bool} (ht : eval (.Call (.Attribute o m apos) (e :: es) [] pos) X.env = (do
      let ov ← eval o X.env
      standAt apos.atName
      let (f, first) ← holding [ov] (getMethod ov m pl)
      callWith pos f first (backTo pos (starEach (e :: es) X.env)) (backToKw pos (keywordEach [] X.env))) := by rfl) :
    SE T X Wx (.Call (.Attribute o m apos) (e :: es) [] pos) (tMethX (clsOf mg T c) m (spX ⟨K, mg, w, T⟩ n xf) (ds.map dvV) (L2.WE Wx) to tA) (xMeth c m n ds xf xo A) := by
  obtain ⟨rfl, rfl, rfl, rfl, rfl⟩ := hX
  obtain ⟨f, fd, ps, dus, h1, h2, h3, h4, h5, h6, h7, h8⟩ := F.ex
  exact ⟨pe_methX ho.pe h2 h3 h8 (hr.mono hk) h4 h5 (fun σ => passAt tk σ) ha.pe hs hpl ht, ex_meth (g := gX T X) h1 h6 (fun _ _ _ _ z => z) ho.ex ha.ex⟩
theorem sx_meth0 (F : MX T P w K mg base k c m n ds xf) (tk : Takes X Wx) (hr : Room j X.A) (hk : k ≤ j) (ho : SE T X Wx o to xo) (hX : Same5 X P w K mg base := by exact ⟨rfl, rfl, rfl, rfl, rfl⟩)
    {pl : Sem Bool} (ht : eval (.Call (.Attribute o m apos) [] [] pos) X.env = (do
      let ov ← eval o X.env
      standAt apos.atName
      let (f, first) ← holding [ov] (getMethod ov m pl)
      callWith pos f first (backTo pos (starEach [] X.env)) (backToKw pos (keywordEach [] X.env))) := by rfl) :
    SE T X Wx (.Call (.Attribute o m apos) [] [] pos) (tMethX (clsOf mg T c) m (spX ⟨K, mg, w, T⟩ n xf) (ds.map dvV) (L2.WE Wx) to tNil) (xMeth c m n ds xf xo xNil) := by
  obtain ⟨rfl, rfl, rfl, rfl, rfl⟩ := hX
  obtain ⟨f, fd, ps, dus, h1, h2, h3, h4, h5, h6, h7, h8⟩ := F.ex
  exact ⟨pe_meth0X ho.pe h2 h3 h8 (hr.mono hk) h4 h5 (fun σ => passAt tk σ) ht, ex_meth (g := gX T X) h1 h6 (fun _ _ _ _ z => z) ho.ex ex_nil⟩
/-! ### making -/
structure NX (T : Tb) (P : Program) (w : World) (K : PySem.W.Frag) (mg : Str → Option Value) (base : Heap) (k : Nat) (c : Nat) (n : Nat) (xf : List Val → Store → R Val) : Prop where
  ex : ∃ (f : Addr) (fd : FuncData) (ps : List Str), mg (T.CN c) = some (.ref (clsOf mg T c)) ∧ Mk K (clsOf mg T c) f ∧ Binds K fd ps [] ∧ ps.length = n ∧ FnOk P w K mg base (L2.CX P w) k f fd ps (spX ⟨K, mg, w, T⟩ n xf)
def xMake (c n : Nat) (xf : List Val → Store → R Val) (a : XA) : XE := fun ρ st => (a ρ st).bind fun vs st1 => if Nat.beq (vs.length + 1) n then (match callR xf (st1.length + 1) (.ob st1.length :: vs) (st1 ++ [.ins c []]) with
  | .ok (.im .non) st2 => .ok (.ob st1.length) st2
  | .ex e st2 => .ex e st2
  | _ => .bad) else .bad
def tMakeX (C : Addr) (sp : Sp) (E : Sg → XK) (t : TA) : TE := fun σ H Q => t σ H fun vs H1 => ∀ x dx, H1 x = none → H1 dx = none → dx ≠ x →
  sp (.ref x :: vs) (upd (upd H1 dx (.own x)) x (.ins C dx [])) (fun v H2 => v = .non ∧ Q (.ref x) H2) (E σ)
theorem run_makeX {C f : Addr} {fd : FuncData} {ps : List Str} {sp : Sp} {E : XK} {CX : CXT} {pins : List (Addr × Obj)} {σ : Sg} {H : Hp} {s : Shared} {Q : VK} {us : List Value} {vs : List V} (M : Mk X.K C f) (F : FnOk X.prog X.w X.K X.mg X.base CX k f fd ps sp) (hr : Room (k + 1) X.A) (hb : Binds X.K fd ps [])
    (hx : PassesAt CX X σ E) (I : Inv X pins σ H s) (r : Vals vs us)
    (h : ∀ x dx, H x = none → H dx = none → dx ≠ x → sp (.ref x :: vs) (upd (upd H dx (.own x)) x (.ins C dx [])) (fun v H2 => v = .non ∧ Q (.ref x) H2) E) :
    wpAny (model X.prog X.w) X.A (call (.ref C) us) (EP X pins σ Q) X.xe s := by
  have hq := h (s.heap.objs.size + 1) s.heap.objs.size (I.hok.fresh (Nat.le_succ _)) (I.hok.fresh (Nat.le_refl _)) (Nat.ne_of_lt (Nat.lt_succ_self _))
  have I2 := Inv.made (C := C) I
  have r2 : Vals (V.ref (s.heap.objs.size + 1) :: vs) (Value.ref (s.heap.objs.size + 1) :: us) := .cons rfl r
  have hl : ((Value.ref (s.heap.objs.size + 1) :: us) ++ []).length = ps.length := by
    have e := r2.length
    rw [F.len _ _ _ _ hq] at e
    rw [List.append_nil]
    exact e.symm
  have hb2 := hb _ (Value.ref (s.heap.objs.size + 1) :: us) I2.kIn hl
  rw [List.append_nil] at hb2
  refine wpAny_call (make_map (f := f) I.kIn M.makes M.init (beq_iff_eq.mp M.fn) (codeAny_mono (F.run _ X.stack _ _ ⟨Value.ref (s.heap.objs.size + 1) :: us, []⟩ (Value.ref (s.heap.objs.size + 1) :: us) _ _ E (hr.make C us [])
    (I2.env0.make C us []) hb2 r2 hq) fun r s' hq' => ?_))
  cases r with
  | error e => exact hx pins _ _ e s' I2 hq'
  | ok fl =>
    cases fl with
    | ret u =>
      obtain ⟨v, H', I3, rv, ev, q3⟩ := I2.after hq'
      subst ev
      exact ⟨rv, ⟨V.ref (s.heap.objs.size + 1), H', I3, rfl, q3⟩⟩
    | next => exact False.elim hq'
    | brk => exact False.elim hq'
    | cont => exact False.elim hq'
theorem pe_makeX {C f : Addr} {fd : FuncData} {ps : List Str} {sp : Sp} {E : Sg → XK} {CX : CXT} (M : Mk X.K C f) (F : FnOk X.prog X.w X.K X.mg X.base CX k f fd ps sp) (hr : Room (k + 1) X.A) (hg : Gl X x) (hm : X.mg x = some (.ref C)) (hb : Binds X.K fd ps []) (hx : ∀ σ, PassesAt CX X σ (E σ))
    (ha : PA X (e :: es) tA) (hdb : (x == ("__debug__" : Str)) = false := by decide) (he : starEach (e :: es) X.env = (false, eval e X.env) :: starEach es X.env := by rfl) (hpl : (backTo pos (starEach es X.env)).any (·.1) = false := by rfl) :
    PE X (.Call (.Name x p') (e :: es) [] pos) (tMakeX C sp E tA) := by
  refine ⟨fun pins s σ H Q I h => ?_⟩
  refine wpAny_Call_Name_kw (ld_glob I hg hm ?_ hdb)
  refine PySem.W.callWith_K (h₀ := X.base) I.ok.mod.kin M.kp (thn (ha.run pos pins s σ H _ I h) fun us s1 ⟨vs, H1, I1, r, q⟩ => ⟨I1.kIn, ?_⟩) he hpl
  exact run_makeX M F hr hb (hx σ) I1 r q
theorem ex_make {g : G} {C : Addr} {Er : Sg → XK} (hC : g.mg (g.T.CN c) = some (.ref C)) (hE : ∀ σ cls d H, Wx cls d σ H → Er σ cls d H) (ha : AX g Wx tA A) : EX g Wx (tMakeX C (spX g n xf) Er tA) (xMake c n xf A) := fun μ σ ρ st H Q w s k => by
  refine ha μ σ ρ st H _ w s ((kR.bind k).mono fun _ _ u _ H1 _ _ _ _ z => ?_)
  obtain ⟨vs, st1, μ1, _, k1, w1, r1, k2⟩ := z
  intro x dx hx hdx ne
  split at k2
  · rename_i hn
    have hn := Nat.eq_of_beq_eq_true hn
    have w2 := w1.fresh (o := .own x) hdx
    have kf : Keep μ1 H1 μ1 (upd H1 dx (.own x)) := Keep.fresh hdx
    obtain ⟨k3, w3, v3⟩ := w2.alloc (p := x) (o := .ins C dx []) (c := .ins c []) (by rw [upd_ne (fun z => ne z.symm)]; exact hx) fun kk => ⟨C, dx, [], hC, upd_same, rfl, VOks.nil⟩
    have vals := VOks.cons v3 ((r1.keep kf).keep k3)
    have len : (μ1 ++ [x]).length = st1.length + 1 := by simp [w1.len]
    have fin : kR g Wx σ (μ1 ++ [x]) (upd (upd H1 dx (.own x)) x (.ins C dx [])) (VOk g) (fun v H2 => v = .non ∧ Q (.ref x) H2) (callR xf (μ1 ++ [x]).length (.ob st1.length :: vs) (st1 ++ [.ins c []])) := by
      rw [len]
      cases q : callR xf (st1.length + 1) (.ob st1.length :: vs) (st1 ++ [.ins c []]) with
      | bad => rw [q] at k2; exact k2
      | ex e st2 => rw [q] at k2; exact fun cls d μ' H' kk ww xx => k2 cls d μ' H' ((kf.trans k3).trans kk) ww xx
      | ok v st2 =>
        rw [q] at k2
        intro u μ' H' kk ww hu
        split at k2
        · rename_i e2
          cases e2
          cases hu
          refine ⟨rfl, k2 _ μ' H' ((kf.trans k3).trans kk) ww ?_⟩
          exact v3.keep kk
        · rename_i e2
          cases e2
        · exact k2.elim
    obtain ⟨μ3, As, st3, z1, z2, z3, z4⟩ := call_ok (n := n) Keep.refl w3 vals (by simpa using hn) fin
    refine ⟨μ3, As, st3, z1, z2, z3, ?_⟩
    cases q : xf As st3 with
    | ok v st' => rw [q] at z4; exact z4
    | bad => rw [q] at z4; exact z4
    | ex e st' => rw [q] at z4; exact fun cls d μ' H' a b c => hE σ cls d H' (z4 cls d μ' H' a b c)
  · exact k2.elim
theorem sx_make (F : NX T P w K mg base k c n xf) (tk : Takes X Wx) (hr : Room j X.A) (hk : k + 1 ≤ j) (ha : SA T X Wx (e :: es) tA A) (hx : T.CN c = x := by rfl) (hX : Same5 X P w K mg base := by exact ⟨rfl, rfl, rfl, rfl, rfl⟩) (hg : Gl X x := by rfl) (hd : (x == ("__debug__" : Str)) = false := by decide)
    (hs : starEach (e :: es) X.env = (false, eval e X.env) :: starEach es X.env := by rfl) (hpl : (backTo pos (starEach es X.env)).any (·.1) = false := by rfl) : SE T X Wx (.Call (.Name x p') (e :: es) [] pos) (tMakeX (clsOf mg T c) (spX ⟨K, mg, w, T⟩ n xf) (L2.WE Wx) tA) (xMake c n xf A) := by
  obtain ⟨rfl, rfl, rfl, rfl, rfl⟩ := hX
  obtain ⟨f, fd, ps, h1, h2, h3, h4, h5⟩ := F.ex
  exact ⟨pe_makeX h2 h5 (hr.mono hk) hg (by rw [← hx]; exact h1) h3 (fun σ => passAt tk σ) ha.pe hd hs hpl, ex_make (g := gX T X) h1 (fun _ _ _ _ z => z) ha.ex⟩
end
end SX
/-! SX: what is never reached; calls without arguments; calls of defs that are values; dicts of the module; methods and classes as they stand. -/
namespace SX
open PySem PySem.Spec PyProof.Rows L2 PL
open PL (Dt Imm Imms SqN Tups)
def xBadS : XS := fun _ _ => .bad
section
variable {T : Tb} {X : Cx} {Wx : WX} {e : Expr} {s : Stmt} {ss : List Stmt}
theorem s_bad : SS T X Wx s (fun _ _ _ => False) xBadS := ⟨⟨fun _ _ _ _ _ _ h => h.elim⟩, fun _ _ _ _ _ _ _ _ k => k.elim⟩
theorem ss_bad : SSs T X Wx ss (fun _ _ _ => False) xBadS := ⟨⟨fun _ _ _ _ _ _ h => h.elim⟩, fun _ _ _ _ _ _ _ _ k => k.elim⟩
end
/-! ### f() -/
section
variable {T : Tb} {X : Cx} {Wx : WX} {pos p' : Pos} {ta tf : TE} {tA : TA} {A : XA} {xf0 : XE} {n k j : Nat} {x : Str} {e fe : Expr} {es : List Expr} {xf : List Val → Store → R Val} {P : Program} {w : World} {K : PySem.W.Frag} {mg : Str → Option Value} {base : Heap}
theorem sx_call0 (F : FX T P w K mg base k x n xf) (tk : Takes X Wx) (hr : Room j X.A) (hk : k ≤ j) (hX : Same5 X P w K mg base := by exact ⟨rfl, rfl, rfl, rfl, rfl⟩) (hg : Gl X x := by rfl) (hd : (x == ("__debug__" : Str)) = false := by decide) :
    SE T X Wx (.Call (.Name x p') [] [] pos) (fun σ H Q => tNil σ H fun vs H1 => spX ⟨K, mg, w, T⟩ n xf vs H1 Q (L2.WE Wx σ)) (xCall xf n xNil) := by
  obtain ⟨rfl, rfl, rfl, rfl, rfl⟩ := hX
  obtain ⟨f, fd, ps, hm, hkp, hb, hn, G⟩ := F.ex
  refine ⟨⟨fun pins s σ H Q I h => ?_⟩, ex_call (Er := L2.WE Wx) (fun _ _ _ _ z => z) ex_nil⟩
  refine wpAny_Call_Name_kw (ld_glob I hg hm ?_ hd)
  exact PySem.W.callWith_K0 (first := []) I.kIn hkp (run_fnSD' (E := fun σ => L2.WE Wx σ) (us := []) (vs := []) G (hr.mono hk) hb .nil (passAt tk σ) I .nil h)
/-! ### a def that is a value -/
abbrev Tbl := Nat → Option (Nat × (List Val → Store → R Val))
def xCallV (tbl : Tbl) (f : XE) (a : XA) : XE := fun ρ st => (f ρ st).bind fun v st1 => match v with
  | .fn k => (match tbl k with
    | some (n, xf) => xCall xf n a ρ st1
    | none => .bad)
  | _ => .bad
theorem sx_callV {tbl : Tbl} (F : ∀ i n xf, tbl i = some (n, xf) → FX T P w K mg base k (T.FN i) n xf) (tk : Takes X Wx) (hr : Room j X.A) (hk : k ≤ j) (hf : SE T X Wx fe tf xf0) (ha : SA T X Wx (e :: es) tA A) (hX : Same5 X P w K mg base := by exact ⟨rfl, rfl, rfl, rfl, rfl⟩)
    (hev : eval (.Call fe (e :: es) [] pos) X.env = (do callWith pos (← eval fe X.env) [] (backTo pos (starEach (e :: es) X.env)) (backToKw pos (keywordEach [] X.env))) := by rfl)
    (hs : starEach (e :: es) X.env = (false, eval e X.env) :: starEach es X.env := by rfl) (hpl : (backTo pos (starEach es X.env)).any (·.1) = false := by rfl) :
    SE T X Wx (.Call fe (e :: es) [] pos) (fun σ H Q => tf σ H fun u H1 => ∃ a i n xf, u = .ref a ∧ mg (T.FN i) = some (.ref a) ∧ tbl i = some (n, xf) ∧ tA σ H1 fun vs H2 => spX ⟨K, mg, w, T⟩ n xf vs H2 Q (L2.WE Wx σ)) (xCallV tbl xf0 A) := by
  obtain ⟨rfl, rfl, rfl, rfl, rfl⟩ := hX
  refine ⟨⟨fun pins s σ H Q I h => ?_⟩, fun μ σ ρ st H Q w s k => ?_⟩
  · rw [hev]
    refine wpAny_bind (thn (hf.pe.run pins s σ H _ I h) fun u s1 ⟨v, H1, I1, r1, q1⟩ => ?_)
    obtain ⟨a, i, n, xf, rfl, e1, e2, q1⟩ := q1
    obtain ⟨f, fd, ps, hm, hkp, hb, hn, G⟩ := (F i n xf e2).ex
    rw [e1] at hm
    cases hm
    cases r1
    exact PySem.W.callWith_K (h₀ := X.base) I.ok.mod.kin hkp (thn (ha.pe.run pos pins s1 σ H1 _ I1 q1) fun us s2 ⟨vs, H2, I2, r, q2⟩ => ⟨I2.kIn, run_fnSD' (E := fun σ => L2.WE Wx σ) G (hr.mono hk) hb .nil (passAt tk σ) I2 r (by rw [List.append_nil]; exact q2)⟩) hs hpl
  · refine hf.ex μ σ ρ st H _ w s ((kR.bind k).mono fun _ _ u _ H1 _ _ _ _ z => ?_)
    obtain ⟨v, st1, μ1, _, k1, w1, r1, k2⟩ := z
    split at k2
    · rename_i i _
      split at k2
      · rename_i n xf e2
        obtain ⟨a, e1, rfl⟩ := r1
        exact ⟨a, i, n, xf, rfl, e1, e2, ex_call (g := gX T X) (Er := L2.WE Wx) (fun _ _ _ _ z => z) ha.ex μ1 σ ρ st1 H1 Q w1 (s.keep k1) k2⟩
      · exact k2.elim
    · exact k2.elim
end
/-! ### a dict of the module, by the keys that are asked -/
def kvG : List (Str × Option Val) → Str → Option (Option Val)
  | [], _ => none
  | (k, v) :: r, f => if strEq k f then some v else kvG r f
structure KD (T : Tb) (w : World) (K : PySem.W.Frag) (mg : Str → Option Value) (x : Str) (kvs : List (Str × Option Val)) : Prop where
  ex : ∃ d es n, mg x = some (.ref d) ∧ KDict K w d es n ∧ ∀ k v, (k, v) ∈ kvs → match v with
    | none => PySem.W.nsIn K d k = some none
    | some v => ∃ u y, PySem.W.nsIn K d k = some (some u) ∧ RelV y u ∧ ∀ H μ, VOk ⟨K, mg, w, T⟩ H μ v y
theorem kvG_mem : ∀ {kvs : List (Str × Option Val)} {f : Str} {v : Option Val}, kvG kvs f = some v → (f, v) ∈ kvs
  | [], f, v, h => by cases h
  | (k, u) :: r, f, v, h => by
    rw [kvG] at h
    split at h
    · rename_i e
      rw [strEq_eq, decide_eq_true_eq] at e
      cases h
      rw [e]
      exact List.mem_cons_self
    · exact List.mem_cons_of_mem _ (kvG_mem h)
def xInK (neg : Bool) (kvs : List (Str × Option Val)) (a : XE) : XE := fun ρ st => (a ρ st).bind fun v st => match v with
  | .im (.str z) => (match kvG kvs z with
    | some r => .ok (.im (.bl (r.isSome != neg))) st
    | none => .bad)
  | _ => .bad
def xIxK (kvs : List (Str × Option Val)) (a : XE) : XE := fun ρ st => (a ρ st).bind fun v st => match v with
  | .im (.str z) => (match kvG kvs z with
    | some (some r) => .ok r st
    | _ => .bad)
  | _ => .bad
section
variable {T : Tb} {X : Cx} {Wx : WX} {pos p' : Pos} {ta : TE} {a : XE} {e : Expr} {x : Str} {kvs : List (Str × Option Val)}
def dOf (mg : Str → Option Value) (x : Str) : Addr := match mg x with
  | some (.ref d) => d
  | _ => 0
theorem dOf_eq {mg : Str → Option Value} {x : Str} {d : Addr} (h : mg x = some (.ref d)) : dOf mg x = d := by
  unfold dOf
  rw [h]
def rInK (w : World) (K : PySem.W.Frag) (d : Addr) (neg : Bool) : R2 := fun x y H Q => ∃ (z : Str) (r : Option Value), x = .str z ∧ y = .ref d ∧ PySem.W.nsIn K d z = some r ∧ Q (.bl (r.isSome != neg)) H
theorem ex_inK {neg : Bool} (D : KD T X.w X.K X.mg x kvs) (ha : EX (gX T X) Wx ta a) : EX (gX T X) Wx (tOp (rInK X.w X.K (dOf X.mg x) neg) ta (tC (.ref (dOf X.mg x)))) (xInK neg kvs a) := fun μ σ ρ st H Q w s k => by
  obtain ⟨d, es, n, h1, h2, h3⟩ := D.ex
  rw [dOf_eq h1]
  refine ha μ σ ρ st H _ w s ((kR.bind k).mono fun _ _ u _ H1 _ _ _ _ z => ?_)
  obtain ⟨v, st1, μ1, _, k1, w1, r1, k2⟩ := z
  split at k2
  · split at k2
    · rename_i r e
      have z := h3 _ _ (kvG_mem e)
      cases r1
      cases r with
      | none => exact ⟨_, none, rfl, rfl, z, k_im w1 k2 rfl⟩
      | some y =>
        obtain ⟨u0, v0, z1, z2, z3⟩ := z
        exact ⟨_, some u0, rfl, rfl, z1, k_im w1 k2 rfl⟩
    · exact k2.elim
  · exact k2.elim
/-! D[k] -/
def rIxK (K : PySem.W.Frag) (d : Addr) : R2 := fun x y H Q => ∃ (z : Str) (u0 : Value) (v0 : V), x = .ref d ∧ y = .str z ∧ PySem.W.nsIn K d z = some (some u0) ∧ RelV v0 u0 ∧ Q v0 H
theorem sx_ixK (D : KD T X.w X.K X.mg x kvs) (ha : SE T X Wx e ta a) (hg : Gl X x := by rfl) (hd : (x == ("__debug__" : Str)) = false := by decide) (hs : PlainIx e := by exact fun _ _ => rfl) : SE T X Wx (.Subscript (.Name x p') e pos) (tOp (rIxK X.K (dOf X.mg x)) (tC (.ref (dOf X.mg x))) ta) (xIxK kvs a) := by
  obtain ⟨d, es, n, h1, h2, h3⟩ := D.ex
  rw [dOf_eq h1]
  refine ⟨pe_ix ?_ (pe_glob hg h1 (rfl : RelV (.ref d) _) hd) ha.pe hs, fun μ σ ρ st H Q w s k => ?_⟩
  · intro value slice pins s σ H x y v u Q I rx ry h hs
    obtain ⟨z, u0, v0, rfl, rfl, z1, z2, q⟩ := h
    exact ix_kdict value slice pins s σ H _ _ v u Q I rx ry ⟨d, z, v0, rfl, rfl, ⟨es, n, u0, h2.at_, h2.lit, z1, z2⟩, q⟩ hs
  · refine ha.ex μ σ ρ st H _ w s ((kR.bind k).mono fun _ _ u _ H1 _ _ _ _ z => ?_)
    obtain ⟨v, st1, μ1, _, k1, w1, r1, k2⟩ := z
    split at k2
    · split at k2
      · rename_i r e
        obtain ⟨u0, v0, z1, z2, z3⟩ := h3 _ _ (kvG_mem e)
        cases r1
        exact ⟨_, u0, v0, rfl, rfl, z1, z2, k_val w1 (z3 _ _) k2⟩
      · exact k2.elim
    · exact k2.elim
end
/-! ### methods and classes as they stand -/
/-- a class has no f of its own (a field) -/
def Cf (K : PySem.W.Frag) (mg : Str → Option Value) (C f : Str) : Prop := ∃ Ca, mg C = some (.ref Ca) ∧ Cls K Ca ∧ NoAttr K Ca f
theorem FldOk.nil {K : PySem.W.Frag} {mg : Str → Option Value} {T : Tb} {f : Str} : FldOk K mg T [] f := fun c h => by cases h
theorem FldOk.cons {K : PySem.W.Frag} {mg : Str → Option Value} {T : Tb} {f C : Str} {c : Nat} {cs : List Nat} (h : Cf K mg C f) (t : FldOk K mg T cs f) (hc : T.CN c = C := by rfl) : FldOk K mg T (c :: cs) f := fun d hd => by
  rcases List.mem_cons.mp hd with e | hd
  · subst e; rw [hc]; exact h
  · exact t d hd
structure Md (K : PySem.W.Frag) (mg : Str → Option Value) (C m qual : Str) (st : Stmt) (ps : List Str) (ds : List Val) : Prop where
  ex : ∃ (Ca f : Addr) (fd : FuncData) (dus : List Value) (dvs : List V), mg C = some (.ref Ca) ∧ Cls K Ca ∧ Meth K Ca m f ∧ FunD K m qual (defArgs st) (defBody st) (defScope st) dvs [] f fd ∧ Binds K fd ps dus ∧ Vals (ds.map dvV) dus ∧ ds.all dvOk = true
structure Nd (K : PySem.W.Frag) (mg : Str → Option Value) (C qual : Str) (st : Stmt) (ps : List Str) : Prop where
  ex : ∃ (Ca f : Addr) (fd : FuncData) (dvs : List V), mg C = some (.ref Ca) ∧ Mk K Ca f ∧ FunD K "__init__" qual (defArgs st) (defBody st) (defScope st) dvs [] f fd ∧ Binds K fd ps []
theorem funD_of {K : PySem.W.Frag} {x qual : Str} {st : Stmt} {f : Addr} {oc : Value} {od an : Option Addr} {osl : Array (Option Value)} {kV doc pm cdv ct : Value} (l : K.lookup f = some ⟨oc, od, .func (PySem.W.fnOf x qual (defArgs st) (defBody st) (defScope st) .none kV doc pm an cdv ct), osl⟩)
    (c : PySem.W.codeIn K cdv qual = true) (k : PySem.W.keepIn K (.ref f) = true) : FunD K x qual (defArgs st) (defBody st) (defScope st) [] [] f (PySem.W.fnOf x qual (defArgs st) (defBody st) (defScope st) .none kV doc pm an cdv ct) :=
  ⟨⟨oc, od, .none, kV, doc, pm, an, cdv, ct, osl, rfl, l, c, .inl ⟨rfl, rfl⟩, .inl rfl⟩, k⟩
section
variable {T : Tb} {P : Program} {w : World} {K : PySem.W.Frag} {mg : Str → Option Value} {base : Heap}
theorem fnx {N ps : List Str} {x qual : Str} {st : Stmt} {f : Addr} {fd : FuncData} {dvs : List V} {k n : Nat} {b : XS} (F : FunD K x qual (defArgs st) (defBody st) (defScope st) dvs [] f fd) (S : FnScope N ps (defScope st)) (hn : ps.length = n)
    (body : ∀ (f : Addr) (cdv : Value) (A : Around) (outer : List Env) (s : Shared) (H : Hp) (E : XK), Room k (A.deeper (envOfC qual (defScope st) s.heap.objs.size f cdv)) → ∃ t, SSs T (cxOf (L2.CX P w) P w K mg base N qual (defScope st) f cdv A outer s H E) (fun cls d _ H => E cls d H) (defBody st) t b) :
    FnOk P w K mg base (L2.CX P w) (k + 1) f fd ps (spX ⟨K, mg, w, T⟩ n (xDef (N.length - n) b)) := by
  refine F.ok S (fun vs H Q E h => ?_) fun cdv A outer s H vs Q E hr h => ?_
  · obtain ⟨_, _, _, z, _⟩ := h
    omega
  · obtain ⟨t, B⟩ := body f cdv A outer s H E hr
    refine ⟨t, B.ps, ?_⟩
    obtain ⟨μ, As, st0, z, w0, v0, h0⟩ := h
    rw [start_eq (n := n) z]
    refine B.ex μ _ _ st0 H _ w0 (SOk.start v0 _) ?_
    unfold xDef at h0
    cases q : b (As.map some ++ List.replicate (N.length - n) none) st0 with
    | nx ρ st' => rw [q] at h0; exact fun σ' μ' H' k w' _ => h0 .non μ' H' k w' rfl
    | rt v st' => rw [q] at h0; exact h0
    | bk ρ st' => rw [q] at h0; exact h0.elim
    | ct ρ st' => rw [q] at h0; exact h0.elim
    | er e ρ st' => rw [q] at h0; exact fun cls d σ' μ' H' k w' s' x => h0 cls d μ' H' k w' x
    | bad => rw [q] at h0; exact h0.elim
theorem fnx_none {ps : List Str} {x qual : Str} {st : Stmt} {f : Addr} {fd : FuncData} {n k : Nat} : FnOk P w K mg base (L2.CX P w) k f fd ps (spX ⟨K, mg, w, T⟩ n (fun _ _ => .bad)) := by
  refine ⟨fun vs H Q E h => ?_, fun A outer s H args us vs Q E hr e hb hv h => ?_⟩
  · obtain ⟨_, _, _, _, _, _, h⟩ := h; exact h.elim
  · obtain ⟨_, _, _, _, _, _, h⟩ := h; exact h.elim
theorem mx_of {C m qual : Str} {st : Stmt} {N ps : List Str} {k n c : Nat} {ds : List Val} {b : XS} (D : Md K mg C m qual st ps ds) (S : FnScope N ps (defScope st)) (hn : ps.length = n)
    (body : ∀ (f : Addr) (cdv : Value) (A : Around) (outer : List Env) (s : Shared) (H : Hp) (E : XK), Room k (A.deeper (envOfC qual (defScope st) s.heap.objs.size f cdv)) → ∃ t, SSs T (cxOf (L2.CX P w) P w K mg base N qual (defScope st) f cdv A outer s H E) (fun cls d _ H => E cls d H) (defBody st) t b) (hc : T.CN c = C := by rfl) :
    MX T P w K mg base (k + 1) c m n ds (xDef (N.length - n) b) := by
  obtain ⟨Ca, f, fd, dus, dvs, h1, h2, h3, h4, h5, h6, h7⟩ := D.ex
  have e := clsOf_eq (T := T) (c := c) (by rw [hc]; exact h1)
  exact ⟨f, fd, ps, dus, by rw [e, hc]; exact h1, by rw [e]; exact h2, by rw [e]; exact h3, h5, h6, h7, hn, fnx h4 S hn body⟩
theorem MX.none {C m qual : Str} {st : Stmt} {ps : List Str} {k n c : Nat} {ds : List Val} (D : Md K mg C m qual st ps ds) (hn : ps.length = n) (hc : T.CN c = C := by rfl) : MX T P w K mg base k c m n ds (fun _ _ => .bad) := by
  obtain ⟨Ca, f, fd, dus, dvs, h1, h2, h3, h4, h5, h6, h7⟩ := D.ex
  have e := clsOf_eq (T := T) (c := c) (by rw [hc]; exact h1)
  exact ⟨f, fd, ps, dus, by rw [e, hc]; exact h1, by rw [e]; exact h2, by rw [e]; exact h3, h5, h6, h7, hn, fnx_none (x := m) (qual := qual) (st := st)⟩
theorem nx_of {C qual : Str} {st : Stmt} {N ps : List Str} {k n c : Nat} {b : XS} (D : Nd K mg C qual st ps) (S : FnScope N ps (defScope st)) (hn : ps.length = n)
    (body : ∀ (f : Addr) (cdv : Value) (A : Around) (outer : List Env) (s : Shared) (H : Hp) (E : XK), Room k (A.deeper (envOfC qual (defScope st) s.heap.objs.size f cdv)) → ∃ t, SSs T (cxOf (L2.CX P w) P w K mg base N qual (defScope st) f cdv A outer s H E) (fun cls d _ H => E cls d H) (defBody st) t b) (hc : T.CN c = C := by rfl) :
    NX T P w K mg base (k + 1) c n (xDef (N.length - n) b) := by
  obtain ⟨Ca, f, fd, dvs, h1, h2, h3, h4⟩ := D.ex
  have e := clsOf_eq (T := T) (c := c) (by rw [hc]; exact h1)
  exact ⟨f, fd, ps, by rw [e, hc]; exact h1, by rw [e]; exact h2, h4, hn, fnx h3 S hn body⟩
end
end SX
/-! SX: methods of texts, sorted, len(set(..)), chains, +=, constants that are tuples, defs by other names. -/
namespace SX
open PySem PySem.Spec PyProof.Rows L2 PL
open PL (Dt Imm Imms SqN Tups)
def strsV : List Val → Option (List Str)
  | [] => some []
  | .im (.str x) :: vs => (match strsV vs with
    | some r => some (x :: r)
    | none => none)
  | _ => none
def memS (x : Str) : List Str → Bool
  | [] => false
  | y :: r => if strEq x y then true else memS x r
def ndS : List Str → Bool
  | [] => true
  | x :: r => if memS x r then false else ndS r
def dedS : List Str → List Str
  | [] => []
  | x :: r => if memS x r then dedS r else x :: dedS r
def insX (x : Str) : List Str → List Str
  | [] => [x]
  | y :: r => if natsLt x.cps.toList y.cps.toList then x :: y :: r else if strEq x y then y :: r else y :: insX x r
def srtX : List Str → List Str
  | [] => []
  | x :: r => insX x (srtX r)
def keysS : List (Key × Val) → Option (List Str)
  | [] => some []
  | (.inr x, _) :: vs => (match keysS vs with
    | some r => some (x :: r)
    | none => none)
  | _ => none
def splX (a b : Str) : List Str := Txt.split a b
def joinX (a : Str) (ys : List Str) : Str := Txt.join a ys
def stripX (a b : Str) : Str := Txt.stripChars a b
def lstripX (a b : Str) : Str := Txt.lstripChars a b
def startX (a b : Str) : Bool := Txt.startswith a b
def mSplit : Val → List Val → Store → R Val
  | .im (.str a), [.im (.str b)], st => ifR (!(Nat.beq (strLen b) 0) && szOk (strLen a + 2)) (.ok (.ob st.length) (st ++ [.lst ((splX a b).map Dt.str)]))
  | _, _, _ => .bad
def mStrip : Val → List Val → Store → R Val
  | .im (.str a), [.im (.str b)], st => ifR (szOk (strLen a)) (.ok (.im (.str (stripX a b))) st)
  | _, _, _ => .bad
def mLstrip : Val → List Val → Store → R Val
  | .im (.str a), [.im (.str b)], st => ifR (szOk (strLen a)) (.ok (.im (.str (lstripX a b))) st)
  | _, _, _ => .bad
def mStart : Val → List Val → Store → R Val
  | .im (.str a), [.im (.str b)], st => .ok (.im (.bl (startX a b))) st
  | _, _, _ => .bad
def mJoin : Val → List Val → Store → R Val
  | .im (.str a), [v], st => (match seqV st v with
    | some vs => (match strsV vs with
      | some ys => ifR (szOk ((ys.map strLen).sum + ys.length * strLen a)) (.ok (.im (.str (joinX a ys))) st)
      | none => .bad)
    | none => .bad)
  | _, _, _ => .bad
def srtR (xs : List Str) (st : Store) : R Val := ifR (Nat.blt xs.length 64 && ndS xs) (.ok (.ob st.length) (st ++ [.lst ((srtX xs).map Dt.str)]))
def fSorted : Val → Store → R Val
  | .ob i, st => (match st[i]? with
    | some (.dct kvs) => (match keysS kvs with
      | some xs => srtR xs st
      | none => .bad)
    | _ => (match lsV st (.ob i) with
      | some vs => (match strsV vs with
        | some xs => srtR xs st
        | none => .bad)
      | none => .bad))
  | _, _ => .bad
def fLenSet : Val → Store → R Val := fun v st => match seqV st v with
  | some vs => (match strsV vs with
    | some ys => ifR (Nat.blt ys.length 4000) (.ok (.im (.int ((dedS ys).length : Nat))) st)
    | none => .bad)
  | none => .bad
def oIadd : Val → Val → Store → R Val
  | .im (.int i), .im (.int j), st => .ok (.im (.int (i + j))) st
  | .im (.str i), .im (.str j), st => ifR (szOk (strLen i + strLen j)) (.ok (.im (.str (strCat i j))) st)
  | _, _, _ => .bad
def xChain (f f' : Val → Val → Store → R Val) (a b c : XE) : XE := fun ρ st => (a ρ st).bind fun u st => (b ρ st).bind fun v st => (f u v st).bind fun z st => match z with
  | .im (.bl k) => (match k with
    | true => (c ρ st).bind fun w st => f' v w st
    | false => .ok (.im (.bl false)) st)
  | _ => .bad
section
variable {g : G} {Wx : WX} {σ : Sg} {μ μ' : List Addr} {st : Store} {H H' : Hp} {Q : VK}
theorem strsV_ok : ∀ {vs : List Val} {ws : List V} {ys : List Str}, strsV vs = some ys → VOks g H μ vs ws → ws = ys.map V.str
  | [], ws, ys, e, h => by cases e; exact h
  | v :: vs, ws, ys, e, h => by
    unfold strsV at e
    split at e
    · rename_i e1; cases e1
    · rename_i x vs' e1
      cases e1
      split at e
      · rename_i r er
        cases e
        obtain ⟨u, us, rfl, h1, h2⟩ := h
        cases h1
        rw [strsV_ok er h2]
        rfl
      · cases e
    · cases e
theorem memS_iff {x : Str} : ∀ {l : List Str}, memS x l = true ↔ x ∈ l
  | [] => by simp [memS]
  | y :: r => by
    rw [memS]
    split
    · rename_i e
      rw [strEq_eq, decide_eq_true_eq] at e
      simp [e]
    · rename_i e
      rw [strEq_eq, decide_eq_true_eq] at e
      rw [memS_iff (l := r), List.mem_cons]
      simp [e]
theorem ndS_iff : ∀ {l : List Str}, ndS l = true → l.Nodup
  | [], _ => List.nodup_nil
  | x :: r, h => by
    rw [ndS] at h
    split at h
    · cases h
    · rename_i e
      exact List.nodup_cons.mpr ⟨fun z => e (memS_iff.mpr z), ndS_iff h⟩
theorem dedS_mem {z : Str} : ∀ {l : List Str}, z ∈ dedS l ↔ z ∈ l
  | [] => by simp [dedS]
  | x :: r => by
    rw [dedS]
    split
    · rename_i e
      rw [dedS_mem (l := r), List.mem_cons]
      constructor
      · exact .inr
      · rintro (rfl | h)
        · exact memS_iff.mp e
        · exact h
    · rw [List.mem_cons, dedS_mem (l := r), List.mem_cons]
theorem dedS_nd : ∀ {l : List Str}, (dedS l).Nodup
  | [] => List.nodup_nil
  | x :: r => by
    rw [dedS]
    split
    · exact dedS_nd
    · rename_i e
      exact List.nodup_cons.mpr ⟨fun z => e (memS_iff.mpr (dedS_mem.mp z)), dedS_nd⟩
theorem dedS_len {zs ys : List Str} (nd : zs.Nodup) (h : ∀ k, k ∈ zs ↔ k ∈ ys) : zs.length = (dedS ys).length :=
  Nat.le_antisymm (nd_le nd fun x hx => dedS_mem.mpr ((h x).mp hx)) (nd_le dedS_nd fun x hx => (h x).mpr (dedS_mem.mp hx))
theorem insX_eq (x : Str) : ∀ l, insX x l = insS x l
  | [] => rfl
  | y :: r => by
    rw [insX, insS, insX_eq x r, natsLt_eq, strEq_eq]
    simp only [decide_eq_true_eq]
    all_goals rfl
theorem srtX_eq : ∀ l, srtX l = srtS l
  | [] => rfl
  | x :: r => by rw [srtX, srtS, insX_eq, srtX_eq r]
theorem keysS_ok : ∀ {kvs : List (Key × Val)} {xs : List Str}, keysS kvs = some xs → kvs.map (·.1) = xs.map Sum.inr
  | [], _, e => by cases e; rfl
  | kv :: r, xs, e => by
    unfold keysS at e
    split at e
    · rename_i e1; cases e1
    · rename_i x v vs' e1
      cases e1
      split at e
      · rename_i r' er
        cases e
        rw [List.map_cons, keysS_ok er]
        rfl
      · cases e
    · cases e
theorem k_srt {xs : List Str} {st : Store} (w : Wd g μ st H) (k : kR g Wx σ μ H (VOk g) Q (srtR xs st)) : xs.length < 64 ∧ ∀ ys p, ys.Perm xs → sortedS ys = true → H p = none → Q (.ref p) (upd H p (.lst (ys.map V.str))) := by
  obtain ⟨h1, k⟩ := ifR_of k
  rw [Bool.and_eq_true] at h1
  refine ⟨blt_iff.mp h1.1, fun ys p a b c => ?_⟩
  have e := srt_of a b (ndS_iff h1.2) fun x => Iff.rfl
  rw [srtX_eq, ← e] at k
  exact k_lstD w (imms_strs ys) k p c
theorem on_sorted : ON1 g (rSortedA g.K) fSorted := fun σ μ st H v u Q w h k => by
  unfold fSorted at k
  split at k
  · rename_i i
    split at k
    · rename_i kvs hs
      split at k
      · rename_i xs e
        obtain ⟨a, ha, rfl⟩ := h
        obtain ⟨ks, h1, h2, h3⟩ := w.ok _ _ _ ha hs
        obtain ⟨z1, z2⟩ := k_srt w k
        exact .inr (.inr ⟨a, ks, xs, rfl, .inl h1, by rw [h2]; exact keysS_ok e, z1, z2⟩)
      · exact k.elim
    · split at k
      · rename_i vs e1
        split at k
        · rename_i xs e
          obtain ⟨a, ws, rfl, h1, h2⟩ := lsV_ok w h e1
          obtain ⟨z1, z2⟩ := k_srt w k
          rw [strsV_ok e h2] at h1
          exact .inl ⟨a, xs, rfl, SqL.of h1, z1, z2⟩
        · exact k.elim
      · exact k.elim
  · exact k.elim
theorem c_sorted : CalmV fSorted := fun v st e st' z => by
  unfold fSorted at z
  repeat' split at z
  all_goals first
    | exact ifR_calm z
    | cases z
theorem om_split : OM1 g "str" (fun x xs H Q => ∃ a b, x = .str a ∧ xs = [.str b] ∧ (b.length == 0) = false ∧ a.length + 2 ≤ sizeLine ∧ rNewStrs (Txt.split a b) H Q) mSplit isS := ⟨fun μ st H v u w h e => isS_ok w h e, fun σ μ st H o u vs us Q w ho hv k => by
  unfold mSplit at k
  split at k
  · rename_i a b
    obtain ⟨x, rfl, hx⟩ := hv.one
    cases ho; cases hx
    obtain ⟨h1, k⟩ := ifR_of k
    rw [Bool.and_eq_true, Bool.not_eq_true'] at h1
    refine ⟨a, b, rfl, rfl, ?_, szOk_le h1.2, k_lstD w (imms_strs _) k⟩
    have h2 : ¬ strLen b = 0 := fun z => by rw [z] at h1; cases h1.1
    exact beq_false_of_ne h2
  · exact k.elim⟩
theorem om_strip : OM1 g "str" (fun x xs H Q => ∃ a b, x = .str a ∧ xs = [.str b] ∧ a.length ≤ sizeLine ∧ Q (.str (Txt.stripChars a b)) H) mStrip isS := ⟨fun μ st H v u w h e => isS_ok w h e, fun σ μ st H o u vs us Q w ho hv k => by
  unfold mStrip at k
  split at k
  · rename_i a b
    obtain ⟨x, rfl, hx⟩ := hv.one
    cases ho; cases hx
    obtain ⟨h1, k⟩ := ifR_of k
    exact ⟨a, b, rfl, rfl, szOk_le h1, k_im w k rfl⟩
  · exact k.elim⟩
theorem om_lstrip : OM1 g "str" (fun x xs H Q => ∃ a b, x = .str a ∧ xs = [.str b] ∧ a.length ≤ sizeLine ∧ Q (.str (Txt.lstripChars a b)) H) mLstrip isS := ⟨fun μ st H v u w h e => isS_ok w h e, fun σ μ st H o u vs us Q w ho hv k => by
  unfold mLstrip at k
  split at k
  · rename_i a b
    obtain ⟨x, rfl, hx⟩ := hv.one
    cases ho; cases hx
    obtain ⟨h1, k⟩ := ifR_of k
    exact ⟨a, b, rfl, rfl, szOk_le h1, k_im w k rfl⟩
  · exact k.elim⟩
theorem om_start : OM1 g "str" (fun x xs H Q => ∃ a b, x = .str a ∧ xs = [.str b] ∧ Q (.bl (Txt.startswith a b)) H) mStart isS := ⟨fun μ st H v u w h e => isS_ok w h e, fun σ μ st H o u vs us Q w ho hv k => by
  unfold mStart at k
  split at k
  · rename_i a b
    obtain ⟨x, rfl, hx⟩ := hv.one
    cases ho; cases hx
    exact ⟨a, b, rfl, rfl, k_im w k rfl⟩
  · exact k.elim⟩
theorem om_join : OM1 g "str" (fun x xs H Q => ∃ a p, ∃ ys : List Str, x = .str a ∧ xs = [.ref p] ∧ (SqL g.K H p (ys.map V.str) ∨ SqT g.K H p (ys.map V.str)) ∧ (ys.map (·.length)).sum + ys.length * a.length ≤ 16777216 ∧ Q (.str (Txt.join a ys)) H) mJoin isS := ⟨fun μ st H v u w h e => isS_ok w h e, fun σ μ st H o u vs us Q w ho hv k => by
  unfold mJoin at k
  split at k
  · rename_i a v
    obtain ⟨x, rfl, hx⟩ := hv.one
    cases ho
    split at k
    · rename_i vs e1
      split at k
      · rename_i ys e2
        obtain ⟨h1, k⟩ := ifR_of k
        obtain ⟨p, ws, rfl, h2, h3⟩ := seqV_ok w hx e1
        rw [strsV_ok e2 h3] at h2
        exact ⟨a, p, ys, rfl, rfl, h2, Nat.le_of_ble_eq_true h1, k_im w k rfl⟩
      · exact k.elim
    · exact k.elim
  · exact k.elim⟩
theorem c_split : CalmM mSplit := fun v vs st e st' z => by unfold mSplit at z; split at z <;> first | exact ifR_calm z | cases z
theorem c_strip : CalmM mStrip := fun v vs st e st' z => by unfold mStrip at z; split at z <;> first | exact ifR_calm z | cases z
theorem c_lstrip : CalmM mLstrip := fun v vs st e st' z => by unfold mLstrip at z; split at z <;> first | exact ifR_calm z | cases z
theorem c_start : CalmM mStart := fun v vs st e st' z => by unfold mStart at z; split at z <;> cases z
theorem c_join : CalmM mJoin := fun v vs st e st' z => by
  unfold mJoin at z
  repeat' split at z
  all_goals first
    | exact ifR_calm z
    | cases z
theorem o_iadd : O2 g rIadd oIadd := fun σ μ st H a b u v Q w ha hb k => by
  unfold oIadd at k
  split at k
  · cases ha; cases hb
    exact .inl ⟨_, _, rfl, rfl, k_im w k rfl⟩
  · cases ha; cases hb
    obtain ⟨h1, k⟩ := ifR_of k
    rw [strCat_eq] at k
    exact .inr ⟨_, _, rfl, rfl, szOk_le h1, k_im w k rfl⟩
  · exact k.elim
theorem c_iadd : Calm oIadd := fun u v st e st' z => by unfold oIadd at z; split at z <;> first | exact ifR_calm z | cases z
theorem ex_chain {r r' : R2} {f f' : Val → Val → Store → R Val} {ta tb tc : TE} {a b c : XE} (hf : O2 g r f) (hc : Calm f) (hf' : O2 g r' f') (hc' : Calm f') (ha : EX g Wx ta a) (hb : EX g Wx tb b) (hcc : EX g Wx tc c) : EX g Wx (tChain r r' ta tb tc) (xChain f f' a b c) := fun μ σ ρ st H Q w s k => by
  refine ha μ σ ρ st H _ w s ((kR.bind k).mono fun _ _ u _ H1 _ _ _ _ z => ?_)
  obtain ⟨v, st1, μ1, _, k1, w1, r1, k2⟩ := z
  refine hb _ σ ρ st1 H1 _ w1 (s.keep k1) ((kR.bind k2).mono fun _ _ u2 _ H2 _ _ _ _ z => ?_)
  obtain ⟨v2, st2, μ2, _, k3, w2, r2, k4⟩ := z
  refine hf σ _ _ _ _ _ _ _ _ w2 (r1.keep k3) r2 (((kR.bind k4).mono fun _ _ u3 _ H3 _ _ _ _ z => ?_).W0 (hc _ _ _))
  obtain ⟨v3, st3, μ3, _, k5, w3, r3, k6⟩ := z
  split at k6
  · have e : u3 = .bl _ := r3
    subst e
    refine ⟨_, rfl, ?_⟩
    split at k6
    · refine iteT (hcc _ σ ρ st3 H3 _ w3 ((((s.keep k1).keep k3)).keep k5) ((kR.bind k6).mono fun _ _ u4 _ H4 _ _ _ _ z => ?_))
      obtain ⟨v4, st4, μ4, _, k7, w4, r4, k8⟩ := z
      exact hf' σ _ _ _ _ _ _ _ _ w4 ((r2.keep k5).keep k7) r4 (k8.W0 (hc' _ _ _))
    · exact iteF (k_im w3 k6 rfl)
  · exact k6.elim
end
section
variable {T : Tb} {X : Cx} {Wx : WX} {pos p' : Pos} {ta tb tc te : TE} {a b c : XE} {e e1 e2 e3 : Expr} {x : Str} {d : Dt}
theorem st_chain {op op' : CmpOp} {r r' : R2} {f f' : Val → Val → Store → R Val} (ho : OpR X (compareOp op) r) (hf : O2 (gX T X) r f) (hc : Calm f) (ho' : OpR X (compareOp op') r') (hf' : O2 (gX T X) r' f') (hc' : Calm f') (h1 : SE T X Wx e1 ta a) (h2 : SE T X Wx e2 tb b) (h3 : SE T X Wx e3 tc c)
    (hm : lastMarks [op, op'] [e2, e3] = false := by with_unfolding_all rfl) : ST T X Wx (.Compare e1 [op, op'] [e2, e3] pos) (tTest (tChain r r' ta tb tc)) (xTest (xChain f f' a b c)) := ⟨pt_chain ho ho' h1.pe h2.pe h3.pe hm, ex_test (ex_chain hf hc hf' hc' h1.ex h2.ex h3.ex)⟩
/-- a constant that is a tuple -/
theorem sx_gT (h : Gt X.K X.mg x d) (hg : Gl X x := by rfl) (hd : (x == ("__debug__" : Str)) = false := by decide) : SE T X Wx (.Name x pos) (tC (Classical.choose h)) (xC d) := by
  obtain ⟨u, z1, z2, z3⟩ := Classical.choose_spec h
  exact sx_glob hg z1 z2 z3 hd
theorem sx_lenSet {p1 p2 pos2 : Pos} (hc : X.calm = true) (hm : X.mg "len" = none) (hv : bootBuiltins "len" = some (.builtin "len")) (hm2 : X.mg "set" = none) (hv2 : bootBuiltins "set" = some (.type "set")) (h : SE T X Wx e te a)
    (hgl : Gl X "len" := by rfl) (hgl2 : Gl X "set" := by rfl) (he : starEach [Expr.Call (.Name "set" p2) [e] [] pos2] X.env = (false, eval (Expr.Call (.Name "set" p2) [e] [] pos2) X.env) :: starEach [] X.env := by rfl)
    (hpl : (backTo pos (starEach [] X.env)).any (·.1) = false := by rfl) (he2 : starEach [e] X.env = (false, eval e X.env) :: starEach [] X.env := by rfl) (hpl2 : (backTo pos2 (starEach [] X.env)).any (·.1) = false := by rfl) :
    SE T X Wx (.Call (.Name "len" p1) [.Call (.Name "set" p2) [e] [] pos2] [] pos) (tCB (rLenSet X) (tCons (tCB (rSetU X) (tCons te tNil)) tNil)) (xUn fLenSet a) := by
  refine ⟨pe_callB cr_lenSet hgl hm hv (pa_cons (pe_callTy (cr_setU hc) hgl2 hm2 hv2 (pa_cons h.pe pa_nil he2) (he := he2) (hpl := hpl2)) pa_nil he) (he := he) (hpl := hpl), fun μ σ ρ st H Q w s k => ?_⟩
  refine h.ex μ σ ρ st H _ w s ((kR.bind k).mono fun _ _ u _ H1 _ _ _ _ z => ?_)
  obtain ⟨v, st1, μ1, _, k1, w1, r1, k2⟩ := z
  unfold fLenSet at k2
  split at k2
  · rename_i vs e1
    split at k2
    · rename_i ys e2
      obtain ⟨h1, k2⟩ := ifR_of k2
      have h1 := blt_iff.mp h1
      obtain ⟨p, ws, rfl, h2, h3⟩ := seqV_ok w1 r1 e1
      rw [strsV_ok e2 h3] at h2
      have room : ys.length + 1 < scanBound := by
        have h5 : 4002 ≤ scanBound := by decide
        omega
      refine ⟨p, ys, rfl, h2, room, fun zs q z1 z2 nd hp => ⟨q, zs, rfl, upd_same, by omega, ?_⟩⟩
      rw [dedS_len nd z2]
      exact k2 _ _ _ (Keep.fresh hp) (w1.fresh hp) rfl
    · exact k2.elim
  · exact k2.elim
end
/-! ### a def under any name of the module -/
structure Da (K : PySem.W.Frag) (mg : Str → Option Value) (nm x : Str) (st : Stmt) (ps : List Str) : Prop where
  ex : ∃ (f : Addr) (fd : FuncData) (dvs : List V), mg nm = some (.ref f) ∧ FunD K x x (defArgs st) (defBody st) (defScope st) dvs [] f fd ∧ Binds K fd ps []
section
variable {T : Tb} {P : Program} {w : World} {K : PySem.W.Frag} {mg : Str → Option Value} {base : Heap}
theorem fx_ofA {nm x : Str} {st : Stmt} {N ps : List Str} {k n : Nat} {b : XS} (D : Da K mg nm x st ps) (S : FnScope N ps (defScope st)) (hn : ps.length = n)
    (body : ∀ (f : Addr) (cdv : Value) (A : Around) (outer : List Env) (s : Shared) (H : Hp) (E : XK), Room k (A.deeper (envOfC x (defScope st) s.heap.objs.size f cdv)) → ∃ t, SSs T (cxOf (L2.CX P w) P w K mg base N x (defScope st) f cdv A outer s H E) (fun cls d _ H => E cls d H) (defBody st) t b) :
    FX T P w K mg base (k + 1) nm n (xDef (N.length - n) b) := by
  obtain ⟨f, fd, dvs, h1, h2, h3⟩ := D.ex
  exact ⟨f, fd, ps, h1, h2.kp, h3, hn, fnx h2 S hn body⟩
end
end SX
/-! SX: the law's own def, from its function. -/
namespace SX
open PySem PySem.Spec PyProof.Rows L2 PL
open PL (Dt Imm Imms SqN Tups)
mutual
def dtE : Dt → Dt → Bool
  | .int a, .int b => intEq a b
  | .str a, .str b => strEq a b
  | .tup a, .tup b => dtsE a b
  | _, _ => false
def dtsE : List Dt → List Dt → Bool
  | [], [] => true
  | a :: as, b :: bs => if dtE a b then dtsE as bs else false
  | _, _ => false
end
theorem dtE_eq : ∀ {a b : Dt}, dtE a b = true → a = b := by
  suffices h : ∀ n, ∀ a b : Dt, sizeOf a ≤ n → dtE a b = true → a = b from fun {a b} => h _ a b (Nat.le_refl _)
  intro n
  induction n with
  | zero => intro a b h; cases a <;> simp at h
  | succ n ih =>
    intro a b h k
    have hs : ∀ (as bs : List Dt), sizeOf as ≤ n → dtsE as bs = true → as = bs := by
      intro as
      induction as with
      | nil => intro bs _ z; cases bs with
        | nil => rfl
        | cons => cases z
      | cons x as ihs =>
        intro bs hs z
        have hs' : 1 + sizeOf x + sizeOf as ≤ n := by simpa using hs
        cases bs with
        | nil => cases z
        | cons y bs =>
          rw [dtsE] at z
          split at z
          · rename_i e
            rw [ih x y (by omega) e, ihs bs (by omega) z]
          · cases z
    cases a <;> cases b <;> simp [dtE, intEq_eq, strEq_eq] at k
    · exact congrArg _ k
    · exact congrArg _ k
    · exact congrArg _ (hs _ _ (by simp at h; omega) k)
theorem dtsE_eq : ∀ {as bs : List Dt}, dtsE as bs = true → as = bs
  | [], [], _ => rfl
  | [], _ :: _, z => by cases z
  | _ :: _, [], z => by cases z
  | a :: as, b :: bs, z => by
    rw [dtsE] at z
    split at z
    · rename_i e
      rw [dtE_eq e, dtsE_eq z]
    · cases z
abbrev XF := List Val → Store → R Val
def badF : XF := fun _ _ => .bad
def isYes : R Val → Bool
  | .ok (.im (.bl true)) _ => true
  | _ => false
theorem isYes_iff {r : R Val} (h : isYes r = true) : ∃ st, r = .ok (.im (.bl true)) st := by
  unfold isYes at h
  split at h
  · exact ⟨_, rfl⟩
  · cases h
section
variable {T : Tb} {X : Cx} {Wx : WX} {pos : Pos} {x : Str}
/-- a def as a value -/
theorem sx_fnA (k : Nat) (h : ∃ f, X.mg x = some (.ref f)) (hk : T.FN k = x := by rfl) (hg : Gl X x := by rfl) (hd : (x == ("__debug__" : Str)) = false := by decide) : SE T X Wx (.Name x pos) (tC (.ref (dOf X.mg x))) (xFn k) := by
  obtain ⟨f, h⟩ := h
  rw [dOf_eq h]
  exact sx_fn k h hk hg hd
theorem Da.mg {K : PySem.W.Frag} {mg : Str → Option Value} {nm x : Str} {st : Stmt} {ps : List Str} (D : Da K mg nm x st ps) : ∃ f, mg nm = some (.ref f) := by
  obtain ⟨f, _, _, h, _⟩ := D.ex
  exact ⟨f, h⟩
/-! a tuple that holds others than plain data, against () -/
theorem eq_empty {pins : List (Addr × Obj)} {σ : Sg} {H : Hp} {s : Shared} {a b : Addr} {xs : List V} {e : Value → Shared → Prop} {Q : Value → Shared → Prop} (hu : X.A.units + 64 < cLine) (I : Inv X pins σ H s) (h1 : SqN X.K H a xs) (h2 : SqN X.K H b []) :
    (Q (.bool xs.isEmpty) s → wpAny (model X.prog X.w) X.A (compareOp .Eq (.ref a) (.ref b)) Q e s) ∧ (Q (.bool (!xs.isEmpty)) s → wpAny (model X.prog X.w) X.A (compareOp .NotEq (.ref a) (.ref b)) Q e s) := by
  obtain ⟨i1, r1, t1, _⟩ := I.tuple h1.t
  obtain ⟨i2, r2, t2, _⟩ := I.tuple h2.t
  have l2 : i2 = [] := by cases r2; rfl
  subst l2
  have l1 : (i1.toArray.size == (#[] : Array Value).size) = xs.isEmpty := by
    have := r1.length
    cases xs with
    | nil => cases r1; rfl
    | cons x xs =>
      cases r1
      rfl
  have no : ∀ j (h1 : j < i1.toArray.size) (h2 : j < ([] : List Value).toArray.size), PySem.SeqAt.EqAt X.A.in1 s (i1.toArray[j]) (([] : List Value).toArray[j]) true := fun j h1 h2 => by
    simp at h2
  have e0 : (List.range (min i1.toArray.size (#[] : Array Value).size)).all (fun _ => true) = true := by simp
  refine ⟨fun q => ?_, fun q => ?_⟩
  · have z := PySem.SeqAt.RcAt.tuples (e := fun _ => true) t1 t2 (by omega) no X.prog X.w e Q
    rw [e0, Bool.true_and, l1] at z
    exact z q
  · have z := PySem.SeqAt.RcNeAt.tuples (e := fun _ => true) t1 t2 (by omega) no X.prog X.w e Q
    rw [e0, Bool.true_and, l1] at z
    exact z q
def rEqT (K : PySem.W.Frag) (neg : Bool) : R2 := fun x y H Q => (∃ a b xs, x = .ref a ∧ y = .ref b ∧ SqN K H a xs ∧ SqN K H b [] ∧ Q (.bl (if neg then !xs.isEmpty else xs.isEmpty)) H) ∨ rEqX K neg x y H Q
theorem r_eqT (hu : X.A.units + 64 < cLine) : OpR X (compareOp .Eq) (rEqT X.K false) := fun pins s σ H x y u v Q I rx ry q => by
  rcases q with ⟨a, b, xs, rfl, rfl, h1, h2, q⟩ | q
  · cases rx; cases ry
    exact (eq_empty hu I h1 h2).1 ⟨.bl _, H, I, rfl, q⟩
  · exact r_eqX hu pins s σ H x y u v Q I rx ry q
theorem r_neT (hu : X.A.units + 64 < cLine) : OpR X (compareOp .NotEq) (rEqT X.K true) := fun pins s σ H x y u v Q I rx ry q => by
  rcases q with ⟨a, b, xs, rfl, rfl, h1, h2, q⟩ | q
  · cases rx; cases ry
    exact (eq_empty hu I h1 h2).2 ⟨.bl _, H, I, rfl, q⟩
  · exact r_neX hu pins s σ H x y u v Q I rx ry q
def oEqT (neg : Bool) (a b : Val) (st : Store) : R Val := match a with
  | .tv vs => (match b with
    | .im (.tup []) => .ok (.im (.bl (if neg then !vs.isEmpty else vs.isEmpty))) st
    | _ => .bad)
  | _ => oEq neg a b st
theorem o_eqT {g : G} (neg : Bool) : O2 g (rEqT g.K neg) (oEqT neg) := fun σ μ st H a b u v Q w ha hb k => by
  unfold oEqT at k
  split at k
  · rename_i vs
    split at k
    · obtain ⟨x, xs, rfl, h1, h2⟩ := ha
      obtain ⟨y, ys, rfl, h3, h4⟩ := hb
      have h4 : ys = [] := h4
      subst h4
      have e : xs.isEmpty = vs.isEmpty := by
        have := h2.length
        cases xs <;> cases vs <;> simp_all
      exact .inl ⟨x, y, xs, rfl, rfl, h1, h3, by rw [e]; exact k_im w k rfl⟩
    · exact k.elim
  · exact .inr (o_eq neg σ μ st H a b u v Q w ha hb k)
theorem c_eqT {neg} : Calm (oEqT neg) := fun u v st e st' z => by
  unfold oEqT at z
  split at z
  · split at z <;> cases z
  · exact c_eq _ _ _ _ _ z
theorem sg_tupC {K : PySem.W.Frag} {es : List Expr} {k n : Nat} {ws : List Nat} {t : TGs} {y : List Val → Slots → Option Slots} (hK : X.K = K) (hc : X.calm = true) (h : SGs T X es ws t y) (hn : (assignEach es X.env).length = n := by rfl) (hst : (assignEach es X.env).findIdx? (·.1) = none := by rfl) : SG T X (.Tuple es k pos) ws (gTup K n t) (xgTup n y) := by
  subst hK
  exact sg_tup hc h hn hst
theorem inK_op {neg : Bool} {op : CmpOp} {kvs : List (Str × Option Val)} (D : KD T X.w X.K X.mg x kvs) (h : (neg = false ∧ op = .In) ∨ (neg = true ∧ op = .NotIn)) : OpR X (compareOp op) (rInK X.w X.K (dOf X.mg x) neg) := fun pins s σ H x y u v Q I rx ry q => by
  obtain ⟨d, es, n, h1, h2, h3⟩ := D.ex
  rw [dOf_eq h1] at q
  obtain ⟨z, r, q1, q2, q3, q4⟩ := q
  rcases h with ⟨rfl, rfl⟩ | ⟨rfl, rfl⟩
  · exact op_in_kd h2 pins s σ H x y u v Q I rx ry ⟨z, r, q1, q2, q3, by simpa using q4⟩
  · exact op_notIn_kd h2 pins s σ H x y u v Q I rx ry ⟨z, r, q1, q2, q3, by simpa using q4⟩
theorem pe_dOf {p' : Pos} {kvs : List (Str × Option Val)} (D : KD T X.w X.K X.mg x kvs) (hg : Gl X x) (hd : (x == ("__debug__" : Str)) = false) : PE X (.Name x p') (tC (.ref (dOf X.mg x))) := by
  obtain ⟨d, es, n, h1, h2, h3⟩ := D.ex
  rw [dOf_eq h1]
  exact pe_glob hg h1 (rfl : RelV (.ref d) _) hd
theorem st_inK {p' : Pos} {e : Expr} {ta : TE} {a : XE} {kvs : List (Str × Option Val)} (D : KD T X.w X.K X.mg x kvs) (ha : SE T X Wx e ta a) (hg : Gl X x := by rfl) (hd : (x == ("__debug__" : Str)) = false := by decide) : ST T X Wx (.Compare e [.In] [.Name x p'] pos) (tTest (tOp (rInK X.w X.K (dOf X.mg x) false) ta (tC (.ref (dOf X.mg x))))) (xTest (xInK false kvs a)) :=
  ⟨pt_cmpR (inK_op D (.inl ⟨rfl, rfl⟩)) ha.pe (pe_dOf D hg hd) (by rfl), ex_test (ex_inK D ha.ex)⟩
end
section
variable {P : Program} {w : World} {K : PySem.W.Frag} {mg : Str → Option Value} {base : Heap}
theorem law_fn {CN FN : Nat → Str} {xf : XF} {f : Addr} {fd : FuncData} {ps : List Str} {k : Nat} (hps : ps.length = 1) (hl : ∀ ns : List Int, ns.length ≤ 63 → isYes (xf [.scr ns] []) = true)
    (F : ∀ a ns, FnOk P w K mg base (L2.CX P w) k f fd ps (spX ⟨K, mg, w, ⟨CN, FN, a, ns⟩⟩ 1 xf)) : FnOk P w K mg base CX0 k f fd ps (spLaw K) := by
  refine ⟨fun vs H Q E h => ?_, fun A outer s H args us vs Q E hr e hb hv h => ?_⟩
  · obtain ⟨a, ns, rfl, _⟩ := h
    exact hps.symm
  · obtain ⟨a, ns, rfl, hS, hlen, q⟩ := h
    obtain ⟨st, hx⟩ := isYes_iff (hl ns hlen)
    have sc : ScrOk K H [] a ns := by
      rcases hS with hS | hS
      · exact .inl ⟨by simp, hS⟩
      · exact .inr hS
    have z := (F a ns).run A outer s H args us _ Q (fun _ _ _ => False) hr e hb hv ⟨[], [.scr ns], [], rfl, ⟨rfl, List.nodup_nil, fun i a c e => (by simp at e), sc⟩, VOks.cons ⟨rfl, rfl⟩ VOks.nil, by
      rw [hx]
      intro u μ' H' k w h
      cases h
      exact q H'⟩
    refine codeAny_mono z fun r s' hrs => ?_
    cases r with
    | ok v => cases v <;> exact hrs
    | error u =>
      obtain ⟨_, _, _, _, _, _, _, _, _, _, _, _, no⟩ := hrs
      exact no.elim
end
end SX
namespace L36
open PySem PySem.Spec PyProof.Rows L2 PL SX
open PL (Dt)
def c_RESERVED_sheets : Dt := (.tup [(.str "beat"), (.str "place0"), (.str "place1")])
def c_OPERATIONS : Dt := (.tup [(.str "plus"), (.str "minus"), (.str "times"), (.str "least"), (.str "most"), (.str "alike")])
def c_RESERVED_tokens : Dt := (.tup [(.str "sheet"), (.str "given"), (.str "in"), (.str "unit"), (.str "where"), (.str "give"), (.str "when"), (.str "out"), (.str "end"), (.str "to"), (.str "least"), (.str "most"), (.str "alike"), (.str "and"), (.str "laying"), (.str "of"), (.str "at"), (.str "first"), (.str "last"), (.str "box"), (.str "array"), (.str "row"), (.str "wire"), (.str "div"), (.str "divides"), (.str "stretch"), (.str "shift"), (.str "turn"), (.str "fold"), (.str "by"), (.str "chips"), (.str "more"), (.str "heal"), (.str "jobs"), (.str "after")])
def c_ONE : Dt := (.tup [(.int 1), (.tup [])])
def c_CALLS : Dt := (.tup [(.str "least"), (.str "most"), (.str "alike")])
def c_SIGNS_tokens : Dt := (.tup [(.str "<="), (.str ">="), (.str "=="), (.str "<"), (.str ">"), (.str "+"), (.str "-"), (.str "*"), (.str "("), (.str ")"), (.str "["), (.str "]"), (.str ",")])
def c_ZERO : Dt := (.tup [(.int 0), (.tup [])])
def k_MAKINGS : List (Str × Option Val) := [("end", none)]
def k_JOINING : List (Str × Option Val) := [("+", some (.im (.str "plus"))), ("", none), ("when", none), (")", none), (",", none)]
def b_law_start : XS :=
  xRet (xNew (xDsp (xCons (xUn fListV (xV 0)) (xCons (xC (.int 0)) (xCons (xC (.int 0)) (xCons (xC (.int 0)) (xNil)))))))
def x_law_start : XF := xDef 0 b_law_start
def b_Lines_init : XS :=
  xSeq (xSetF [4] "lines" (xM isS mSplit (xV 1) (xCons (xC (.str "\n")) (xNil))) (xV 0))
  (xSetF [3, 4] "at" (xC (.int 0)) (xV 0))
def x_Lines_init : XF := xDef 0 b_Lines_init
def b_run_length : XS :=
  xSeq (xSet 2 (xC (.int 0)))
  (xSeq (xWhile 3000 (xAnd (xTest (xOp (oLt) (xV 2) (xUn fLen (xV 0)))) (xTest (xOp (oIn false) (xOp oIxA (xV 0) (xV 2)) (xV 1))))
    (xAug 2 oIadd (xC (.int 1))))
  (xRet (xV 2)))
def x_run_length : XF := xDef 1 b_run_length
def b_is_number : XS :=
  xSeq (xIf (xOr (xTest (xOp (oEqT false) (xV 0) (xC (.str "")))) (xOr (xTest (xOp (oLt) (xCall x_run_length 2 (xCons (xV 0) (xCons (xC (.str "0123456789")) (xNil)))) (xUn fLen (xV 0)))) (xTest (xOp (oGt) (xUn fLen (xV 0)) (xC (.int 6))))))
    (xRet (xC (.bl false)))
    (xSkip))
  (xRet (xOrV (xOp (oEqT false) (xV 0) (xC (.str "0"))) (xOp (oEqT true) (xOp oIxA (xV 0) (xC (.int 0))) (xC (.str "0")))))
def x_is_number : XF := xDef 0 b_is_number
def b_head_of : XS :=
  xSeq (xIf (xTest (xOp (oIn false) (xOp oIxA (xV 0) (xC (.int 0))) (xC (.str "abcdefghijklmnopqrstuvwxyz"))))
    (xSeq (xSet 1 (xCall x_run_length 2 (xCons (xV 0) (xCons (xOp oAdd (xC (.str "abcdefghijklmnopqrstuvwxyz")) (xC (.str "0123456789"))) (xNil)))))
    (xRet (xIfE (xTest (xOp (oLe) (xV 1) (xC (.int 12)))) (xSl (xV 0) (xNoPart) (xPart (xV 1))) (xC (.str "")))))
    (xSkip))
  (xSeq (xIf (xTest (xOp (oIn false) (xOp oIxA (xV 0) (xC (.int 0))) (xC (.str "0123456789"))))
    (xSeq (xSet 1 (xCall x_run_length 2 (xCons (xV 0) (xCons (xOp oAdd (xC (.str "abcdefghijklmnopqrstuvwxyz")) (xC (.str "0123456789"))) (xNil)))))
    (xRet (xIfE (xTru (xCall x_is_number 1 (xCons (xSl (xV 0) (xNoPart) (xPart (xV 1))) (xNil)))) (xSl (xV 0) (xNoPart) (xPart (xV 1))) (xC (.str "")))))
    (xSkip))
  (xSeq (xFor (xIV (xC c_SIGNS_tokens)) (xgN 2)
    (xIf (xTru (xM isS mStart (xV 0) (xCons (xV 2) (xNil))))
      (xRet (xV 2))
      (xSkip)))
  (xRet (xC (.str "")))))
def x_head_of : XF := xDef 2 b_head_of
def b_split_line : XS :=
  xSeq (xSet 2 (xNew (xDsp (xNil))))
  (xSeq (xSet 3 (xM isS mStrip (xV 0) (xCons (xC (.str " ")) (xNil))))
  (xSeq (xWhile 3000 (xTest (xOp (oEqT true) (xV 3) (xC (.str ""))))
    (xSeq (xSet 4 (xCall x_head_of 1 (xCons (xV 3) (xNil))))
    (xSeq (xIf (xTest (xOp (oEqT false) (xV 4) (xC (.str ""))))
      (xBadS)
      (xSkip))
    (xSeq (xExpr (xM isL mApp (xV 2) (xCons (xV 4) (xNil))))
    (xSet 3 (xM isS mLstrip (xSl (xV 3) (xPart (xUn fLen (xV 4))) (xNoPart)) (xCons (xC (.str " ")) (xNil))))))))
  (xRet (xV 2))))
def x_split_line : XF := xDef 3 b_split_line
def b_Hand_init : XS :=
  xSeq (xSetF [3] "tokens" (xV 1) (xV 0))
  (xSeq (xSetF [3] "place" (xV 2) (xV 0))
  (xSeq (xSetF [3, 4] "at" (xC (.int 0)) (xV 0))
  (xSeq (xSetF [3] "deep" (xC (.int 0)) (xV 0))
  (xSetF [3] "leaves" (xC (.int 0)) (xV 0)))))
def x_Hand_init : XF := xDef 0 b_Hand_init
def b_Lines_more : XS :=
  xSeq (xWhile 3000 (xTest (xOp (oLt) (xFld [3, 4] "at" (xV 0)) (xUn fLen (xFld [4] "lines" (xV 0)))))
    (xSeq (xAugF [3, 4] "at" oIadd (xV 0) (xC (.int 1)))
    (xSeq (xSet 1 (xCall x_split_line 2 (xCons (xOp oIxA (xFld [4] "lines" (xV 0)) (xOp oSub (xFld [3, 4] "at" (xV 0)) (xC (.int 1)))) (xCons (xFld [3, 4] "at" (xV 0)) (xNil)))))
    (xIf (xTru (xV 1))
      (xRet (xTupD (xCons (xMake 3 3 x_Hand_init (xCons (xV 1) (xCons (xFld [3, 4] "at" (xV 0)) (xNil)))) (xNil))))
      (xSkip)))))
  (xRet (xTupD (xNil)))
def x_Lines_more : XF := xDef 1 b_Lines_more
def b_Lines_ahead : XS :=
  xSeq (xSet 1 (xMeth 4 "more" 1 [] x_Lines_more (xV 0) xNil))
  (xSeq (xIf (xTest (xOp (oEqT false) (xV 1) (xTupD (xNil))))
    (xBadS)
    (xSkip))
  (xRet (xOp oIxA (xV 1) (xC (.int 0)))))
def x_Lines_ahead : XF := xDef 1 b_Lines_ahead
def b_Hand_next : XS :=
  xSeq (xSet 2 (xOp oAdd (xFld [3, 4] "at" (xV 0)) (xV 1)))
  (xRet (xIfE (xTest (xOp (oLt) (xV 2) (xUn fLen (xFld [3] "tokens" (xV 0))))) (xOp oIxA (xFld [3] "tokens" (xV 0)) (xV 2)) (xC (.str ""))))
def x_Hand_next : XF := xDef 1 b_Hand_next
def b_Hand_go : XS :=
  xSeq (xSet 1 (xMeth 3 "next" 2 [.im (.int 0)] x_Hand_next (xV 0) xNil))
  (xSeq (xAugF [3, 4] "at" oIadd (xV 0) (xC (.int 1)))
  (xRet (xV 1)))
def x_Hand_go : XF := xDef 1 b_Hand_go
def b_Hand_bad : XS :=
  xBadS
def x_Hand_bad : XF := xDef 0 b_Hand_bad
def b_Hand_must : XS :=
  xIf (xTest (xOp (oEqT true) (xMeth 3 "go" 1 [] x_Hand_go (xV 0) xNil) (xV 1)))
    (xExpr (xMeth 3 "bad" 1 [] x_Hand_bad (xV 0) xNil))
    (xSkip)
def x_Hand_must : XF := xDef 0 b_Hand_must
def b_is_name2 : XS :=
  xRet (xAndV (xOp (oEqT true) (xV 0) (xC (.str ""))) (xAndV (xOp (oIn false) (xOp oIxA (xV 0) (xC (.int 0))) (xC (.str "abcdefghijklmnopqrstuvwxyz"))) (xOp (oIn true) (xV 0) (xC c_RESERVED_tokens))))
def x_is_name2 : XF := xDef 0 b_is_name2
def b_Hand_name : XS :=
  xSeq (xSet 1 (xMeth 3 "go" 1 [] x_Hand_go (xV 0) xNil))
  (xSeq (xIf (xNot (xTru (xCall x_is_name2 1 (xCons (xV 1) (xNil)))))
    (xExpr (xMeth 3 "bad" 1 [] x_Hand_bad (xV 0) xNil))
    (xSkip))
  (xRet (xV 1)))
def x_Hand_name : XF := xDef 1 b_Hand_name
def b_Hand_may : XS :=
  xSeq (xIf (xTest (xOp (oEqT true) (xMeth 3 "next" 2 [.im (.int 0)] x_Hand_next (xV 0) xNil) (xV 1)))
    (xRet (xC (.bl false)))
    (xSkip))
  (xSeq (xAugF [3, 4] "at" oIadd (xV 0) (xC (.int 1)))
  (xRet (xC (.bl true))))
def x_Hand_may : XF := xDef 0 b_Hand_may
def b_named : XS :=
  xRet (xMeth 3 "name" 1 [] x_Hand_name (xV 0) xNil)
def x_named : XF := xDef 0 b_named
def b_Hand_number : XS :=
  xSeq (xSet 1 (xMeth 3 "go" 1 [] x_Hand_go (xV 0) xNil))
  (xSeq (xIf (xNot (xTru (xCall x_is_number 1 (xCons (xV 1) (xNil)))))
    (xExpr (xMeth 3 "bad" 1 [] x_Hand_bad (xV 0) xNil))
    (xSkip))
  (xRet (xUn fInt (xV 1))))
def x_Hand_number : XF := xDef 1 b_Hand_number
def b_part : XS :=
  xSeq (xIf (xTru (xCall x_is_number 1 (xCons (xMeth 3 "next" 2 [.im (.int 0)] x_Hand_next (xV 0) xNil) (xNil))))
    (xSeq (xSet 3 (xOp oMul (xV 1) (xMeth 3 "number" 1 [] x_Hand_number (xV 0) xNil)))
    (xSeq (xIf (xNot (xTru (xMeth 3 "may" 2 [] x_Hand_may (xV 0) (xCons (xC (.str "*")) (xNil)))))
      (xRet (xV 3))
      (xSkip))
    (xSeq (xExpr (xM isL mApp (xV 2) (xCons (xTupD (xCons (xMeth 3 "name" 1 [] x_Hand_name (xV 0) xNil) (xCons (xV 3) (xNil)))) (xNil))))
    (xRet (xC (.int 0))))))
    (xSkip))
  (xSeq (xExpr (xM isL mApp (xV 2) (xCons (xTupD (xCons (xMeth 3 "name" 1 [] x_Hand_name (xV 0) xNil) (xCons (xV 1) (xNil)))) (xNil))))
  (xRet (xC (.int 0))))
def x_part : XF := xDef 1 b_part
def b_form : XS :=
  xSeq (xSet 2 (xDnew))
  (xSeq (xFor (xIV (xV 1)) (xgTup 2 (xgCons (xgN 3) (xgCons (xgN 4) (xgNil))))
    (xSetI (xOp oAdd (xGet2 (xV 2) (xV 3) (xC (.int 0))) (xV 4)) (xV 2) (xV 3)))
  (xRet (xTupD (xCons (xV 0) (xCons (xHF fTup (xLc (xIV (xUn fSorted (xV 2))) (xgN 3) (xTest (xOp (oEqT true) (xOp oIxA (xV 2) (xV 3)) (xC (.int 0)))) (xTupD (xCons (xV 3) (xCons (xOp oIxA (xV 2) (xV 3)) (xNil)))) [3])) (xNil))))))
def x_form : XF := xDef 3 b_form
def b_form_of : XS :=
  xSeq (xSet 1 (xNew (xDsp (xNil))))
  (xSeq (xSet 2 (xCall x_part 3 (xCons (xV 0) (xCons (xIfE (xTru (xMeth 3 "may" 2 [] x_Hand_may (xV 0) (xCons (xC (.str "-")) (xNil)))) (xUn uNeg (xC (.int 1))) (xC (.int 1))) (xCons (xV 1) (xNil))))))
  (xSeq (xWhile 3000 (xTest (xOp (oIn false) (xMeth 3 "next" 2 [.im (.int 0)] x_Hand_next (xV 0) xNil) (xTupD (xCons (xC (.str "+")) (xCons (xC (.str "-")) (xNil))))))
    (xAug 2 oIadd (xCall x_part 3 (xCons (xV 0) (xCons (xIfE (xTest (xOp (oEqT false) (xMeth 3 "go" 1 [] x_Hand_go (xV 0) xNil) (xC (.str "-")))) (xUn uNeg (xC (.int 1))) (xC (.int 1))) (xCons (xV 1) (xNil)))))))
  (xRet (xCall x_form 2 (xCons (xV 2) (xCons (xV 1) (xNil)))))))
def x_form_of : XF := xDef 2 b_form_of
def b_pair_of : XS :=
  xSeq (xSet 1 (xCall x_form_of 1 (xCons (xV 0) (xNil))))
  (xSeq (xExpr (xMeth 3 "must" 2 [] x_Hand_must (xV 0) (xCons (xC (.str "to")) (xNil))))
  (xRet (xTupD (xCons (xV 1) (xCons (xCall x_form_of 1 (xCons (xV 0) (xNil))) (xNil))))))
def x_pair_of : XF := xDef 1 b_pair_of
def b_Hand_signed : XS :=
  xRet (xIfE (xTru (xMeth 3 "may" 2 [] x_Hand_may (xV 0) (xCons (xC (.str "-")) (xNil)))) (xUn uNeg (xMeth 3 "number" 1 [] x_Hand_number (xV 0) xNil)) (xMeth 3 "number" 1 [] x_Hand_number (xV 0) xNil))
def x_Hand_signed : XF := xDef 0 b_Hand_signed
def b_signed_of : XS :=
  xRet (xMeth 3 "signed" 1 [] x_Hand_signed (xV 0) xNil)
def x_signed_of : XF := xDef 0 b_signed_of
def b_Hand_opened : XS :=
  xSeq (xAugF [3] "deep" oIadd (xV 0) (xC (.int 1)))
  (xIf (xTest (xOp (oGt) (xFld [3] "deep" (xV 0)) (xC (.int 30))))
    (xExpr (xMeth 3 "bad" 1 [] x_Hand_bad (xV 0) xNil))
    (xSkip))
def x_Hand_opened : XF := xDef 0 b_Hand_opened
def b_Hand_shut : XS :=
  xSeq (xAugF [3] "deep" oSub (xV 0) (xC (.int 1)))
  (xExpr (xMeth 3 "must" 2 [] x_Hand_must (xV 0) (xCons (xV 1) (xNil))))
def x_Hand_shut : XF := xDef 0 b_Hand_shut
def b_share_of : XS :=
  xSeq (xIf (xNot (xTru (xMeth 3 "may" 2 [] x_Hand_may (xV 0) (xCons (xC (.str "(")) (xNil)))))
    (xRet (xTupD (xCons (xC (.int 1)) (xCons (xCall x_form_of 1 (xCons (xV 0) (xNil))) (xNil)))))
    (xSkip))
  (xSeq (xExpr (xMeth 3 "opened" 1 [] x_Hand_opened (xV 0) xNil))
  (xSeq (xSet 1 (xCall x_form_of 1 (xCons (xV 0) (xNil))))
  (xSeq (xExpr (xMeth 3 "shut" 2 [] x_Hand_shut (xV 0) (xCons (xC (.str ")")) (xNil))))
  (xSeq (xExpr (xMeth 3 "must" 2 [] x_Hand_must (xV 0) (xCons (xC (.str "div")) (xNil))))
  (xRet (xTupD (xCons (xMeth 3 "number" 1 [] x_Hand_number (xV 0) xNil) (xCons (xV 1) (xNil)))))))))
def x_share_of : XF := xDef 1 b_share_of
def tb_Hand_row_reader : Tbl
  | 33 => some (1, x_named)
  | 35 => some (1, x_form_of)
  | 40 => some (1, x_pair_of)
  | 45 => some (1, x_signed_of)
  | 44 => some (1, x_share_of)
  | _ => none
def b_Hand_row : XS :=
  xSeq (xSet 2 (xNew (xDsp (xCons (xCallV tb_Hand_row_reader (xV 1) (xCons (xV 0) (xNil))) (xNil)))))
  (xSeq (xWhile 3000 (xTru (xMeth 3 "may" 2 [] x_Hand_may (xV 0) (xCons (xC (.str ",")) (xNil))))
    (xExpr (xM isL mApp (xV 2) (xCons (xCallV tb_Hand_row_reader (xV 1) (xCons (xV 0) (xNil))) (xNil)))))
  (xRet (xV 2)))
def x_Hand_row : XF := xDef 1 b_Hand_row
def b_Hand_names : XS :=
  xSeq (xExpr (xMeth 3 "must" 2 [] x_Hand_must (xV 0) (xCons (xC (.str "(")) (xNil))))
  (xSeq (xIf (xTru (xMeth 3 "may" 2 [] x_Hand_may (xV 0) (xCons (xC (.str ")")) (xNil))))
    (xRet (xTupD (xNil)))
    (xSkip))
  (xSeq (xSet 1 (xMeth 3 "row" 2 [] x_Hand_row (xV 0) (xCons (xFn 33) (xNil))))
  (xSeq (xExpr (xMeth 3 "must" 2 [] x_Hand_must (xV 0) (xCons (xC (.str ")")) (xNil))))
  (xRet (xUn fTupV (xV 1))))))
def x_Hand_names : XF := xDef 1 b_Hand_names
def b_Hand_end : XS :=
  xIf (xTest (xOp (oLt) (xFld [3, 4] "at" (xV 0)) (xUn fLen (xFld [3] "tokens" (xV 0)))))
    (xExpr (xMeth 3 "bad" 1 [] x_Hand_bad (xV 0) xNil))
    (xSkip)
def x_Hand_end : XF := xDef 0 b_Hand_end
def b_plus : XS :=
  xRet (xCall x_form 2 (xCons (xOp oAdd (xOp oIxA (xV 0) (xC (.int 0))) (xOp oIxA (xV 1) (xC (.int 0)))) (xCons (xOp oAdd (xOp oIxA (xV 0) (xC (.int 1))) (xOp oIxA (xV 1) (xC (.int 1)))) (xNil))))
def x_plus : XF := xDef 0 b_plus
def b_times : XS :=
  xSeq (xIf (xTest (xOp (oEqT false) (xV 0) (xC (.int 0))))
    (xRet (xC c_ZERO))
    (xSkip))
  (xRet (xTupD (xCons (xOp oMul (xV 0) (xOp oIxA (xV 1) (xC (.int 0)))) (xCons (xHF fTup (xLc (xIV (xOp oIxA (xV 1) (xC (.int 1)))) (xgTup 2 (xgCons (xgN 2) (xgCons (xgN 3) (xgNil)))) (xYes) (xTupD (xCons (xV 2) (xCons (xOp oMul (xV 0) (xV 3)) (xNil)))) [2, 3])) (xNil)))))
def x_times : XF := xDef 2 b_times
def b_minus : XS :=
  xRet (xCall x_plus 2 (xCons (xV 0) (xCons (xCall x_times 2 (xCons (xUn uNeg (xC (.int 1))) (xCons (xV 1) (xNil)))) (xNil))))
def x_minus : XF := xDef 0 b_minus
def b_compared : XS :=
  xSeq (xSet 1 (xCall x_form_of 1 (xCons (xV 0) (xNil))))
  (xSeq (xSet 2 (xMeth 3 "go" 1 [] x_Hand_go (xV 0) xNil))
  (xSeq (xSet 3 (xCall x_form_of 1 (xCons (xV 0) (xNil))))
  (xSeq (xIf (xTest (xOp (oEqT false) (xV 2) (xC (.str ">="))))
    (xRet (xTupD (xCons (xCall x_minus 2 (xCons (xV 1) (xCons (xV 3) (xNil)))) (xNil))))
    (xSkip))
  (xSeq (xIf (xTest (xOp (oEqT false) (xV 2) (xC (.str "<="))))
    (xRet (xTupD (xCons (xCall x_minus 2 (xCons (xV 3) (xCons (xV 1) (xNil)))) (xNil))))
    (xSkip))
  (xSeq (xIf (xTest (xOp (oEqT false) (xV 2) (xC (.str ">"))))
    (xRet (xTupD (xCons (xCall x_minus 2 (xCons (xCall x_minus 2 (xCons (xV 1) (xCons (xV 3) (xNil)))) (xCons (xC c_ONE) (xNil)))) (xNil))))
    (xSkip))
  (xSeq (xIf (xTest (xOp (oEqT false) (xV 2) (xC (.str "<"))))
    (xRet (xTupD (xCons (xCall x_minus 2 (xCons (xCall x_minus 2 (xCons (xV 3) (xCons (xV 1) (xNil)))) (xCons (xC c_ONE) (xNil)))) (xNil))))
    (xSkip))
  (xSeq (xIf (xTest (xOp (oEqT true) (xV 2) (xC (.str "=="))))
    (xExpr (xMeth 3 "bad" 1 [] x_Hand_bad (xV 0) xNil))
    (xSkip))
  (xRet (xTupD (xCons (xCall x_minus 2 (xCons (xV 1) (xCons (xV 3) (xNil)))) (xCons (xCall x_minus 2 (xCons (xV 3) (xCons (xV 1) (xNil)))) (xNil))))))))))))
def x_compared : XF := xDef 3 b_compared
def b_condition_of : XS :=
  xSeq (xSet 1 (xCall x_compared 1 (xCons (xV 0) (xNil))))
  (xSeq (xWhile 3000 (xTru (xMeth 3 "may" 2 [] x_Hand_may (xV 0) (xCons (xC (.str "and")) (xNil))))
    (xSet 1 (xOp oAdd (xV 1) (xCall x_compared 1 (xCons (xV 0) (xNil))))))
  (xRet (xV 1)))
def x_condition_of : XF := xDef 1 b_condition_of
def b_Hand_boxed : XS :=
  xSeq (xIf (xNot (xTru (xMeth 3 "may" 2 [] x_Hand_may (xV 0) (xCons (xC (.str "[")) (xNil)))))
    (xRet (xTupD (xNil)))
    (xSkip))
  (xSeq (xExpr (xMeth 3 "opened" 1 [] x_Hand_opened (xV 0) xNil))
  (xSeq (xSet 2 (xMeth 3 "row" 2 [] x_Hand_row (xV 0) (xCons (xV 1) (xNil))))
  (xSeq (xExpr (xMeth 3 "shut" 2 [] x_Hand_shut (xV 0) (xCons (xC (.str "]")) (xNil))))
  (xRet (xUn fTupV (xV 2))))))
def x_Hand_boxed : XF := xDef 1 b_Hand_boxed
def b_read_head : XS :=
  xSeq (xSet 2 (xMeth 4 "ahead" 1 [] x_Lines_ahead (xV 0) xNil))
  (xSeq (xExpr (xMeth 3 "must" 2 [] x_Hand_must (xV 2) (xCons (xV 1) (xNil))))
  (xSeq (xSet 3 (xMeth 3 "name" 1 [] x_Hand_name (xV 2) xNil))
  (xSeq (xSet 4 (xMeth 3 "names" 1 [] x_Hand_names (xV 2) xNil))
  (xSeq (xExpr (xMeth 3 "end" 1 [] x_Hand_end (xV 2) xNil))
  (xSeq (xSet 5 (xTupD (xNil)))
  (xSeq (xSet 6 (xNew (xDsp (xNil))))
  (xSeq (xSet 2 (xMeth 4 "ahead" 1 [] x_Lines_ahead (xV 0) xNil))
  (xSeq (xWhile 3000 (xTest (xOp (oIn false) (xMeth 3 "next" 2 [.im (.int 0)] x_Hand_next (xV 2) xNil) (xTupD (xCons (xC (.str "given")) (xCons (xC (.str "in")) (xNil))))))
    (xSeq (xIf (xTest (xOp (oEqT false) (xMeth 3 "go" 1 [] x_Hand_go (xV 2) xNil) (xC (.str "given"))))
      (xSet 5 (xOp oAdd (xV 5) (xCall x_condition_of 1 (xCons (xV 2) (xNil)))))
      (xExpr (xM isL mApp (xV 6) (xCons (xTupD (xCons (xMeth 3 "name" 1 [] x_Hand_name (xV 2) xNil) (xCons (xMeth 3 "boxed" 2 [] x_Hand_boxed (xV 2) (xCons (xFn 40) (xNil))) (xNil)))) (xNil)))))
    (xSeq (xExpr (xMeth 3 "end" 1 [] x_Hand_end (xV 2) xNil))
    (xSet 2 (xMeth 4 "ahead" 1 [] x_Lines_ahead (xV 0) xNil)))))
  (xRet (xTupD (xCons (xTupD (xCons (xV 3) (xCons (xV 4) (xCons (xV 5) (xCons (xUn fTupV (xV 6)) (xNil)))))) (xCons (xV 2) (xNil)))))))))))))
def x_read_head : XF := xDef 5 b_read_head
def b_form_line : XS :=
  xSeq (xExpr (xMeth 3 "must" 2 [] x_Hand_must (xV 0) (xCons (xV 1) (xNil))))
  (xSeq (xSet 2 (xCall x_form_of 1 (xCons (xV 0) (xNil))))
  (xSeq (xExpr (xMeth 3 "end" 1 [] x_Hand_end (xV 0) xNil))
  (xRet (xV 2))))
def x_form_line : XF := xDef 1 b_form_line
def b_read_frame : XS :=
  xSeq (xSet 2 (xCall x_form_line 2 (xCons (xV 1) (xCons (xC (.str "first")) (xNil)))))
  (xSeq (xSet 3 (xCall x_form_line 2 (xCons (xMeth 4 "ahead" 1 [] x_Lines_ahead (xV 0) xNil) (xCons (xC (.str "last")) (xNil)))))
  (xSeq (xSet 1 (xMeth 4 "ahead" 1 [] x_Lines_ahead (xV 0) xNil))
  (xSeq (xExpr (xMeth 3 "must" 2 [] x_Hand_must (xV 1) (xCons (xC (.str "box")) (xNil))))
  (xSeq (xSet 4 (xUn fTupV (xMeth 3 "row" 2 [] x_Hand_row (xV 1) (xCons (xFn 40) (xNil)))))
  (xSeq (xIf (xTest (xOp (oGt) (xUn fLen (xV 4)) (xC (.int 2))))
    (xExpr (xMeth 3 "bad" 1 [] x_Hand_bad (xV 1) xNil))
    (xSkip))
  (xSeq (xExpr (xMeth 3 "end" 1 [] x_Hand_end (xV 1) xNil))
  (xRet (xTupD (xCons (xTupD (xCons (xV 2) (xCons (xV 3) (xCons (xV 4) (xNil))))) (xCons (xMeth 4 "ahead" 1 [] x_Lines_ahead (xV 0) xNil) (xNil)))))))))))
def x_read_frame : XF := xDef 3 b_read_frame
def b_Hand_leaf : XS :=
  xSeq (xAugF [3] "leaves" oIadd (xV 0) (xC (.int 1)))
  (xIf (xTest (xOp (oGt) (xFld [3] "leaves" (xV 0)) (xC (.int 100))))
    (xExpr (xMeth 3 "bad" 1 [] x_Hand_bad (xV 0) xNil))
    (xSkip))
def x_Hand_leaf : XF := xDef 0 b_Hand_leaf
def b_wire_of : XS :=
  xSeq (xExpr (xMeth 3 "must" 2 [] x_Hand_must (xV 0) (xCons (xC (.str "wire")) (xNil))))
  (xSeq (xExpr (xMeth 3 "must" 2 [] x_Hand_must (xV 0) (xCons (xC (.str "(")) (xNil))))
  (xSeq (xExpr (xMeth 3 "opened" 1 [] x_Hand_opened (xV 0) xNil))
  (xSeq (xSet 1 (xMeth 3 "name" 1 [] x_Hand_name (xV 0) xNil))
  (xSeq (xExpr (xMeth 3 "must" 2 [] x_Hand_must (xV 0) (xCons (xC (.str ",")) (xNil))))
  (xSeq (xSet 2 (xMeth 3 "row" 2 [] x_Hand_row (xV 0) (xCons (xFn 45) (xNil))))
  (xSeq (xExpr (xMeth 3 "shut" 2 [] x_Hand_shut (xV 0) (xCons (xC (.str ")")) (xNil))))
  (xSeq (xIf (xTest (xOp (oIn true) (xUn fLen (xV 2)) (xTupD (xCons (xC (.int 2)) (xCons (xC (.int 3)) (xNil))))))
    (xExpr (xMeth 3 "bad" 1 [] x_Hand_bad (xV 0) xNil))
    (xSkip))
  (xRet (xTupD (xCons (xC (.str "wire")) (xCons (xV 1) (xCons (xUn fTupV (xSl (xV 2) (xNoPart) (xPart (xUn uNeg (xC (.int 1)))))) (xCons (xOp oIxA (xV 2) (xUn uNeg (xC (.int 1)))) (xNil))))))))))))))
def x_wire_of : XF := xDef 2 b_wire_of
def b_Sums_word_of : XS :=
  xSeq (xSet 2 (xMeth 3 "name" 1 [] x_Hand_name (xV 1) xNil))
  (xSeq (xIf (xTest (xOp (oEqT false) (xFld [5] "kind" (xV 0)) (xC (.str "array"))))
    (xRet (xTupD (xCons (xC (.str "rim")) (xCons (xV 2) (xCons (xMeth 3 "boxed" 2 [] x_Hand_boxed (xV 1) (xCons (xFn 44) (xNil))) (xNil))))))
    (xSkip))
  (xRet (xTupD (xCons (xIfE (xTest (xOp (oIn false) (xV 2) (xFld [5] "ins" (xV 0)))) (xC (.str "in")) (xC (.str "read"))) (xCons (xV 2) (xCons (xMeth 3 "boxed" 2 [] x_Hand_boxed (xV 1) (xCons (xFn 35) (xNil))) (xNil)))))))
def x_Sums_word_of : XF := xDef 1 b_Sums_word_of
def b_Sums_sum_of (r0 r1 r2 r3 r4 : XF) : XS :=
  xSeq (xSet 2 (xMeth 5 "term_of" 2 [] r1 (xV 0) (xCons (xV 1) (xNil))))
  (xSeq (xWhile 3000 (xTest (xInK false k_JOINING (xMeth 3 "next" 2 [.im (.int 0)] x_Hand_next (xV 1) xNil)))
    (xSeq (xSet 3 (xIxK k_JOINING (xMeth 3 "go" 1 [] x_Hand_go (xV 1) xNil)))
    (xSet 2 (xTupD (xCons (xV 3) (xCons (xV 2) (xCons (xMeth 5 "term_of" 2 [] r1 (xV 0) (xCons (xV 1) (xNil))) (xNil))))))))
  (xRet (xV 2)))
def b_Sums_term_of (r0 r1 r2 r3 r4 : XF) : XS :=
  xSeq (xSet 2 (xMeth 5 "factor_of" 2 [] r2 (xV 0) (xCons (xV 1) (xNil))))
  (xSeq (xWhile 3000 (xTru (xMeth 3 "may" 2 [] x_Hand_may (xV 1) (xCons (xC (.str "*")) (xNil))))
    (xSet 2 (xTupD (xCons (xC (.str "times")) (xCons (xV 2) (xCons (xMeth 5 "factor_of" 2 [] r2 (xV 0) (xCons (xV 1) (xNil))) (xNil)))))))
  (xRet (xV 2)))
def b_Sums_factor_of (r0 r1 r2 r3 r4 : XF) : XS :=
  xSeq (xSet 2 (xMeth 3 "next" 2 [.im (.int 0)] x_Hand_next (xV 1) xNil))
  (xSeq (xIf (xTest (xOp (oEqT false) (xV 2) (xC (.str "("))))
    (xRet (xMeth 5 "bracket_of" 2 [] r3 (xV 0) (xCons (xV 1) (xNil))))
    (xSkip))
  (xSeq (xIf (xTest (xOp (oIn false) (xV 2) (xC c_CALLS)))
    (xRet (xMeth 5 "call_of" 2 [] r4 (xV 0) (xCons (xV 1) (xNil))))
    (xSkip))
  (xSeq (xExpr (xMeth 3 "leaf" 1 [] x_Hand_leaf (xV 1) xNil))
  (xSeq (xIf (xAnd (xTest (xOp (oEqT false) (xV 2) (xC (.str "wire")))) (xTest (xOp (oEqT false) (xFld [5] "kind" (xV 0)) (xC (.str "array")))))
    (xRet (xCall x_wire_of 1 (xCons (xV 1) (xNil))))
    (xSkip))
  (xSeq (xIf (xAnd (xTest (xOp (oEqT true) (xV 2) (xC (.str "")))) (xTest (xOp (oIn false) (xOp oIxA (xV 2) (xC (.int 0))) (xC (.str "0123456789")))))
    (xRet (xTupD (xCons (xC (.str "number")) (xCons (xMeth 3 "number" 1 [] x_Hand_number (xV 1) xNil) (xNil)))))
    (xSkip))
  (xRet (xMeth 5 "word_of" 2 [] x_Sums_word_of (xV 0) (xCons (xV 1) (xNil)))))))))
def b_Sums_bracket_of (r0 r1 r2 r3 r4 : XF) : XS :=
  xSeq (xExpr (xMeth 3 "must" 2 [] x_Hand_must (xV 1) (xCons (xC (.str "(")) (xNil))))
  (xSeq (xExpr (xMeth 3 "opened" 1 [] x_Hand_opened (xV 1) xNil))
  (xSeq (xIf (xTest (xOp (oEqT false) (xMeth 3 "next" 2 [.im (.int 0)] x_Hand_next (xV 1) xNil) (xC (.str "-"))))
    (xSeq (xExpr (xMeth 3 "leaf" 1 [] x_Hand_leaf (xV 1) xNil))
    (xSet 2 (xTupD (xCons (xC (.str "number")) (xCons (xMeth 3 "signed" 1 [] x_Hand_signed (xV 1) xNil) (xNil))))))
    (xSet 2 (xMeth 5 "sum_of" 2 [] r0 (xV 0) (xCons (xV 1) (xNil)))))
  (xSeq (xExpr (xMeth 3 "shut" 2 [] x_Hand_shut (xV 1) (xCons (xC (.str ")")) (xNil))))
  (xRet (xV 2)))))
def b_Sums_call_of (r0 r1 r2 r3 r4 : XF) : XS :=
  xSeq (xSet 2 (xMeth 3 "go" 1 [] x_Hand_go (xV 1) xNil))
  (xSeq (xExpr (xMeth 3 "must" 2 [] x_Hand_must (xV 1) (xCons (xC (.str "(")) (xNil))))
  (xSeq (xExpr (xMeth 3 "opened" 1 [] x_Hand_opened (xV 1) xNil))
  (xSeq (xSet 3 (xMeth 5 "sum_of" 2 [] r0 (xV 0) (xCons (xV 1) (xNil))))
  (xSeq (xExpr (xMeth 3 "must" 2 [] x_Hand_must (xV 1) (xCons (xC (.str ",")) (xNil))))
  (xSeq (xSet 4 (xMeth 5 "sum_of" 2 [] r0 (xV 0) (xCons (xV 1) (xNil))))
  (xSeq (xExpr (xMeth 3 "shut" 2 [] x_Hand_shut (xV 1) (xCons (xC (.str ")")) (xNil))))
  (xRet (xTupD (xCons (xV 2) (xCons (xV 3) (xCons (xV 4) (xNil))))))))))))
def gr_Sums_sum_of : Nat → Nat → XF
  | 0, _ => badF
  | n + 1, i => match i with
    | 0 => xDef 2 (b_Sums_sum_of (gr_Sums_sum_of n 0) (gr_Sums_sum_of n 1) (gr_Sums_sum_of n 2) (gr_Sums_sum_of n 3) (gr_Sums_sum_of n 4))
    | 1 => xDef 1 (b_Sums_term_of (gr_Sums_sum_of n 0) (gr_Sums_sum_of n 1) (gr_Sums_sum_of n 2) (gr_Sums_sum_of n 3) (gr_Sums_sum_of n 4))
    | 2 => xDef 1 (b_Sums_factor_of (gr_Sums_sum_of n 0) (gr_Sums_sum_of n 1) (gr_Sums_sum_of n 2) (gr_Sums_sum_of n 3) (gr_Sums_sum_of n 4))
    | 3 => xDef 1 (b_Sums_bracket_of (gr_Sums_sum_of n 0) (gr_Sums_sum_of n 1) (gr_Sums_sum_of n 2) (gr_Sums_sum_of n 3) (gr_Sums_sum_of n 4))
    | 4 => xDef 3 (b_Sums_call_of (gr_Sums_sum_of n 0) (gr_Sums_sum_of n 1) (gr_Sums_sum_of n 2) (gr_Sums_sum_of n 3) (gr_Sums_sum_of n 4))
    | _ => badF
def x_Sums_sum_of : XF := gr_Sums_sum_of 24 0
def b_Sums_init : XS :=
  xSeq (xSetF [5] "kind" (xV 1) (xV 0))
  (xSetF [5] "ins" (xV 2) (xV 0))
def x_Sums_init : XF := xDef 0 b_Sums_init
def b_test_of : XS :=
  xSeq (xIf (xAnd (xTru (xCall x_is_number 1 (xCons (xMeth 3 "next" 2 [.im (.int 0)] x_Hand_next (xV 0) xNil) (xNil)))) (xTest (xOp (oEqT false) (xMeth 3 "next" 2 [] x_Hand_next (xV 0) (xCons (xC (.int 1)) (xNil))) (xC (.str "divides")))))
    (xSeq (xSet 1 (xMeth 3 "number" 1 [] x_Hand_number (xV 0) xNil))
    (xSeq (xExpr (xMeth 3 "must" 2 [] x_Hand_must (xV 0) (xCons (xC (.str "divides")) (xNil))))
    (xRet (xTupD (xCons (xTupD (xCons (xC (.str "divides")) (xCons (xV 1) (xCons (xCall x_form_of 1 (xCons (xV 0) (xNil))) (xNil))))) (xNil))))))
    (xSkip))
  (xRet (xHF fTup (xLc (xIV (xCall x_compared 1 (xCons (xV 0) (xNil)))) (xgN 2) (xYes) (xTupD (xCons (xC (.str "least")) (xCons (xV 2) (xNil)))) [2])))
def x_test_of : XF := xDef 2 b_test_of
def b_guard_of : XS :=
  xSeq (xSet 1 (xCall x_test_of 1 (xCons (xV 0) (xNil))))
  (xSeq (xWhile 3000 (xTru (xMeth 3 "may" 2 [] x_Hand_may (xV 0) (xCons (xC (.str "and")) (xNil))))
    (xSet 1 (xOp oAdd (xV 1) (xCall x_test_of 1 (xCons (xV 0) (xNil))))))
  (xRet (xV 1)))
def x_guard_of : XF := xDef 1 b_guard_of
def b_row_of : XS :=
  xSeq (xExpr (xMeth 3 "must" 2 [] x_Hand_must (xV 0) (xCons (xC (.str "row")) (xNil))))
  (xSeq (xSet 1 (xMeth 3 "name" 1 [] x_Hand_name (xV 0) xNil))
  (xSeq (xExpr (xMeth 3 "must" 2 [] x_Hand_must (xV 0) (xCons (xC (.str "give")) (xNil))))
  (xSeq (xSet 2 (xMeth 5 "sum_of" 2 [] x_Sums_sum_of (xMake 5 3 x_Sums_init (xCons (xC (.str "array")) (xCons (xTupD (xNil)) (xNil)))) (xCons (xV 0) (xNil))))
  (xSeq (xSet 3 (xIfE (xTru (xMeth 3 "may" 2 [] x_Hand_may (xV 0) (xCons (xC (.str "when")) (xNil)))) (xCall x_guard_of 1 (xCons (xV 0) (xNil))) (xTupD (xNil))))
  (xSeq (xExpr (xMeth 3 "end" 1 [] x_Hand_end (xV 0) xNil))
  (xRet (xTupD (xCons (xV 1) (xCons (xV 3) (xCons (xV 2) (xNil)))))))))))
def x_row_of : XF := xDef 3 b_row_of
def b_forms_of : XS :=
  xSeq (xSet 1 (xUn fTupV (xMeth 3 "row" 2 [] x_Hand_row (xV 0) (xCons (xFn 35) (xNil)))))
  (xSeq (xIf (xTest (xOp (oGt) (xUn fLen (xV 1)) (xC (.int 2))))
    (xExpr (xMeth 3 "bad" 1 [] x_Hand_bad (xV 0) xNil))
    (xSkip))
  (xRet (xV 1)))
def x_forms_of : XF := xDef 1 b_forms_of
def b_read_when : XS :=
  xSeq (xSet 1 (xIfE (xTru (xMeth 3 "may" 2 [] x_Hand_may (xV 0) (xCons (xC (.str "when")) (xNil)))) (xCall x_condition_of 1 (xCons (xV 0) (xNil))) (xTupD (xNil))))
  (xSeq (xExpr (xMeth 3 "end" 1 [] x_Hand_end (xV 0) xNil))
  (xRet (xV 1)))
def x_read_when : XF := xDef 1 b_read_when
def b_told_of : XS :=
  xSeq (xSet 1 (xMeth 3 "name" 1 [] x_Hand_name (xV 0) xNil))
  (xSeq (xExpr (xMeth 3 "must" 2 [] x_Hand_must (xV 0) (xCons (xC (.str "at")) (xNil))))
  (xSeq (xSet 2 (xCall x_form_of 1 (xCons (xV 0) (xNil))))
  (xSeq (xExpr (xMeth 3 "must" 2 [] x_Hand_must (xV 0) (xCons (xC (.str "in")) (xNil))))
  (xSeq (xSet 3 (xCall x_forms_of 1 (xCons (xV 0) (xNil))))
  (xRet (xTupD (xCons (xCall x_read_when 1 (xCons (xV 0) (xNil))) (xCons (xV 1) (xCons (xV 2) (xCons (xV 3) (xNil)))))))))))
def x_told_of : XF := xDef 3 b_told_of
def tb_read_block_piece_of : Tbl
  | 60 => some (1, x_told_of)
  | _ => none
def b_read_block : XS :=
  xSeq (xExpr (xMeth 3 "go" 1 [] x_Hand_go (xV 1) xNil))
  (xSeq (xSet 3 (xMeth 3 "name" 1 [] x_Hand_name (xV 1) xNil))
  (xSeq (xSet 4 (xMeth 3 "boxed" 2 [] x_Hand_boxed (xV 1) (xCons (xFn 33) (xNil))))
  (xSeq (xExpr (xMeth 3 "end" 1 [] x_Hand_end (xV 1) xNil))
  (xSeq (xSet 1 (xMeth 4 "ahead" 1 [] x_Lines_ahead (xV 0) xNil))
  (xSeq (xSet 5 (xTupD (xNil)))
  (xSeq (xWhile 3000 (xTru (xMeth 3 "may" 2 [] x_Hand_may (xV 1) (xCons (xC (.str "where")) (xNil))))
    (xSeq (xSet 5 (xOp oAdd (xV 5) (xCall x_condition_of 1 (xCons (xV 1) (xNil)))))
    (xSeq (xExpr (xMeth 3 "end" 1 [] x_Hand_end (xV 1) xNil))
    (xSet 1 (xMeth 4 "ahead" 1 [] x_Lines_ahead (xV 0) xNil)))))
  (xSeq (xSet 6 (xNew (xDsp (xNil))))
  (xSeq (xWhile 3000 (xTru (xMeth 3 "may" 2 [] x_Hand_may (xV 1) (xCons (xC (.str "give")) (xNil))))
    (xSeq (xExpr (xM isL mApp (xV 6) (xCons (xCallV tb_read_block_piece_of (xV 2) (xCons (xV 1) (xNil))) (xNil))))
    (xSet 1 (xMeth 4 "ahead" 1 [] x_Lines_ahead (xV 0) xNil))))
  (xRet (xTupD (xCons (xTupD (xCons (xV 3) (xCons (xV 4) (xCons (xV 5) (xCons (xUn fTupV (xV 6)) (xNil)))))) (xCons (xV 1) (xNil)))))))))))))
def x_read_block : XF := xDef 4 b_read_block
def b_read_makings : XS :=
  xSeq (xSet 2 (xNew (xDsp (xNil))))
  (xSeq (xWhile 3000 (xTest (xInK false k_MAKINGS (xMeth 3 "next" 2 [.im (.int 0)] x_Hand_next (xV 1) xNil)))
    (xBadS))
  (xRet (xTupD (xCons (xUn fTupV (xV 2)) (xCons (xV 1) (xNil))))))
def x_read_makings : XF := xDef 2 b_read_makings
def b_Lines_finish : XS :=
  xSeq (xExpr (xMeth 3 "must" 2 [] x_Hand_must (xV 1) (xCons (xC (.str "end")) (xNil))))
  (xSeq (xExpr (xMeth 3 "end" 1 [] x_Hand_end (xV 1) xNil))
  (xFor (xIV (xMeth 4 "more" 1 [] x_Lines_more (xV 0) xNil)) (xgN 2)
    (xExpr (xMeth 3 "bad" 1 [] x_Hand_bad (xV 2) xNil))))
def x_Lines_finish : XF := xDef 1 b_Lines_finish
def b_read_array : XS :=
  xSeq (xSet 1 (xMake 4 2 x_Lines_init (xCons (xV 0) (xNil))))
  (xSeq (xAsg (xCall x_read_head 2 (xCons (xV 1) (xCons (xC (.str "array")) (xNil)))) (xgTup 2 (xgCons (xgN 2) (xgCons (xgN 3) (xgNil)))))
  (xSeq (xAsg (xCall x_read_frame 2 (xCons (xV 1) (xCons (xV 3) (xNil)))) (xgTup 2 (xgCons (xgN 4) (xgCons (xgN 3) (xgNil)))))
  (xSeq (xSet 5 (xNew (xDsp (xNil))))
  (xSeq (xWhile 3000 (xTest (xOp (oEqT false) (xMeth 3 "next" 2 [.im (.int 0)] x_Hand_next (xV 3) xNil) (xC (.str "row"))))
    (xSeq (xExpr (xM isL mApp (xV 5) (xCons (xCall x_row_of 1 (xCons (xV 3) (xNil))) (xNil))))
    (xSet 3 (xMeth 4 "ahead" 1 [] x_Lines_ahead (xV 1) xNil))))
  (xSeq (xSet 6 (xNew (xDsp (xNil))))
  (xSeq (xWhile 3000 (xTest (xOp (oEqT false) (xMeth 3 "next" 2 [.im (.int 0)] x_Hand_next (xV 3) xNil) (xC (.str "out"))))
    (xSeq (xAsg (xCall x_read_block 3 (xCons (xV 1) (xCons (xV 3) (xCons (xFn 60) (xNil))))) (xgTup 2 (xgCons (xgN 7) (xgCons (xgN 3) (xgNil)))))
    (xExpr (xM isL mApp (xV 6) (xCons (xV 7) (xNil))))))
  (xSeq (xAsg (xCall x_read_makings 2 (xCons (xV 1) (xCons (xV 3) (xNil)))) (xgTup 2 (xgCons (xgN 8) (xgCons (xgN 3) (xgNil)))))
  (xSeq (xExpr (xMeth 4 "finish" 2 [] x_Lines_finish (xV 1) (xCons (xV 3) (xNil))))
  (xRet (xTupD (xCons (xOp oAdd (xOp oAdd (xV 2) (xV 4)) (xTupD (xCons (xUn fTupV (xV 5)) (xCons (xUn fTupV (xV 6)) (xNil))))) (xCons (xV 8) (xNil)))))))))))))
def x_read_array : XF := xDef 8 b_read_array
def b_law_array : XS :=
  xRet (xOp oIxA (xCall x_read_array 1 (xCons (xM isS mJoin (xC (.str "")) (xCons (xNew (xLc (xIV (xV 0)) (xgN 1) (xYes) (xOp oAdd (xV 1) (xC (.str "\n"))) [1])) (xNil))) (xNil))) (xC (.int 0)))
def x_law_array : XF := xDef 1 b_law_array
/-! the arrays that the law's two texts tell, known once for all -/
def A1 : Dt := .tup [.str "one", .tup [.str "n", .str "m"], .tup [.tup [.int (-1), .tup [.tup [.str "n", .int 1]]], .tup [.int (-1), .tup [.tup [.str "m", .int 1]]]], .tup [.tup [.str "x", .tup [.tup [.tup [.int 0, .tup []], .tup [.int (-1), .tup [.tup [.str "n", .int 1]]]]]], .tup [.str "w", .tup [.tup [.tup [.int 0, .tup []], .tup [.int (-1), .tup [.tup [.str "m", .int 1]]]]]]], .tup [.int 0, .tup []], .tup [.int (-1), .tup [.tup [.str "m", .int 1], .tup [.str "n", .int 1]]], .tup [.tup [.tup [.int 0, .tup []], .tup [.int (-1), .tup [.tup [.str "m", .int 1]]]]], .tup [.tup [.str "a", .tup [.tup [.str "least", .tup [.int 0, .tup [.tup [.str "beat", .int 1], .tup [.str "place0", .int (-1)]]]], .tup [.str "least", .tup [.int 0, .tup [.tup [.str "beat", .int (-1)], .tup [.str "place0", .int 1]]]]], .tup [.str "rim", .str "w", .tup [.tup [.int 1, .tup [.int 0, .tup [.tup [.str "place0", .int 1]]]]]]], .tup [.str "a", .tup [.tup [.str "least", .tup [.int (-1), .tup [.tup [.str "beat", .int 1], .tup [.str "place0", .int (-1)]]]]], .tup [.str "wire", .str "a", .tup [.int 0], .int 1]], .tup [.str "y", .tup [.tup [.str "divides", .int 2, .tup [.int 0, .tup [.tup [.str "beat", .int 1]]]]], .tup [.str "plus", .tup [.str "wire", .str "y", .tup [.int 1], .int 1], .tup [.str "times", .tup [.str "wire", .str "a", .tup [.int 0], .int 1], .tup [.str "rim", .str "x", .tup [.tup [.int 3, .tup [.int 0, .tup [.tup [.str "beat", .int 1], .tup [.str "n", .int (-1)]]]]]]]]]], .tup [.tup [.str "z", .tup [.str "i"], .tup [.tup [.int 0, .tup [.tup [.str "i", .int 1]]], .tup [.int (-1), .tup [.tup [.str "i", .int (-1)], .tup [.str "n", .int 1]]]], .tup [.tup [.tup [], .str "y", .tup [.int 0, .tup [.tup [.str "i", .int 1], .tup [.str "m", .int 1]]], .tup [.tup [.int (-1), .tup [.tup [.str "m", .int 1]]]]]]]]]
def A2 : Dt := .tup [.str "two", .tup [.str "n"], .tup [], .tup [.tup [.str "x", .tup [.tup [.tup [.int 0, .tup []], .tup [.int 0, .tup [.tup [.str "n", .int 1]]]]]]], .tup [.int (-1), .tup []], .tup [.int 0, .tup [.tup [.str "n", .int 1]]], .tup [.tup [.tup [.int 0, .tup []], .tup [.int 0, .tup [.tup [.str "n", .int 1]]]], .tup [.tup [.int 0, .tup [.tup [.str "n", .int (-1)]]], .tup [.int 2, .tup []]]], .tup [.tup [.str "p", .tup [], .tup [.str "least", .tup [.str "wire", .str "p", .tup [.int 1, .int (-2)], .int 3], .tup [.str "most", .tup [.str "rim", .str "x", .tup [.tup [.int 1, .tup [.int 0, .tup [.tup [.str "place0", .int 1], .tup [.str "place1", .int (-1)]]]]]], .tup [.str "number", .int (-4)]]]]], .tup [.tup [.str "z", .tup [], .tup [], .tup [.tup [.tup [], .str "p", .tup [.int 0, .tup [.tup [.str "n", .int 1]]], .tup [.tup [.int 0, .tup []], .tup [.int 1, .tup []]]]]]]]
def L1 : List Dt := [.str "array one(n, m)", .str "given n >= 1 and m >= 1", .str "in x[0 to n - 1]", .str "in w[0 to m - 1]", .str "first 0", .str "last n + m - 1", .str "box 0 to m - 1", .str "row a give w[place0] when beat == place0", .str "row a give wire(a, 0, 1) when beat >= place0 + 1", .str "row y give wire(y, 1, 1) + wire(a, 0, 1)*x[(beat - n) div 3] when 2 divides beat", .str "out z[i]", .str "where i >= 0 and n >= i + 1", .str "give y at i + m in m - 1", .str "end"]
def L2 : List Dt := [.str "array two(n)", .str "in x[0 to n]", .str "first -1", .str "last n", .str "box 0 to n, -n to 2", .str "row p give least(wire(p, 1, -2, 3), most(x[place0 - place1], (-4)))", .str "out z", .str "give p at n in 0, 1", .str "end"]
def okR : R Val → Dt → List Dt → Bool
  | .ok (.im d) [.lst a], e, b => dtE d e && dtsE a b
  | _, _, _ => false
theorem okR_eq {r : R Val} {d : Dt} {ds : List Dt} (h : okR r d ds = true) : r = .ok (.im d) [.lst ds] := by
  unfold okR at h
  split at h
  · rw [Bool.and_eq_true] at h
    rw [dtE_eq h.1, dtsE_eq h.2]
  · cases h
/-! reading the first text in three stages, so that no one step asks the kernel for too much room -/
def raA : XS := xSeq (xSet 1 (xMake 4 2 x_Lines_init (xCons (xV 0) (xNil)))) (xAsg (xCall x_read_head 2 (xCons (xV 1) (xCons (xC (.str "array")) (xNil)))) (xgTup 2 (xgCons (xgN 2) (xgCons (xgN 3) (xgNil)))))
def raD : XS := xSeq (xAsg (xCall x_read_frame 2 (xCons (xV 1) (xCons (xV 3) (xNil)))) (xgTup 2 (xgCons (xgN 4) (xgCons (xgN 3) (xgNil))))) (xSet 5 (xNew (xDsp (xNil))))
def raB : XS := xWhile 3000 (xTest (xOp (oEqT false) (xMeth 3 "next" 2 [.im (.int 0)] x_Hand_next (xV 3) xNil) (xC (.str "row"))))
    (xSeq (xExpr (xM isL mApp (xV 5) (xCons (xCall x_row_of 1 (xCons (xV 3) (xNil))) (xNil))))
    (xSet 3 (xMeth 4 "ahead" 1 [] x_Lines_ahead (xV 1) xNil)))
def raC : XS := xSeq (xSet 6 (xNew (xDsp (xNil))))
  (xSeq (xWhile 3000 (xTest (xOp (oEqT false) (xMeth 3 "next" 2 [.im (.int 0)] x_Hand_next (xV 3) xNil) (xC (.str "out"))))
    (xSeq (xAsg (xCall x_read_block 3 (xCons (xV 1) (xCons (xV 3) (xCons (xFn 60) (xNil))))) (xgTup 2 (xgCons (xgN 7) (xgCons (xgN 3) (xgNil)))))
    (xExpr (xM isL mApp (xV 6) (xCons (xV 7) (xNil))))))
  (xSeq (xAsg (xCall x_read_makings 2 (xCons (xV 1) (xCons (xV 3) (xNil)))) (xgTup 2 (xgCons (xgN 8) (xgCons (xgN 3) (xgNil)))))
  (xSeq (xExpr (xMeth 4 "finish" 2 [] x_Lines_finish (xV 1) (xCons (xV 3) (xNil))))
  (xRet (xTupD (xCons (xOp oAdd (xOp oAdd (xV 2) (xV 4)) (xTupD (xCons (xUn fTupV (xV 5)) (xCons (xUn fTupV (xV 6)) (xNil))))) (xCons (xV 8) (xNil))))))))
theorem seqA (p q r : XS) : xSeq (xSeq p q) r = xSeq p (xSeq q r) := by
  funext ρ st
  unfold xSeq
  cases p ρ st <;> rfl
theorem ra_abc : b_read_array = xSeq raA (xSeq raD (xSeq raB raC)) := by
  unfold raA raD
  simp only [seqA]
  rfl
def raT : Dt := (.str "array one(n, m)\ngiven n >= 1 and m >= 1\nin x[0 to n - 1]\nin w[0 to m - 1]\nfirst 0\nlast n + m - 1\nbox 0 to m - 1\nrow a give w[place0] when beat == place0\nrow a give wire(a, 0, 1) when beat >= place0 + 1\nrow y give wire(y, 1, 1) + wire(a, 0, 1)*x[(beat - n) div 3] when 2 divides beat\nout z[i]\nwhere i >= 0 and n >= i + 1\ngive y at i + m in m - 1\nend\n")
def raρ0 : Slots := [some (.im (.str "array one(n, m)\ngiven n >= 1 and m >= 1\nin x[0 to n - 1]\nin w[0 to m - 1]\nfirst 0\nlast n + m - 1\nbox 0 to m - 1\nrow a give w[place0] when beat == place0\nrow a give wire(a, 0, 1) when beat >= place0 + 1\nrow y give wire(y, 1, 1) + wire(a, 0, 1)*x[(beat - n) div 3] when 2 divides beat\nout z[i]\nwhere i >= 0 and n >= i + 1\ngive y at i + m in m - 1\nend\n")), some (.ob 0), some (.im (.tup [(.str "one"), (.tup [(.str "n"), (.str "m")]), (.tup [(.tup [(.int (-1)), (.tup [(.tup [(.str "n"), (.int (1))])])]), (.tup [(.int (-1)), (.tup [(.tup [(.str "m"), (.int (1))])])])]), (.tup [(.tup [(.str "x"), (.tup [(.tup [(.tup [(.int (0)), (.tup [])]), (.tup [(.int (-1)), (.tup [(.tup [(.str "n"), (.int (1))])])])])])]), (.tup [(.str "w"), (.tup [(.tup [(.tup [(.int (0)), (.tup [])]), (.tup [(.int (-1)), (.tup [(.tup [(.str "m"), (.int (1))])])])])])])])])), some (.ob 12), none, none, none, none, none]
def raS0 : Store := [(.ins 4 [("lines", (.ob 1)), ("at", (.im (.int (5))))]), (.lst [(.str "array one(n, m)"), (.str "given n >= 1 and m >= 1"), (.str "in x[0 to n - 1]"), (.str "in w[0 to m - 1]"), (.str "first 0"), (.str "last n + m - 1"), (.str "box 0 to m - 1"), (.str "row a give w[place0] when beat == place0"), (.str "row a give wire(a, 0, 1) when beat >= place0 + 1"), (.str "row y give wire(y, 1, 1) + wire(a, 0, 1)*x[(beat - n) div 3] when 2 divides beat"), (.str "out z[i]"), (.str "where i >= 0 and n >= i + 1"), (.str "give y at i + m in m - 1"), (.str "end"), (.str "")]), (.lst [(.str "array"), (.str "one"), (.str "("), (.str "n"), (.str ","), (.str "m"), (.str ")")]), (.ins 3 [("tokens", (.ob 2)), ("place", (.im (.int (1)))), ("at", (.im (.int (7)))), ("deep", (.im (.int (0)))), ("leaves", (.im (.int (0))))]), (.lst [(.tup [(.str "x"), (.tup [(.tup [(.tup [(.int (0)), (.tup [])]), (.tup [(.int (-1)), (.tup [(.tup [(.str "n"), (.int (1))])])])])])]), (.tup [(.str "w"), (.tup [(.tup [(.tup [(.int (0)), (.tup [])]), (.tup [(.int (-1)), (.tup [(.tup [(.str "m"), (.int (1))])])])])])])]), (.lst [(.str "given"), (.str "n"), (.str ">="), (.str "1"), (.str "and"), (.str "m"), (.str ">="), (.str "1")]), (.ins 3 [("tokens", (.ob 5)), ("place", (.im (.int (2)))), ("at", (.im (.int (8)))), ("deep", (.im (.int (0)))), ("leaves", (.im (.int (0))))]), (.lst [(.str "in"), (.str "x"), (.str "["), (.str "0"), (.str "to"), (.str "n"), (.str "-"), (.str "1"), (.str "]")]), (.ins 3 [("tokens", (.ob 7)), ("place", (.im (.int (3)))), ("at", (.im (.int (9)))), ("deep", (.im (.int (0)))), ("leaves", (.im (.int (0))))]), (.lst [(.str "in"), (.str "w"), (.str "["), (.str "0"), (.str "to"), (.str "m"), (.str "-"), (.str "1"), (.str "]")]), (.ins 3 [("tokens", (.ob 9)), ("place", (.im (.int (4)))), ("at", (.im (.int (9)))), ("deep", (.im (.int (0)))), ("leaves", (.im (.int (0))))]), (.lst [(.str "first"), (.str "0")]), (.ins 3 [("tokens", (.ob 11)), ("place", (.im (.int (5)))), ("at", (.im (.int (0)))), ("deep", (.im (.int (0)))), ("leaves", (.im (.int (0))))])]
def raρ1 : Slots := [some (.im (.str "array one(n, m)\ngiven n >= 1 and m >= 1\nin x[0 to n - 1]\nin w[0 to m - 1]\nfirst 0\nlast n + m - 1\nbox 0 to m - 1\nrow a give w[place0] when beat == place0\nrow a give wire(a, 0, 1) when beat >= place0 + 1\nrow y give wire(y, 1, 1) + wire(a, 0, 1)*x[(beat - n) div 3] when 2 divides beat\nout z[i]\nwhere i >= 0 and n >= i + 1\ngive y at i + m in m - 1\nend\n")), some (.ob 0), some (.im (.tup [(.str "one"), (.tup [(.str "n"), (.str "m")]), (.tup [(.tup [(.int (-1)), (.tup [(.tup [(.str "n"), (.int (1))])])]), (.tup [(.int (-1)), (.tup [(.tup [(.str "m"), (.int (1))])])])]), (.tup [(.tup [(.str "x"), (.tup [(.tup [(.tup [(.int (0)), (.tup [])]), (.tup [(.int (-1)), (.tup [(.tup [(.str "n"), (.int (1))])])])])])]), (.tup [(.str "w"), (.tup [(.tup [(.tup [(.int (0)), (.tup [])]), (.tup [(.int (-1)), (.tup [(.tup [(.str "m"), (.int (1))])])])])])])])])), some (.ob 17), some (.im (.tup [(.tup [(.int (0)), (.tup [])]), (.tup [(.int (-1)), (.tup [(.tup [(.str "m"), (.int (1))]), (.tup [(.str "n"), (.int (1))])])]), (.tup [(.tup [(.tup [(.int (0)), (.tup [])]), (.tup [(.int (-1)), (.tup [(.tup [(.str "m"), (.int (1))])])])])])])), some (.ob 18), none, none, none]
def raS1 : Store := [(.ins 4 [("lines", (.ob 1)), ("at", (.im (.int (8))))]), (.lst [(.str "array one(n, m)"), (.str "given n >= 1 and m >= 1"), (.str "in x[0 to n - 1]"), (.str "in w[0 to m - 1]"), (.str "first 0"), (.str "last n + m - 1"), (.str "box 0 to m - 1"), (.str "row a give w[place0] when beat == place0"), (.str "row a give wire(a, 0, 1) when beat >= place0 + 1"), (.str "row y give wire(y, 1, 1) + wire(a, 0, 1)*x[(beat - n) div 3] when 2 divides beat"), (.str "out z[i]"), (.str "where i >= 0 and n >= i + 1"), (.str "give y at i + m in m - 1"), (.str "end"), (.str "")]), (.lst [(.str "array"), (.str "one"), (.str "("), (.str "n"), (.str ","), (.str "m"), (.str ")")]), (.ins 3 [("tokens", (.ob 2)), ("place", (.im (.int (1)))), ("at", (.im (.int (7)))), ("deep", (.im (.int (0)))), ("leaves", (.im (.int (0))))]), (.lst [(.tup [(.str "x"), (.tup [(.tup [(.tup [(.int (0)), (.tup [])]), (.tup [(.int (-1)), (.tup [(.tup [(.str "n"), (.int (1))])])])])])]), (.tup [(.str "w"), (.tup [(.tup [(.tup [(.int (0)), (.tup [])]), (.tup [(.int (-1)), (.tup [(.tup [(.str "m"), (.int (1))])])])])])])]), (.lst [(.str "given"), (.str "n"), (.str ">="), (.str "1"), (.str "and"), (.str "m"), (.str ">="), (.str "1")]), (.ins 3 [("tokens", (.ob 5)), ("place", (.im (.int (2)))), ("at", (.im (.int (8)))), ("deep", (.im (.int (0)))), ("leaves", (.im (.int (0))))]), (.lst [(.str "in"), (.str "x"), (.str "["), (.str "0"), (.str "to"), (.str "n"), (.str "-"), (.str "1"), (.str "]")]), (.ins 3 [("tokens", (.ob 7)), ("place", (.im (.int (3)))), ("at", (.im (.int (9)))), ("deep", (.im (.int (0)))), ("leaves", (.im (.int (0))))]), (.lst [(.str "in"), (.str "w"), (.str "["), (.str "0"), (.str "to"), (.str "m"), (.str "-"), (.str "1"), (.str "]")]), (.ins 3 [("tokens", (.ob 9)), ("place", (.im (.int (4)))), ("at", (.im (.int (9)))), ("deep", (.im (.int (0)))), ("leaves", (.im (.int (0))))]), (.lst [(.str "first"), (.str "0")]), (.ins 3 [("tokens", (.ob 11)), ("place", (.im (.int (5)))), ("at", (.im (.int (2)))), ("deep", (.im (.int (0)))), ("leaves", (.im (.int (0))))]), (.lst [(.str "box"), (.str "0"), (.str "to"), (.str "m"), (.str "-"), (.str "1")]), (.ins 3 [("tokens", (.ob 13)), ("place", (.im (.int (7)))), ("at", (.im (.int (6)))), ("deep", (.im (.int (0)))), ("leaves", (.im (.int (0))))]), (.lst [(.tup [(.tup [(.int (0)), (.tup [])]), (.tup [(.int (-1)), (.tup [(.tup [(.str "m"), (.int (1))])])])])]), (.lst [(.str "row"), (.str "a"), (.str "give"), (.str "w"), (.str "["), (.str "place0"), (.str "]"), (.str "when"), (.str "beat"), (.str "=="), (.str "place0")]), (.ins 3 [("tokens", (.ob 16)), ("place", (.im (.int (8)))), ("at", (.im (.int (0)))), ("deep", (.im (.int (0)))), ("leaves", (.im (.int (0))))]), (.lst [])]
def raρ2 : Slots := [some (.im (.str "array one(n, m)\ngiven n >= 1 and m >= 1\nin x[0 to n - 1]\nin w[0 to m - 1]\nfirst 0\nlast n + m - 1\nbox 0 to m - 1\nrow a give w[place0] when beat == place0\nrow a give wire(a, 0, 1) when beat >= place0 + 1\nrow y give wire(y, 1, 1) + wire(a, 0, 1)*x[(beat - n) div 3] when 2 divides beat\nout z[i]\nwhere i >= 0 and n >= i + 1\ngive y at i + m in m - 1\nend\n")), some (.ob 0), some (.im (.tup [(.str "one"), (.tup [(.str "n"), (.str "m")]), (.tup [(.tup [(.int (-1)), (.tup [(.tup [(.str "n"), (.int (1))])])]), (.tup [(.int (-1)), (.tup [(.tup [(.str "m"), (.int (1))])])])]), (.tup [(.tup [(.str "x"), (.tup [(.tup [(.tup [(.int (0)), (.tup [])]), (.tup [(.int (-1)), (.tup [(.tup [(.str "n"), (.int (1))])])])])])]), (.tup [(.str "w"), (.tup [(.tup [(.tup [(.int (0)), (.tup [])]), (.tup [(.int (-1)), (.tup [(.tup [(.str "m"), (.int (1))])])])])])])])])), some (.ob 24), some (.im (.tup [(.tup [(.int (0)), (.tup [])]), (.tup [(.int (-1)), (.tup [(.tup [(.str "m"), (.int (1))]), (.tup [(.str "n"), (.int (1))])])]), (.tup [(.tup [(.tup [(.int (0)), (.tup [])]), (.tup [(.int (-1)), (.tup [(.tup [(.str "m"), (.int (1))])])])])])])), some (.ob 18), none, none, none]
def raS2 : Store := [(.ins 4 [("lines", (.ob 1)), ("at", (.im (.int (11))))]), (.lst [(.str "array one(n, m)"), (.str "given n >= 1 and m >= 1"), (.str "in x[0 to n - 1]"), (.str "in w[0 to m - 1]"), (.str "first 0"), (.str "last n + m - 1"), (.str "box 0 to m - 1"), (.str "row a give w[place0] when beat == place0"), (.str "row a give wire(a, 0, 1) when beat >= place0 + 1"), (.str "row y give wire(y, 1, 1) + wire(a, 0, 1)*x[(beat - n) div 3] when 2 divides beat"), (.str "out z[i]"), (.str "where i >= 0 and n >= i + 1"), (.str "give y at i + m in m - 1"), (.str "end"), (.str "")]), (.lst [(.str "array"), (.str "one"), (.str "("), (.str "n"), (.str ","), (.str "m"), (.str ")")]), (.ins 3 [("tokens", (.ob 2)), ("place", (.im (.int (1)))), ("at", (.im (.int (7)))), ("deep", (.im (.int (0)))), ("leaves", (.im (.int (0))))]), (.lst [(.tup [(.str "x"), (.tup [(.tup [(.tup [(.int (0)), (.tup [])]), (.tup [(.int (-1)), (.tup [(.tup [(.str "n"), (.int (1))])])])])])]), (.tup [(.str "w"), (.tup [(.tup [(.tup [(.int (0)), (.tup [])]), (.tup [(.int (-1)), (.tup [(.tup [(.str "m"), (.int (1))])])])])])])]), (.lst [(.str "given"), (.str "n"), (.str ">="), (.str "1"), (.str "and"), (.str "m"), (.str ">="), (.str "1")]), (.ins 3 [("tokens", (.ob 5)), ("place", (.im (.int (2)))), ("at", (.im (.int (8)))), ("deep", (.im (.int (0)))), ("leaves", (.im (.int (0))))]), (.lst [(.str "in"), (.str "x"), (.str "["), (.str "0"), (.str "to"), (.str "n"), (.str "-"), (.str "1"), (.str "]")]), (.ins 3 [("tokens", (.ob 7)), ("place", (.im (.int (3)))), ("at", (.im (.int (9)))), ("deep", (.im (.int (0)))), ("leaves", (.im (.int (0))))]), (.lst [(.str "in"), (.str "w"), (.str "["), (.str "0"), (.str "to"), (.str "m"), (.str "-"), (.str "1"), (.str "]")]), (.ins 3 [("tokens", (.ob 9)), ("place", (.im (.int (4)))), ("at", (.im (.int (9)))), ("deep", (.im (.int (0)))), ("leaves", (.im (.int (0))))]), (.lst [(.str "first"), (.str "0")]), (.ins 3 [("tokens", (.ob 11)), ("place", (.im (.int (5)))), ("at", (.im (.int (2)))), ("deep", (.im (.int (0)))), ("leaves", (.im (.int (0))))]), (.lst [(.str "box"), (.str "0"), (.str "to"), (.str "m"), (.str "-"), (.str "1")]), (.ins 3 [("tokens", (.ob 13)), ("place", (.im (.int (7)))), ("at", (.im (.int (6)))), ("deep", (.im (.int (0)))), ("leaves", (.im (.int (0))))]), (.lst [(.tup [(.tup [(.int (0)), (.tup [])]), (.tup [(.int (-1)), (.tup [(.tup [(.str "m"), (.int (1))])])])])]), (.lst [(.str "row"), (.str "a"), (.str "give"), (.str "w"), (.str "["), (.str "place0"), (.str "]"), (.str "when"), (.str "beat"), (.str "=="), (.str "place0")]), (.ins 3 [("tokens", (.ob 16)), ("place", (.im (.int (8)))), ("at", (.im (.int (11)))), ("deep", (.im (.int (0)))), ("leaves", (.im (.int (1))))]), (.lst [(.tup [(.str "a"), (.tup [(.tup [(.str "least"), (.tup [(.int (0)), (.tup [(.tup [(.str "beat"), (.int (1))]), (.tup [(.str "place0"), (.int (-1))])])])]), (.tup [(.str "least"), (.tup [(.int (0)), (.tup [(.tup [(.str "beat"), (.int (-1))]), (.tup [(.str "place0"), (.int (1))])])])])]), (.tup [(.str "rim"), (.str "w"), (.tup [(.tup [(.int (1)), (.tup [(.int (0)), (.tup [(.tup [(.str "place0"), (.int (1))])])])])])])]), (.tup [(.str "a"), (.tup [(.tup [(.str "least"), (.tup [(.int (-1)), (.tup [(.tup [(.str "beat"), (.int (1))]), (.tup [(.str "place0"), (.int (-1))])])])])]), (.tup [(.str "wire"), (.str "a"), (.tup [(.int (0))]), (.int (1))])]), (.tup [(.str "y"), (.tup [(.tup [(.str "divides"), (.int (2)), (.tup [(.int (0)), (.tup [(.tup [(.str "beat"), (.int (1))])])])])]), (.tup [(.str "plus"), (.tup [(.str "wire"), (.str "y"), (.tup [(.int (1))]), (.int (1))]), (.tup [(.str "times"), (.tup [(.str "wire"), (.str "a"), (.tup [(.int (0))]), (.int (1))]), (.tup [(.str "rim"), (.str "x"), (.tup [(.tup [(.int (3)), (.tup [(.int (0)), (.tup [(.tup [(.str "beat"), (.int (1))]), (.tup [(.str "n"), (.int (-1))])])])])])])])])])]), (.lst [(.str "row"), (.str "a"), (.str "give"), (.str "wire"), (.str "("), (.str "a"), (.str ","), (.str "0"), (.str ","), (.str "1"), (.str ")"), (.str "when"), (.str "beat"), (.str ">="), (.str "place0"), (.str "+"), (.str "1")]), (.ins 3 [("tokens", (.ob 19)), ("place", (.im (.int (9)))), ("at", (.im (.int (17)))), ("deep", (.im (.int (0)))), ("leaves", (.im (.int (1))))]), (.lst [(.str "row"), (.str "y"), (.str "give"), (.str "wire"), (.str "("), (.str "y"), (.str ","), (.str "1"), (.str ","), (.str "1"), (.str ")"), (.str "+"), (.str "wire"), (.str "("), (.str "a"), (.str ","), (.str "0"), (.str ","), (.str "1"), (.str ")"), (.str "*"), (.str "x"), (.str "["), (.str "("), (.str "beat"), (.str "-"), (.str "n"), (.str ")"), (.str "div"), (.str "3"), (.str "]"), (.str "when"), (.str "2"), (.str "divides"), (.str "beat")]), (.ins 3 [("tokens", (.ob 21)), ("place", (.im (.int (10)))), ("at", (.im (.int (35)))), ("deep", (.im (.int (0)))), ("leaves", (.im (.int (3))))]), (.lst [(.str "out"), (.str "z"), (.str "["), (.str "i"), (.str "]")]), (.ins 3 [("tokens", (.ob 23)), ("place", (.im (.int (11)))), ("at", (.im (.int (0)))), ("deep", (.im (.int (0)))), ("leaves", (.im (.int (0))))])]
theorem ra0 : raA [some (.im raT), none, none, none, none, none, none, none, none] [] = .nx raρ0 raS0 := by kernel_rfl
theorem ra1 : raD raρ0 raS0 = .nx raρ1 raS1 := by kernel_rfl
theorem ra2 : raB raρ1 raS1 = .nx raρ2 raS2 := by kernel_rfl
def raOk : Slots → Store → Bool
  | [some (.im t), none, none, none, none, none, none, none, none], [] => dtE t raT
  | _, _ => false
def raY : XS := fun ρ st => match raOk ρ st with
  | true => raC raρ2 raS2
  | false => b_read_array ρ st
theorem raY_eq : b_read_array = raY := by
  funext ρ st
  unfold raY
  cases h : raOk ρ st with
  | false => rfl
  | true =>
    unfold raOk at h
    split at h
    · rw [dtE_eq h, ra_abc]
      show (raA _ _).then _ = _
      rw [ra0]
      show (raD _ _).then _ = _
      rw [ra1]
      show (raB _ _).then _ = _
      rw [ra2]
      rfl
    · cases h
def raF (f : XF) : XF := xDef 1 (xRet (xOp oIxA (xCall f 1 (xCons (xM isS mJoin (xC (.str "")) (xCons (xNew (xLc (xIV (xV 0)) (xgN 1) (xYes) (xOp oAdd (xV 1) (xC (.str "\n"))) [1])) (xNil))) (xNil))) (xC (.int 0))))
theorem ra3 : okR (raF (xDef 8 raY) [.ob 0] [.lst L1]) A1 L1 = true := by decide +kernel
theorem arr1 : okR (x_law_array [.ob 0] [.lst L1]) A1 L1 = true := by
  have e : x_law_array = raF (xDef 8 raY) := by
    rw [← raY_eq]
    rfl
  rw [e]
  exact ra3
theorem arr2 : okR (x_law_array [.ob 0] [.lst L2]) A2 L2 = true := by decide +kernel
def arOk (l : List Dt) : List Val → Store → Bool
  | [.ob i], [.lst ds] => Nat.beq i 0 && dtsE ds l
  | _, _ => false
def y_law_array : XF := fun as st => match arOk L1 as st with
  | true => .ok (.im A1) [.lst L1]
  | false => (match arOk L2 as st with
    | true => .ok (.im A2) [.lst L2]
    | false => x_law_array as st)
theorem arOk_of {l : List Dt} {as : List Val} {st : Store} (h : arOk l as st = true) : as = [.ob 0] ∧ st = [.lst l] := by
  unfold arOk at h
  split at h
  · rw [Bool.and_eq_true, Nat.beq_eq] at h
    obtain ⟨rfl, h⟩ := h
    rw [dtsE_eq h]
    exact ⟨rfl, rfl⟩
  · cases h
theorem y_law_array_eq (as : List Val) (st : Store) : x_law_array as st = y_law_array as st := by
  unfold y_law_array
  cases h : arOk L1 as st with
  | true =>
    obtain ⟨rfl, rfl⟩ := arOk_of h
    exact okR_eq arr1
  | false =>
    cases h2 : arOk L2 as st with
    | true =>
      obtain ⟨rfl, rfl⟩ := arOk_of h2
      exact okR_eq arr2
    | false => rfl
def b_law_lines : XS :=
  xSeq (xSet 0 (xNew (xDsp (xCons (xC (.str "array one(n, m)")) (xCons (xC (.str "given n >= 1 and m >= 1")) (xCons (xC (.str "in x[0 to n - 1]")) (xCons (xC (.str "in w[0 to m - 1]")) (xCons (xC (.str "first 0")) (xNil)))))))))
  (xSeq (xSet 0 (xOp oAdd (xV 0) (xNew (xDsp (xCons (xC (.str "last n + m - 1")) (xCons (xC (.str "box 0 to m - 1")) (xCons (xC (.str "row a give w[place0] when beat == place0")) (xNil))))))))
  (xSeq (xSet 0 (xOp oAdd (xV 0) (xNew (xDsp (xCons (xC (.str "row a give wire(a, 0, 1) when beat >= place0 + 1")) (xNil))))))
  (xSeq (xSet 0 (xOp oAdd (xV 0) (xNew (xDsp (xCons (xC (.str "row y give wire(y, 1, 1) + wire(a, 0, 1)*x[(beat - n) div 3] when 2 divides beat")) (xCons (xC (.str "out z[i]")) (xNil)))))))
  (xRet (xOp oAdd (xV 0) (xNew (xDsp (xCons (xC (.str "where i >= 0 and n >= i + 1")) (xCons (xC (.str "give y at i + m in m - 1")) (xCons (xC (.str "end")) (xNil)))))))))))
def x_law_lines : XF := xDef 1 b_law_lines
def b_law_wide_lines : XS :=
  xSeq (xSet 0 (xNew (xDsp (xCons (xC (.str "array two(n)")) (xCons (xC (.str "in x[0 to n]")) (xCons (xC (.str "first -1")) (xCons (xC (.str "last n")) (xCons (xC (.str "box 0 to n, -n to 2")) (xNil)))))))))
  (xSeq (xSet 0 (xOp oAdd (xV 0) (xNew (xDsp (xCons (xC (.str "row p give least(wire(p, 1, -2, 3), most(x[place0 - place1], (-4)))")) (xCons (xC (.str "out z")) (xNil)))))))
  (xRet (xOp oAdd (xV 0) (xNew (xDsp (xCons (xC (.str "give p at n in 0, 1")) (xCons (xC (.str "end")) (xNil))))))))
def x_law_wide_lines : XF := xDef 1 b_law_wide_lines
def b_law_deep : XS :=
  xSeq (xSet 1 (xTupD (xCons (xC (.str "number")) (xCons (xC (.int 1)) (xNil)))))
  (xSeq (xFor (xIR srcR1 (xCons (xOp oSub (xV 0) (xC (.int 1))) (xNil))) (xgN 2)
    (xSet 1 (xTupD (xCons (xC (.str "plus")) (xCons (xV 1) (xCons (xTupD (xCons (xC (.str "number")) (xCons (xC (.int 2)) (xNil)))) (xNil)))))))
  (xRet (xV 1)))
def x_law_deep : XF := xDef 2 b_law_deep
def b_is_integer : XS :=
  xRet (xAndV (xIsi isIntD (xV 0)) (xNotV (xIsi isBlD (xV 0))))
def x_is_integer : XF := xDef 0 b_is_integer
def b_is_tuple : XS :=
  xRet (xAndV (xIsi isTupD (xV 0)) (xOp (oEqT false) (xUn fLen (xV 0)) (xV 1)))
def x_is_tuple : XF := xDef 0 b_is_tuple
def b_is_name : XS :=
  xRet (xAndV (xIsi isStrD (xV 0)) (xAndV (xOp (oEqT true) (xV 0) (xC (.str ""))) (xAndV (xOp (oIn true) (xC (.str " ")) (xV 0)) (xOp (oIn true) (xC (.str "'")) (xV 0)))))
def x_is_name : XF := xDef 0 b_is_name
def b_is_form : XS :=
  xSeq (xIf (xOr (xNot (xTru (xCall x_is_tuple 2 (xCons (xV 0) (xCons (xC (.int 2)) (xNil)))))) (xOr (xNot (xTru (xCall x_is_integer 1 (xCons (xOp oIxA (xV 0) (xC (.int 0))) (xNil))))) (xNot (xTru (xIsi isTupD (xOp oIxA (xV 0) (xC (.int 1))))))))
    (xRet (xC (.bl false)))
    (xSkip))
  (xSeq (xSet 2 (xC (.str "")))
  (xSeq (xFor (xIV (xOp oIxA (xV 0) (xC (.int 1)))) (xgN 3)
    (xSeq (xIf (xOr (xNot (xTru (xCall x_is_tuple 2 (xCons (xV 3) (xCons (xC (.int 2)) (xNil)))))) (xOr (xNot (xTru (xCall x_is_name 1 (xCons (xOp oIxA (xV 3) (xC (.int 0))) (xNil))))) (xNot (xTru (xCall x_is_integer 1 (xCons (xOp oIxA (xV 3) (xC (.int 1))) (xNil)))))))
      (xRet (xC (.bl false)))
      (xSkip))
    (xSeq (xIf (xOr (xTest (xOp (oIn true) (xOp oIxA (xV 3) (xC (.int 0))) (xV 1))) (xOr (xTest (xOp (oLe) (xOp oIxA (xV 3) (xC (.int 0))) (xV 2))) (xTest (xOp (oEqT false) (xOp oIxA (xV 3) (xC (.int 1))) (xC (.int 0))))))
      (xRet (xC (.bl false)))
      (xSkip))
    (xSet 2 (xOp oIxA (xV 3) (xC (.int 0)))))))
  (xRet (xC (.bl true)))))
def x_is_form : XF := xDef 2 b_is_form
def b_is_set : XS :=
  xRet (xAndV (xIsi isTupD (xV 0)) (xHF fAll (xLc (xIV (xV 0)) (xgN 2) (xYes) (xCall x_is_form 2 (xCons (xV 2) (xCons (xV 1) (xNil)))) [2])))
def x_is_set : XF := xDef 1 b_is_set
def b_is_word : XS :=
  xSeq (xIf (xOr (xNot (xTru (xIsi isStrD (xV 0)))) (xOr (xTest (xOp (oEqT false) (xV 0) (xC (.str "")))) (xOr (xTest (xOp (oGt) (xUn fLen (xV 0)) (xC (.int 12)))) (xTest (xOp (oIn true) (xOp oIxA (xV 0) (xC (.int 0))) (xC (.str "abcdefghijklmnopqrstuvwxyz")))))))
    (xRet (xC (.bl false)))
    (xSkip))
  (xRet (xHF fAll (xLc (xIV (xV 0)) (xgN 1) (xYes) (xOp (oIn false) (xV 1) (xC (.str "abcdefghijklmnopqrstuvwxyz0123456789"))) [1])))
def x_is_word : XF := xDef 1 b_is_word
def b_are_words : XS :=
  xSeq (xIf (xOr (xNot (xTru (xIsi isTupD (xV 0)))) (xOr (xTest (xOp (oGt) (xUn fLen (xV 0)) (xV 1))) (xNot (xTru (xHF fAll (xLc (xIV (xV 0)) (xgN 2) (xYes) (xCall x_is_word 1 (xCons (xV 2) (xNil))) [2]))))))
    (xRet (xC (.bl false)))
    (xSkip))
  (xRet (xAndV (xOp (oEqT false) (xUn fLenSet (xV 0)) (xUn fLen (xV 0))) (xNotV (xHF fAny (xLc (xIV (xV 0)) (xgN 2) (xYes) (xOp (oIn false) (xV 2) (xC c_RESERVED_sheets)) [2])))))
def x_are_words : XF := xDef 1 b_are_words
def b_are_forms : XS :=
  xRet (xAndV (xCall x_is_tuple 2 (xCons (xV 0) (xCons (xV 2) (xNil)))) (xHF fAll (xLc (xIV (xV 0)) (xgN 3) (xYes) (xCall x_is_form 2 (xCons (xV 3) (xCons (xV 1) (xNil)))) [3])))
def x_are_forms : XF := xDef 1 b_are_forms
def b_is_array : XS :=
  xSeq (xIf (xOr (xNot (xTru (xCall x_is_tuple 2 (xCons (xV 0) (xCons (xC (.int 2)) (xNil)))))) (xOr (xNot (xTru (xCall x_is_word 1 (xCons (xOp oIxA (xV 0) (xC (.int 0))) (xNil))))) (xNot (xTru (xIsi isTupD (xOp oIxA (xV 0) (xC (.int 1))))))))
    (xRet (xC (.bl false)))
    (xSkip))
  (xRet (xAndV (xOp (oLe) (xUn fLen (xOp oIxA (xV 0) (xC (.int 1)))) (xC (.int 3))) (xHF fAll (xLc (xIV (xOp oIxA (xV 0) (xC (.int 1)))) (xgN 2) (xYes) (xCall x_are_forms 3 (xCons (xV 2) (xCons (xV 1) (xCons (xC (.int 2)) (xNil))))) [2]))))
def x_is_array : XF := xDef 1 b_is_array
def b_is_box : XS :=
  xSeq (xIf (xOr (xNot (xTru (xIsi isTupD (xV 0)))) (xNot (xTest (xChain (oLe) (oLe) (xC (.int 1)) (xUn fLen (xV 0)) (xC (.int 2))))))
    (xRet (xC (.bl false)))
    (xSkip))
  (xRet (xHF fAll (xLc (xIV (xV 0)) (xgN 2) (xYes) (xAndV (xCall x_is_tuple 2 (xCons (xV 2) (xCons (xC (.int 2)) (xNil)))) (xCall x_is_set 2 (xCons (xV 2) (xCons (xV 1) (xNil))))) [2])))
def x_is_box : XF := xDef 1 b_is_box
def b_is_head : XS :=
  xSeq (xIf (xOr (xNot (xTru (xCall x_is_word 1 (xCons (xOp oIxA (xV 0) (xC (.int 0))) (xNil))))) (xOr (xNot (xTru (xCall x_are_words 2 (xCons (xOp oIxA (xV 0) (xC (.int 1))) (xCons (xC (.int 3)) (xNil)))))) (xNot (xTru (xCall x_is_set 2 (xCons (xOp oIxA (xV 0) (xC (.int 2))) (xCons (xOp oIxA (xV 0) (xC (.int 1))) (xNil))))))))
    (xRet (xC (.bl false)))
    (xSkip))
  (xSeq (xSet 1 (xOp oIxA (xV 0) (xC (.int 1))))
  (xSeq (xIf (xOr (xNot (xTru (xIsi isTupD (xOp oIxA (xV 0) (xC (.int 3)))))) (xNot (xTru (xHF fAll (xLc (xIV (xOp oIxA (xV 0) (xC (.int 3)))) (xgN 2) (xYes) (xCall x_is_array 2 (xCons (xV 2) (xCons (xV 1) (xNil)))) [2])))))
    (xRet (xC (.bl false)))
    (xSkip))
  (xRet (xAndV (xCall x_is_set 2 (xCons (xSl (xV 0) (xPart (xC (.int 4))) (xPart (xC (.int 6)))) (xCons (xV 1) (xNil)))) (xCall x_is_box 2 (xCons (xOp oIxA (xV 0) (xC (.int 6))) (xCons (xV 1) (xNil))))))))
def x_is_head : XF := xDef 2 b_is_head
def b_place_names : XS :=
  xRet (xHF fTup (xLc (xIR srcR1 (xCons (xV 0) (xNil))) (xgN 1) (xYes) (xOp oAdd (xC (.str "place")) (xUn fStr (xV 1))) [1]))
def x_place_names : XF := xDef 1 b_place_names
def b_cell_names : XS :=
  xRet (xOp oAdd (xOp oAdd (xV 0) (xTupD (xCons (xC (.str "beat")) (xNil)))) (xCall x_place_names 1 (xCons (xV 1) (xNil))))
def x_cell_names : XF := xDef 0 b_cell_names
def b_Rows_init : XS :=
  xSeq (xSetF [0] "places" (xUn fLen (xOp oIxA (xV 1) (xC (.int 6)))) (xV 0))
  (xSeq (xSetF [0] "names" (xCall x_cell_names 2 (xCons (xOp oIxA (xV 1) (xC (.int 1))) (xCons (xFld [0] "places" (xV 0)) (xNil)))) (xV 0))
  (xSeq (xSetF [0] "wide" (xHF fDict (xLc (xIV (xOp oIxA (xV 1) (xC (.int 3)))) (xgN 2) (xYes) (xTupD (xCons (xOp oIxA (xV 2) (xC (.int 0))) (xCons (xUn fLen (xOp oIxA (xV 2) (xC (.int 1)))) (xNil)))) [2])) (xV 0))
  (xSetF [0] "units" (xHF fTup (xLc (xIV (xOp oIxA (xV 1) (xC (.int 7)))) (xgN 3) (xYes) (xOp oIxA (xV 3) (xC (.int 0))) [3])) (xV 0))))
def x_Rows_init : XF := xDef 2 b_Rows_init
def b_is_condition : XS :=
  xSeq (xIf (xTru (xCall x_is_tuple 2 (xCons (xV 0) (xCons (xC (.int 2)) (xNil)))))
    (xRet (xAndV (xIsi isStrD (xOp oIxA (xV 0) (xC (.int 0)))) (xAndV (xOp (oEqT false) (xOp oIxA (xV 0) (xC (.int 0))) (xC (.str "least"))) (xCall x_is_form 2 (xCons (xOp oIxA (xV 0) (xC (.int 1))) (xCons (xV 1) (xNil)))))))
    (xSkip))
  (xSeq (xIf (xOr (xNot (xTru (xCall x_is_tuple 2 (xCons (xV 0) (xCons (xC (.int 3)) (xNil)))))) (xOr (xNot (xTru (xIsi isStrD (xOp oIxA (xV 0) (xC (.int 0)))))) (xTest (xOp (oEqT true) (xOp oIxA (xV 0) (xC (.int 0))) (xC (.str "divides"))))))
    (xRet (xC (.bl false)))
    (xSkip))
  (xRet (xAndV (xCall x_is_integer 1 (xCons (xOp oIxA (xV 0) (xC (.int 1))) (xNil))) (xAndV (xOp (oGe) (xOp oIxA (xV 0) (xC (.int 1))) (xC (.int 2))) (xCall x_is_form 2 (xCons (xOp oIxA (xV 0) (xC (.int 2))) (xCons (xV 1) (xNil))))))))
def x_is_condition : XF := xDef 0 b_is_condition
def b_are_integers : XS :=
  xRet (xAndV (xCall x_is_tuple 2 (xCons (xV 0) (xCons (xV 1) (xNil)))) (xHF fAll (xLc (xIV (xV 0)) (xgN 2) (xYes) (xCall x_is_integer 1 (xCons (xV 2) (xNil))) [2])))
def x_are_integers : XF := xDef 1 b_are_integers
def b_is_wire : XS :=
  xSeq (xIf (xOr (xNot (xTru (xCall x_is_tuple 2 (xCons (xV 0) (xCons (xC (.int 4)) (xNil)))))) (xOr (xTest (xOp (oIn true) (xOp oIxA (xV 0) (xC (.int 1))) (xV 1))) (xNot (xTru (xCall x_are_integers 2 (xCons (xOp oIxA (xV 0) (xC (.int 2))) (xCons (xV 2) (xNil))))))))
    (xRet (xC (.bl false)))
    (xSkip))
  (xRet (xAndV (xCall x_is_integer 1 (xCons (xOp oIxA (xV 0) (xC (.int 3))) (xNil))) (xOp (oGe) (xOp oIxA (xV 0) (xC (.int 3))) (xC (.int 1)))))
def x_is_wire : XF := xDef 0 b_is_wire
def b_is_rim : XS :=
  xSeq (xIf (xOr (xNot (xTru (xCall x_is_tuple 2 (xCons (xV 0) (xCons (xC (.int 3)) (xNil)))))) (xOr (xNot (xTru (xIsi isStrD (xOp oIxA (xV 0) (xC (.int 1)))))) (xTest (xOp (oIn true) (xOp oIxA (xV 0) (xC (.int 1))) (xV 2)))))
    (xRet (xC (.bl false)))
    (xSkip))
  (xSeq (xIf (xOr (xNot (xTru (xCall x_is_tuple 2 (xCons (xOp oIxA (xV 0) (xC (.int 2))) (xCons (xOp oIxA (xV 2) (xOp oIxA (xV 0) (xC (.int 1)))) (xNil)))))) (xNot (xTru (xHF fAll (xLc (xIV (xOp oIxA (xV 0) (xC (.int 2)))) (xgN 3) (xYes) (xCall x_is_tuple 2 (xCons (xV 3) (xCons (xC (.int 2)) (xNil)))) [3])))))
    (xRet (xC (.bl false)))
    (xSkip))
  (xRet (xHF fAll (xLc (xIV (xOp oIxA (xV 0) (xC (.int 2)))) (xgTup 2 (xgCons (xgN 4) (xgCons (xgN 5) (xgNil)))) (xYes) (xAndV (xCall x_is_integer 1 (xCons (xV 4) (xNil))) (xAndV (xOp (oGe) (xV 4) (xC (.int 1))) (xCall x_is_form 2 (xCons (xV 5) (xCons (xV 1) (xNil)))))) [4, 5]))))
def x_is_rim : XF := xDef 3 b_is_rim
def b_Rows_is_expression (r0 : XF) : XS :=
  xSeq (xIf (xOr (xTest (xOp (oLt) (xV 2) (xC (.int 1)))) (xOr (xNot (xTru (xIsi isTupD (xV 1)))) (xOr (xTest (xOp (oEqT false) (xV 1) (xTupD (xNil)))) (xNot (xTru (xIsi isStrD (xOp oIxA (xV 1) (xC (.int 0)))))))))
    (xRet (xC (.bl false)))
    (xSkip))
  (xSeq (xIf (xTest (xOp (oIn false) (xOp oIxA (xV 1) (xC (.int 0))) (xC c_OPERATIONS)))
    (xRet (xAndV (xCall x_is_tuple 2 (xCons (xV 1) (xCons (xC (.int 3)) (xNil)))) (xHF fAll (xLc (xIV (xSl (xV 1) (xPart (xC (.int 1))) (xNoPart))) (xgN 3) (xYes) (xMeth 0 "is_expression" 3 [] r0 (xV 0) (xCons (xV 3) (xCons (xOp oSub (xV 2) (xC (.int 1))) (xNil)))) [3]))))
    (xSkip))
  (xSeq (xIf (xTest (xOp (oEqT false) (xOp oIxA (xV 1) (xC (.int 0))) (xC (.str "number"))))
    (xRet (xAndV (xCall x_is_tuple 2 (xCons (xV 1) (xCons (xC (.int 2)) (xNil)))) (xCall x_is_integer 1 (xCons (xOp oIxA (xV 1) (xC (.int 1))) (xNil)))))
    (xSkip))
  (xSeq (xIf (xTest (xOp (oEqT false) (xOp oIxA (xV 1) (xC (.int 0))) (xC (.str "wire"))))
    (xRet (xCall x_is_wire 3 (xCons (xV 1) (xCons (xFld [0] "units" (xV 0)) (xCons (xFld [0] "places" (xV 0)) (xNil))))))
    (xSkip))
  (xRet (xAndV (xOp (oEqT false) (xOp oIxA (xV 1) (xC (.int 0))) (xC (.str "rim"))) (xCall x_is_rim 3 (xCons (xV 1) (xCons (xFld [0] "names" (xV 0)) (xCons (xFld [0] "wide" (xV 0)) (xNil))))))))))
def gr_Rows_is_expression : Nat → Nat → XF
  | 0, _ => badF
  | n + 1, i => match i with
    | 0 => xDef 1 (b_Rows_is_expression (gr_Rows_is_expression n 0))
    | _ => badF
def x_Rows_is_expression : XF := gr_Rows_is_expression 24 0
def b_Rows_is_row : XS :=
  xSeq (xIf (xOr (xNot (xTru (xIsi isTupD (xOp oIxA (xV 1) (xC (.int 1)))))) (xNot (xTru (xHF fAll (xLc (xIV (xOp oIxA (xV 1) (xC (.int 1)))) (xgN 2) (xYes) (xCall x_is_condition 2 (xCons (xV 2) (xCons (xFld [0] "names" (xV 0)) (xNil)))) [2])))))
    (xRet (xC (.bl false)))
    (xSkip))
  (xRet (xMeth 0 "is_expression" 3 [] x_Rows_is_expression (xV 0) (xCons (xOp oIxA (xV 1) (xC (.int 2))) (xCons (xC (.int 20)) (xNil)))))
def x_Rows_is_row : XF := xDef 1 b_Rows_is_row
def b_are_together : XS :=
  xSeq (xSet 1 (xNew (xLc (xIR srcR2 (xCons (xC (.int 1)) (xCons (xUn fLen (xV 0)) (xNil)))) (xgN 2) (xTest (xOp (oEqT true) (xOp oIxA (xV 0) (xV 2)) (xOp oIxA (xV 0) (xOp oSub (xV 2) (xC (.int 1)))))) (xV 2) [2])))
  (xRet (xOp (oEqT false) (xOp oAdd (xUn fLen (xV 1)) (xC (.int 1))) (xUn fLenSet (xV 0))))
def x_are_together : XF := xDef 2 b_are_together
def b_is_piece : XS :=
  xSeq (xIf (xOr (xNot (xTru (xCall x_is_tuple 2 (xCons (xV 0) (xCons (xC (.int 4)) (xNil)))))) (xOr (xTest (xOp (oIn true) (xOp oIxA (xV 0) (xC (.int 1))) (xV 2))) (xNot (xTru (xCall x_is_set 2 (xCons (xOp oIxA (xV 0) (xC (.int 0))) (xCons (xV 1) (xNil))))))))
    (xRet (xC (.bl false)))
    (xSkip))
  (xRet (xAndV (xCall x_is_form 2 (xCons (xOp oIxA (xV 0) (xC (.int 2))) (xCons (xV 1) (xNil)))) (xAndV (xCall x_is_tuple 2 (xCons (xOp oIxA (xV 0) (xC (.int 3))) (xCons (xV 3) (xNil)))) (xCall x_is_set 2 (xCons (xOp oIxA (xV 0) (xC (.int 3))) (xCons (xV 1) (xNil)))))))
def x_is_piece : XF := xDef 0 b_is_piece
def b_is_out : XS :=
  xSeq (xIf (xOr (xNot (xTru (xCall x_is_tuple 2 (xCons (xV 0) (xCons (xC (.int 4)) (xNil)))))) (xOr (xNot (xTru (xCall x_is_word 1 (xCons (xOp oIxA (xV 0) (xC (.int 0))) (xNil))))) (xNot (xTru (xCall x_are_words 2 (xCons (xOp oIxA (xV 0) (xC (.int 1))) (xCons (xC (.int 3)) (xNil))))))))
    (xRet (xC (.bl false)))
    (xSkip))
  (xSeq (xSet 4 (xOp oAdd (xV 1) (xOp oIxA (xV 0) (xC (.int 1)))))
  (xSeq (xIf (xOr (xTest (xOp (oEqT true) (xUn fLenSet (xV 4)) (xUn fLen (xV 4)))) (xNot (xTru (xCall x_is_set 2 (xCons (xOp oIxA (xV 0) (xC (.int 2))) (xCons (xV 4) (xNil)))))))
    (xRet (xC (.bl false)))
    (xSkip))
  (xSeq (xIf (xOr (xNot (xTru (xIsi isTupD (xOp oIxA (xV 0) (xC (.int 3)))))) (xTest (xOp (oEqT false) (xOp oIxA (xV 0) (xC (.int 3))) (xTupD (xNil)))))
    (xRet (xC (.bl false)))
    (xSkip))
  (xRet (xHF fAll (xLc (xIV (xOp oIxA (xV 0) (xC (.int 3)))) (xgN 5) (xYes) (xCall x_is_piece 4 (xCons (xV 5) (xCons (xV 4) (xCons (xV 2) (xCons (xV 3) (xNil)))))) [5]))))))
def x_is_out : XF := xDef 2 b_is_out
def b_units_of : XS :=
  xSeq (xSet 1 (xNew (xDsp (xNil))))
  (xSeq (xFor (xIV (xOp oIxA (xV 0) (xC (.int 7)))) (xgN 2)
    (xIf (xTest (xOp (oIn true) (xOp oIxA (xV 2) (xC (.int 0))) (xV 1)))
      (xExpr (xM isL mApp (xV 1) (xCons (xOp oIxA (xV 2) (xC (.int 0))) (xNil))))
      (xSkip)))
  (xRet (xUn fTupV (xV 1))))
def x_units_of : XF := xDef 2 b_units_of
def b_is_array2 : XS :=
  xSeq (xIf (xOr (xNot (xTru (xCall x_is_tuple 2 (xCons (xV 0) (xCons (xC (.int 9)) (xNil)))))) (xOr (xNot (xTru (xCall x_is_head 1 (xCons (xV 0) (xNil))))) (xNot (xTru (xIsi isTupD (xOp oIxA (xV 0) (xC (.int 8))))))))
    (xRet (xC (.bl false)))
    (xSkip))
  (xSeq (xSet 1 (xOp oIxA (xV 0) (xC (.int 7))))
  (xSeq (xIf (xOr (xNot (xTru (xIsi isTupD (xV 1)))) (xOr (xTest (xOp (oEqT false) (xV 1) (xTupD (xNil)))) (xNot (xTru (xHF fAll (xLc (xIV (xV 1)) (xgN 4) (xYes) (xAndV (xCall x_is_tuple 2 (xCons (xV 4) (xCons (xC (.int 3)) (xNil)))) (xCall x_is_word 1 (xCons (xOp oIxA (xV 4) (xC (.int 0))) (xNil)))) [4]))))))
    (xRet (xC (.bl false)))
    (xSkip))
  (xSeq (xSet 2 (xMake 0 2 x_Rows_init (xCons (xV 0) (xNil))))
  (xSeq (xIf (xOr (xNot (xTru (xCall x_are_together 1 (xCons (xFld [0] "units" (xV 2)) (xNil))))) (xNot (xTru (xHF fAll (xLc (xIV (xV 1)) (xgN 4) (xYes) (xMeth 0 "is_row" 2 [] x_Rows_is_row (xV 2) (xCons (xV 4) (xNil))) [4])))))
    (xRet (xC (.bl false)))
    (xSkip))
  (xSeq (xIf (xNot (xTru (xHF fAll (xLc (xIV (xOp oIxA (xV 0) (xC (.int 8)))) (xgN 5) (xYes) (xCall x_is_out 4 (xCons (xV 5) (xCons (xOp oIxA (xV 0) (xC (.int 1))) (xCons (xFld [0] "units" (xV 2)) (xCons (xFld [0] "places" (xV 2)) (xNil)))))) [5]))))
    (xRet (xC (.bl false)))
    (xSkip))
  (xSeq (xSet 3 (xOp oAdd (xNew (xLc (xIV (xOp oAdd (xOp oIxA (xV 0) (xC (.int 3))) (xOp oIxA (xV 0) (xC (.int 8))))) (xgN 5) (xYes) (xOp oIxA (xV 5) (xC (.int 0))) [5])) (xUn fListV (xCall x_units_of 1 (xCons (xV 0) (xNil))))))
  (xRet (xOp (oEqT false) (xUn fLenSet (xV 3)) (xUn fLen (xV 3))))))))))
def x_is_array2 : XF := xDef 5 b_is_array2
def b_law_spoilt_heads : XS :=
  xSeq (xSet 1 (xTupD (xCons (xC (.int 0)) (xCons (xTupD (xNil)) (xNil)))))
  (xSeq (xSet 2 (xTupD (xCons (xC (.int 0)) (xCons (xTupD (xCons (xTupD (xCons (xC (.str "q")) (xCons (xC (.int 1)) (xNil)))) (xNil))) (xNil)))))
  (xSeq (xSet 3 (xNew (xDsp (xCons (xC (.int 0)) (xCons (xC (.str "one")) (xCons (xTupD (xNil)) (xCons (xSl (xV 0) (xNoPart) (xPart (xC (.int 8)))) (xCons (xOp oAdd (xV 0) (xTupD (xCons (xC (.int 0)) (xNil)))) (xNil)))))))))
  (xSeq (xFor (xIH (xDsp (xCons (xTupD (xCons (xC (.str "n")) (xCons (xC (.str "n")) (xNil)))) (xCons (xTupD (xCons (xC (.str "n")) (xCons (xC (.int 5)) (xNil)))) (xCons (xTupD (xCons (xC (.str "n")) (xCons (xC (.str "m")) (xCons (xC (.str "k")) (xCons (xC (.str "l")) (xNil)))))) (xCons (xTupD (xCons (xC (.str "n")) (xCons (xC (.str "beat")) (xNil)))) (xCons (xTupD (xCons (xC (.str "n")) (xNil))) (xCons (xC (.int 0)) (xNil))))))))) (xgN 4)
    (xExpr (xM isL mApp (xV 3) (xCons (xOp oAdd (xOp oAdd (xSl (xV 0) (xNoPart) (xPart (xC (.int 1)))) (xTupD (xCons (xV 4) (xNil)))) (xSl (xV 0) (xPart (xC (.int 2))) (xNoPart))) (xNil)))))
  (xSeq (xSet 3 (xOp oAdd (xV 3) (xNew (xLc (xIH (xDsp (xCons (xTupD (xCons (xV 2) (xNil))) (xCons (xTupD (xCons (xC (.int 5)) (xNil))) (xCons (xC (.int 0)) (xCons (xV 1) (xNil))))))) (xgN 7) (xYes) (xOp oAdd (xOp oAdd (xSl (xV 0) (xNoPart) (xPart (xC (.int 2)))) (xTupD (xCons (xV 7) (xNil)))) (xSl (xV 0) (xPart (xC (.int 3))) (xNoPart))) [7]))))
  (xSeq (xSet 5 (xOp oIxA (xV 0) (xC (.int 3))))
  (xSeq (xFor (xIH (xDsp (xCons (xC (.str "a")) (xCons (xC (.str "z")) (xCons (xC (.str "X")) (xCons (xC (.str "x")) (xNil))))))) (xgN 6)
    (xExpr (xM isL mApp (xV 3) (xCons (xOp oAdd (xOp oAdd (xSl (xV 0) (xNoPart) (xPart (xC (.int 3)))) (xTupD (xCons (xOp oAdd (xTupD (xCons (xTupD (xCons (xV 6) (xCons (xTupD (xNil)) (xNil)))) (xNil))) (xV 5)) (xNil)))) (xSl (xV 0) (xPart (xC (.int 4))) (xNoPart))) (xNil)))))
  (xSeq (xFor (xIH (xDsp (xCons (xOp oAdd (xV 5) (xSl (xV 5) (xNoPart) (xPart (xC (.int 1))))) (xCons (xOp oAdd (xTupD (xCons (xTupD (xCons (xC (.str "x")) (xCons (xTupD (xCons (xTupD (xCons (xV 1) (xNil))) (xNil))) (xNil)))) (xNil))) (xSl (xV 5) (xPart (xC (.int 1))) (xNoPart))) (xCons (xC (.int 0)) (xNil)))))) (xgN 7)
    (xExpr (xM isL mApp (xV 3) (xCons (xOp oAdd (xOp oAdd (xSl (xV 0) (xNoPart) (xPart (xC (.int 3)))) (xTupD (xCons (xV 7) (xNil)))) (xSl (xV 0) (xPart (xC (.int 4))) (xNoPart))) (xNil)))))
  (xSeq (xExpr (xM isL mApp (xV 3) (xCons (xOp oAdd (xOp oAdd (xSl (xV 0) (xNoPart) (xPart (xC (.int 3)))) (xTupD (xCons (xOp oAdd (xTupD (xCons (xTupD (xCons (xC (.str "x")) (xCons (xOp oMul (xTupD (xCons (xTupD (xCons (xV 1) (xCons (xV 1) (xNil)))) (xNil))) (xC (.int 4))) (xNil)))) (xNil))) (xSl (xV 5) (xPart (xC (.int 1))) (xNoPart))) (xNil)))) (xSl (xV 0) (xPart (xC (.int 4))) (xNoPart))) (xNil))))
  (xSeq (xSet 8 (xTupD (xCons (xC (.int 0)) (xCons (xTupD (xCons (xTupD (xCons (xC (.str "beat")) (xCons (xC (.int 1)) (xNil)))) (xNil))) (xNil)))))
  (xSeq (xSet 3 (xOp oAdd (xV 3) (xNew (xLc (xIH (xDsp (xCons (xV 2) (xCons (xV 8) (xCons (xC (.int 0)) (xCons (xTupD (xCons (xC (.int 0)) (xCons (xTupD (xCons (xTupD (xCons (xC (.str "n")) (xCons (xC (.int 0)) (xNil)))) (xNil))) (xNil)))) (xNil))))))) (xgN 7) (xYes) (xOp oAdd (xOp oAdd (xSl (xV 0) (xNoPart) (xPart (xC (.int 4)))) (xTupD (xCons (xV 7) (xNil)))) (xSl (xV 0) (xPart (xC (.int 5))) (xNoPart))) [7]))))
  (xSeq (xSet 3 (xOp oAdd (xV 3) (xNew (xLc (xIH (xDsp (xCons (xV 2) (xCons (xV 8) (xCons (xTupD (xNil)) (xNil)))))) (xgN 7) (xYes) (xOp oAdd (xOp oAdd (xSl (xV 0) (xNoPart) (xPart (xC (.int 5)))) (xTupD (xCons (xV 7) (xNil)))) (xSl (xV 0) (xPart (xC (.int 6))) (xNoPart))) [7]))))
  (xSeq (xFor (xIH (xDsp (xCons (xTupD (xNil)) (xCons (xC (.int 0)) (xCons (xTupD (xCons (xTupD (xCons (xV 1) (xNil))) (xNil))) (xCons (xTupD (xCons (xTupD (xCons (xV 1) (xCons (xV 1) (xCons (xV 1) (xNil))))) (xNil))) (xCons (xTupD (xCons (xTupD (xCons (xV 1) (xCons (xV 2) (xNil)))) (xNil))) (xCons (xTupD (xCons (xTupD (xCons (xV 1) (xCons (xV 8) (xNil)))) (xNil))) (xCons (xOp oMul (xOp oIxA (xV 0) (xC (.int 6))) (xC (.int 3))) (xCons (xTupD (xCons (xTupD (xCons (xV 1) (xCons (xV 1) (xNil)))) (xCons (xV 1) (xNil)))) (xNil))))))))))) (xgN 9)
    (xExpr (xM isL mApp (xV 3) (xCons (xOp oAdd (xOp oAdd (xSl (xV 0) (xNoPart) (xPart (xC (.int 6)))) (xTupD (xCons (xV 9) (xNil)))) (xSl (xV 0) (xPart (xC (.int 7))) (xNoPart))) (xNil)))))
  (xRet (xV 3))))))))))))))
def x_law_spoilt_heads : XF := xDef 9 b_law_spoilt_heads
def b_law_spoilt_rows : XS :=
  xSeq (xSet 1 (xOp oIxA (xOp oIxA (xV 0) (xC (.int 7))) (xC (.int 0))))
  (xSeq (xSet 2 (xTupD (xCons (xC (.str "number")) (xCons (xC (.int 1)) (xNil)))))
  (xSeq (xSet 3 (xTupD (xCons (xC (.int 0)) (xCons (xTupD (xCons (xTupD (xCons (xC (.str "beat")) (xCons (xC (.int 1)) (xNil)))) (xNil))) (xNil)))))
  (xSeq (xSet 4 (xNew (xDsp (xCons (xOp oAdd (xTupD (xCons (xC (.str "A")) (xNil))) (xSl (xV 1) (xPart (xC (.int 1))) (xNoPart))) (xCons (xOp oAdd (xTupD (xCons (xC (.str "x")) (xNil))) (xSl (xV 1) (xPart (xC (.int 1))) (xNoPart))) (xCons (xOp oAdd (xTupD (xCons (xC (.str "z")) (xNil))) (xSl (xV 1) (xPart (xC (.int 1))) (xNoPart))) (xCons (xSl (xV 1) (xNoPart) (xPart (xC (.int 2)))) (xCons (xOp oAdd (xV 1) (xTupD (xCons (xC (.int 0)) (xNil)))) (xCons (xC (.int 0)) (xNil))))))))))
  (xSeq (xSet 5 (xNew (xDsp (xCons (xC (.int 0)) (xCons (xTupD (xCons (xC (.int 0)) (xNil))) (xCons (xTupD (xCons (xTupD (xCons (xC (.str "most")) (xCons (xV 3) (xNil)))) (xNil))) (xCons (xTupD (xCons (xTupD (xCons (xC (.str "least")) (xNil))) (xNil))) (xCons (xTupD (xCons (xTupD (xCons (xC (.str "least")) (xCons (xV 3) (xCons (xV 3) (xNil))))) (xNil))) (xCons (xTupD (xCons (xC (.str "least")) (xCons (xV 3) (xNil)))) (xCons (xTupD (xCons (xTupD (xCons (xC (.str "divides")) (xCons (xC (.int 2)) (xNil)))) (xNil))) (xNil)))))))))))
  (xSeq (xSet 5 (xOp oAdd (xV 5) (xNew (xLc (xIH (xDsp (xCons (xC (.str "place1")) (xCons (xC (.str "i")) (xNil))))) (xgN 10) (xYes) (xTupD (xCons (xTupD (xCons (xC (.str "least")) (xCons (xTupD (xCons (xC (.int 0)) (xCons (xTupD (xCons (xTupD (xCons (xV 10) (xCons (xC (.int 1)) (xNil)))) (xNil))) (xNil)))) (xNil)))) (xNil))) [10]))))
  (xSeq (xSet 5 (xOp oAdd (xV 5) (xNew (xLc (xIH (xDsp (xCons (xC (.int 1)) (xCons (xC (.int 0)) (xCons (xUn uNeg (xC (.int 2))) (xCons (xC (.str "2")) (xNil))))))) (xgN 11) (xYes) (xTupD (xCons (xTupD (xCons (xC (.str "divides")) (xCons (xV 11) (xCons (xV 3) (xNil))))) (xNil))) [11]))))
  (xSeq (xSet 4 (xOp oAdd (xV 4) (xNew (xLc (xIV (xV 5)) (xgN 12) (xYes) (xOp oAdd (xOp oAdd (xSl (xV 1) (xNoPart) (xPart (xC (.int 1)))) (xTupD (xCons (xV 12) (xNil)))) (xSl (xV 1) (xPart (xC (.int 2))) (xNoPart))) [12]))))
  (xSeq (xSet 6 (xNew (xDsp (xCons (xTupD (xCons (xC (.str "wire")) (xCons (xC (.str "v")) (xCons (xTupD (xCons (xC (.int 1)) (xNil))) (xCons (xC (.int 1)) (xNil)))))) (xCons (xTupD (xCons (xC (.str "wire")) (xCons (xC (.str "x")) (xCons (xTupD (xCons (xC (.int 1)) (xNil))) (xCons (xC (.int 1)) (xNil)))))) (xCons (xTupD (xCons (xC (.str "wire")) (xCons (xC (.str "a")) (xCons (xTupD (xCons (xC (.int 1)) (xCons (xC (.int 0)) (xNil)))) (xCons (xC (.int 1)) (xNil)))))) (xCons (xTupD (xCons (xC (.str "wire")) (xCons (xC (.str "a")) (xCons (xTupD (xNil)) (xCons (xC (.int 1)) (xNil)))))) (xNil))))))))
  (xSeq (xSet 6 (xOp oAdd (xV 6) (xNew (xDsp (xCons (xTupD (xCons (xC (.str "wire")) (xCons (xC (.str "a")) (xCons (xTupD (xCons (xC (.int 1)) (xNil))) (xCons (xC (.int 0)) (xNil)))))) (xCons (xTupD (xCons (xC (.str "wire")) (xCons (xC (.str "a")) (xCons (xTupD (xCons (xC (.int 1)) (xNil))) (xCons (xUn uNeg (xC (.int 1))) (xNil)))))) (xCons (xTupD (xCons (xC (.str "wire")) (xCons (xC (.str "a")) (xCons (xTupD (xCons (xC (.str "1")) (xNil))) (xCons (xC (.int 1)) (xNil)))))) (xCons (xTupD (xCons (xC (.str "wire")) (xCons (xC (.str "a")) (xCons (xTupD (xCons (xC (.int 1)) (xNil))) (xNil))))) (xNil)))))))))
  (xSeq (xSet 6 (xOp oAdd (xV 6) (xNew (xDsp (xCons (xTupD (xCons (xC (.str "wire")) (xCons (xC (.str "a")) (xCons (xC (.int 1)) (xCons (xC (.int 1)) (xNil)))))) (xCons (xTupD (xCons (xC (.str "wire")) (xCons (xC (.str "a")) (xCons (xTupD (xCons (xC (.int 1)) (xNil))) (xCons (xC (.int 1)) (xCons (xC (.int 1)) (xNil))))))) (xCons (xTupD (xCons (xC (.str "read")) (xCons (xC (.str "a")) (xCons (xTupD (xCons (xV 3) (xNil))) (xNil))))) (xCons (xTupD (xCons (xC (.str "in")) (xCons (xC (.str "x")) (xCons (xTupD (xCons (xV 3) (xNil))) (xNil))))) (xNil)))))))))
  (xSeq (xSet 7 (xNew (xDsp (xCons (xTupD (xCons (xC (.str "rim")) (xCons (xC (.str "v")) (xCons (xTupD (xCons (xTupD (xCons (xC (.int 1)) (xCons (xV 3) (xNil)))) (xNil))) (xNil))))) (xCons (xTupD (xCons (xC (.str "rim")) (xCons (xC (.str "a")) (xCons (xTupD (xCons (xTupD (xCons (xC (.int 1)) (xCons (xV 3) (xNil)))) (xNil))) (xNil))))) (xCons (xTupD (xCons (xC (.str "rim")) (xCons (xC (.str "x")) (xCons (xTupD (xNil)) (xNil))))) (xCons (xTupD (xCons (xC (.str "rim")) (xCons (xC (.str "x")) (xCons (xTupD (xCons (xTupD (xCons (xC (.int 0)) (xCons (xV 3) (xNil)))) (xNil))) (xNil))))) (xNil))))))))
  (xSeq (xExpr (xM isL mApp (xV 7) (xCons (xTupD (xCons (xC (.str "rim")) (xCons (xC (.str "x")) (xCons (xTupD (xCons (xV 3) (xNil))) (xNil))))) (xNil))))
  (xSeq (xSet 7 (xOp oAdd (xV 7) (xNew (xDsp (xCons (xTupD (xCons (xC (.str "rim")) (xCons (xC (.str "x")) (xCons (xTupD (xCons (xTupD (xCons (xC (.int 1)) (xCons (xV 3) (xNil)))) (xCons (xTupD (xCons (xC (.int 1)) (xCons (xV 3) (xNil)))) (xNil)))) (xNil))))) (xCons (xTupD (xCons (xC (.str "rim")) (xCons (xC (.str "x")) (xCons (xTupD (xCons (xTupD (xCons (xC (.int 1)) (xCons (xTupD (xCons (xC (.int 0)) (xCons (xTupD (xCons (xTupD (xCons (xC (.str "i")) (xCons (xC (.int 1)) (xNil)))) (xNil))) (xNil)))) (xNil)))) (xNil))) (xNil))))) (xCons (xTupD (xCons (xC (.str "rim")) (xCons (xC (.str "x")) (xNil)))) (xNil))))))))
  (xSeq (xSet 8 (xNew (xDsp (xCons (xTupD (xCons (xC (.str "number")) (xNil))) (xCons (xTupD (xCons (xC (.str "number")) (xCons (xC (.str "1")) (xNil)))) (xCons (xTupD (xCons (xC (.str "number")) (xCons (xTupD (xCons (xC (.int 1)) (xNil))) (xNil)))) (xCons (xTupD (xCons (xC (.str "plus")) (xCons (xV 2) (xNil)))) (xCons (xTupD (xCons (xC (.str "plus")) (xCons (xV 2) (xCons (xV 2) (xCons (xV 2) (xNil)))))) (xCons (xTupD (xNil)) (xNil))))))))))
  (xSeq (xSet 8 (xOp oAdd (xV 8) (xNew (xDsp (xCons (xTupD (xCons (xC (.str "power")) (xCons (xV 2) (xCons (xV 2) (xNil))))) (xCons (xC (.int 0)) (xCons (xC (.str "one")) (xCons (xTupD (xCons (xC (.str "least")) (xCons (xV 2) (xCons (xC (.int 0)) (xNil))))) (xCons (xCall x_law_deep 1 (xCons (xC (.int 21)) (xNil))) (xNil))))))))))
  (xSeq (xExpr (xM isL mApp (xV 8) (xCons (xTupD (xCons (xC (.str "plus")) (xCons (xTupD (xCons (xC (.str "wire")) (xCons (xC (.str "v")) (xCons (xTupD (xCons (xC (.int 1)) (xNil))) (xCons (xC (.int 1)) (xNil)))))) (xCons (xV 2) (xNil))))) (xNil))))
  (xSeq (xSet 4 (xOp oAdd (xV 4) (xNew (xLc (xIV (xOp oAdd (xOp oAdd (xV 6) (xV 7)) (xV 8))) (xgN 13) (xYes) (xOp oAdd (xSl (xV 1) (xNoPart) (xPart (xC (.int 2)))) (xTupD (xCons (xV 13) (xNil)))) [13]))))
  (xSeq (xSet 9 (xNew (xLc (xIV (xV 4)) (xgN 14) (xYes) (xOp oAdd (xOp oAdd (xSl (xV 0) (xNoPart) (xPart (xC (.int 7)))) (xTupD (xCons (xOp oAdd (xTupD (xCons (xV 14) (xNil))) (xSl (xOp oIxA (xV 0) (xC (.int 7))) (xPart (xC (.int 1))) (xNoPart))) (xNil)))) (xSl (xV 0) (xPart (xC (.int 8))) (xNoPart))) [14])))
  (xRet (xOp oAdd (xV 9) (xNew (xLc (xIH (xDsp (xCons (xTupD (xNil)) (xCons (xC (.int 0)) (xCons (xOp oAdd (xOp oIxA (xV 0) (xC (.int 7))) (xSl (xOp oIxA (xV 0) (xC (.int 7))) (xNoPart) (xPart (xC (.int 1))))) (xNil)))))) (xgN 14) (xYes) (xOp oAdd (xOp oAdd (xSl (xV 0) (xNoPart) (xPart (xC (.int 7)))) (xTupD (xCons (xV 14) (xNil)))) (xSl (xV 0) (xPart (xC (.int 8))) (xNoPart))) [14]))))))))))))))))))))))
def x_law_spoilt_rows : XF := xDef 14 b_law_spoilt_rows
def b_law_spoilt_outs : XS :=
  xSeq (xSet 1 (xOp oIxA (xOp oIxA (xV 0) (xC (.int 8))) (xC (.int 0))))
  (xSeq (xSet 2 (xTupD (xCons (xC (.int 0)) (xCons (xTupD (xCons (xTupD (xCons (xC (.str "i")) (xCons (xC (.int 1)) (xNil)))) (xNil))) (xNil)))))
  (xSeq (xSet 3 (xOp oIxA (xOp oIxA (xV 1) (xC (.int 3))) (xC (.int 0))))
  (xSeq (xSet 4 (xTupD (xCons (xC (.int 0)) (xCons (xTupD (xCons (xTupD (xCons (xC (.str "beat")) (xCons (xC (.int 1)) (xNil)))) (xNil))) (xNil)))))
  (xSeq (xSet 5 (xNew (xDsp (xCons (xSl (xV 1) (xNoPart) (xPart (xC (.int 3)))) (xCons (xOp oAdd (xV 1) (xTupD (xCons (xC (.int 0)) (xNil)))) (xCons (xC (.int 0)) (xCons (xOp oAdd (xTupD (xCons (xC (.str "x")) (xNil))) (xSl (xV 1) (xPart (xC (.int 1))) (xNoPart))) (xCons (xOp oAdd (xTupD (xCons (xC (.str "a")) (xNil))) (xSl (xV 1) (xPart (xC (.int 1))) (xNoPart))) (xCons (xOp oAdd (xTupD (xCons (xC (.str "Z")) (xNil))) (xSl (xV 1) (xPart (xC (.int 1))) (xNoPart))) (xNil))))))))))
  (xSeq (xFor (xIH (xDsp (xCons (xTupD (xCons (xC (.str "n")) (xNil))) (xCons (xTupD (xCons (xC (.str "i")) (xCons (xC (.str "i")) (xNil)))) (xCons (xTupD (xCons (xC (.str "beat")) (xNil))) (xCons (xTupD (xCons (xC (.str "j")) (xNil))) (xCons (xC (.int 0)) (xCons (xTupD (xCons (xC (.str "i")) (xCons (xC (.str "j")) (xCons (xC (.str "k")) (xCons (xC (.str "l")) (xNil)))))) (xNil))))))))) (xgN 6)
    (xExpr (xM isL mApp (xV 5) (xCons (xOp oAdd (xOp oAdd (xSl (xV 1) (xNoPart) (xPart (xC (.int 1)))) (xTupD (xCons (xV 6) (xNil)))) (xSl (xV 1) (xPart (xC (.int 2))) (xNoPart))) (xNil)))))
  (xSeq (xSet 5 (xOp oAdd (xV 5) (xNew (xLc (xIH (xDsp (xCons (xC (.int 0)) (xCons (xV 2) (xCons (xTupD (xCons (xV 4) (xNil))) (xNil)))))) (xgN 6) (xYes) (xOp oAdd (xOp oAdd (xSl (xV 1) (xNoPart) (xPart (xC (.int 2)))) (xTupD (xCons (xV 6) (xNil)))) (xSl (xV 1) (xPart (xC (.int 3))) (xNoPart))) [6]))))
  (xSeq (xSet 5 (xOp oAdd (xV 5) (xNew (xLc (xIH (xDsp (xCons (xTupD (xNil)) (xCons (xC (.int 0)) (xCons (xV 3) (xNil)))))) (xgN 6) (xYes) (xOp oAdd (xSl (xV 1) (xNoPart) (xPart (xC (.int 3)))) (xTupD (xCons (xV 6) (xNil)))) [6]))))
  (xSeq (xSet 7 (xNew (xDsp (xCons (xSl (xV 3) (xNoPart) (xPart (xC (.int 3)))) (xCons (xOp oAdd (xV 3) (xTupD (xCons (xC (.int 0)) (xNil)))) (xCons (xC (.int 0)) (xCons (xOp oAdd (xTupD (xCons (xTupD (xCons (xV 4) (xNil))) (xNil))) (xSl (xV 3) (xPart (xC (.int 1))) (xNoPart))) (xNil))))))))
  (xSeq (xSet 7 (xOp oAdd (xV 7) (xNew (xLc (xIH (xDsp (xCons (xC (.str "v")) (xCons (xC (.str "x")) (xNil))))) (xgN 8) (xYes) (xOp oAdd (xOp oAdd (xSl (xV 3) (xNoPart) (xPart (xC (.int 1)))) (xTupD (xCons (xV 8) (xNil)))) (xSl (xV 3) (xPart (xC (.int 2))) (xNoPart))) [8]))))
  (xSeq (xSet 7 (xOp oAdd (xV 7) (xNew (xDsp (xCons (xOp oAdd (xOp oAdd (xSl (xV 3) (xNoPart) (xPart (xC (.int 2)))) (xTupD (xCons (xV 4) (xNil)))) (xSl (xV 3) (xPart (xC (.int 3))) (xNoPart))) (xCons (xOp oAdd (xSl (xV 3) (xNoPart) (xPart (xC (.int 3)))) (xTupD (xCons (xTupD (xNil)) (xNil)))) (xCons (xOp oAdd (xSl (xV 3) (xNoPart) (xPart (xC (.int 3)))) (xTupD (xCons (xTupD (xCons (xV 2) (xCons (xV 2) (xNil)))) (xNil)))) (xCons (xOp oAdd (xSl (xV 3) (xNoPart) (xPart (xC (.int 3)))) (xTupD (xCons (xTupD (xCons (xV 4) (xNil))) (xNil)))) (xNil)))))))))
  (xSeq (xExpr (xM isL mApp (xV 7) (xCons (xOp oAdd (xSl (xV 3) (xNoPart) (xPart (xC (.int 3)))) (xTupD (xCons (xV 2) (xNil)))) (xNil))))
  (xSeq (xSet 5 (xOp oAdd (xV 5) (xNew (xLc (xIV (xV 7)) (xgN 6) (xYes) (xOp oAdd (xSl (xV 1) (xNoPart) (xPart (xC (.int 3)))) (xTupD (xCons (xTupD (xCons (xV 6) (xNil))) (xNil)))) [6]))))
  (xRet (xOp oAdd (xNew (xLc (xIV (xV 5)) (xgN 6) (xYes) (xOp oAdd (xSl (xV 0) (xNoPart) (xPart (xC (.int 8)))) (xTupD (xCons (xTupD (xCons (xV 6) (xNil))) (xNil)))) [6])) (xNew (xLc (xIH (xDsp (xCons (xC (.int 0)) (xCons (xOp oMul (xOp oIxA (xV 0) (xC (.int 8))) (xC (.int 2))) (xCons (xV 1) (xNil)))))) (xgN 6) (xYes) (xOp oAdd (xSl (xV 0) (xNoPart) (xPart (xC (.int 8)))) (xTupD (xCons (xV 6) (xNil)))) [6]))))))))))))))))
def x_law_spoilt_outs : XF := xDef 8 b_law_spoilt_outs
def b_law_draw : XS :=
  xSeq (xSetI (xOp oAdd (xOp oIxA (xV 0) (xC (.int 3))) (xC (.int 1))) (xV 0) (xC (.int 3)))
  (xSeq (xIf (xTest (xOp (oGt) (xOp oIxA (xV 0) (xC (.int 2))) (xC (.int 0))))
    (xSeq (xSet 2 (xOp oMod (xUn fInt (xOp oIxA (xV 0) (xC (.int 2)))) (xV 1)))
    (xSeq (xSetI (xOp oDiv (xOp oIxA (xV 0) (xC (.int 2))) (xV 1)) (xV 0) (xC (.int 2)))
    (xRet (xV 2))))
    (xSkip))
  (xSeq (xSet 3 (xC (.int 0)))
  (xSeq (xIf (xTest (xOp (oGt) (xUn fLen (xOp oIxA (xV 0) (xC (.int 0)))) (xC (.int 0))))
    (xSet 3 (xUn fAbs (xOp oIxA (xOp oIxA (xV 0) (xC (.int 0))) (xOp oMod (xUn fInt (xOp oIxA (xV 0) (xC (.int 1)))) (xUn fLen (xOp oIxA (xV 0) (xC (.int 0))))))))
    (xSkip))
  (xSeq (xSetI (xOp oAdd (xOp oIxA (xV 0) (xC (.int 1))) (xC (.int 1))) (xV 0) (xC (.int 1)))
  (xSeq (xIf (xTest (xOp (oGe) (xV 3) (xOp oPow (xC (.int 10)) (xC (.int 18)))))
    (xSeq (xSetI (xOp oDiv (xV 3) (xV 1)) (xV 0) (xC (.int 2)))
    (xRet (xOp oMod (xUn fInt (xV 3)) (xV 1))))
    (xSkip))
  (xSeq (xSet 4 (xOp oMod (xUn fInt (xOp oAdd (xOp oMul (xOp oAdd (xV 3) (xC (.int 1))) (xC (.int 48271))) (xOp oMul (xOp oIxA (xV 0) (xC (.int 3))) (xC (.int 69621))))) (xC (.int 2147483647))))
  (xSeq (xSet 4 (xOp oMod (xUn fInt (xOp oAdd (xOp oAdd (xOp oMul (xV 4) (xC (.int 16807))) (xOp oDiv (xV 3) (xC (.int 97)))) (xOp oIxA (xV 0) (xC (.int 3))))) (xC (.int 2147483629))))
  (xRet (xOp oMod (xOp oDiv (xV 4) (xC (.int 11))) (xV 1))))))))))
def x_law_draw : XF := xDef 3 b_law_draw
/-! the law's draw from one item: 0, whatever the script -/
def stD (s : Int) (ds : List Dt) : Store := [.lsv [.ob 1, .im (.int 1), .im (.int s), .im (.int 1)], .lst ds]
def st0 (ds : List Dt) : Store := [.lsv [.ob 1, .im (.int 0), .im (.int 0), .im (.int 0)], .lst ds]
theorem dr0 : x_law_draw [.ob 0, .im (.int 1)] (st0 []) = .ok (.im (.int 0)) (stD 0 []) := by rfl
def cD : XT := xTest (xOp (oGe) (xV 3) (xOp oPow (xC (.int 10)) (xC (.int 18))))
def bD : XS := xSeq (xSetI (xOp oDiv (xV 3) (xV 1)) (xV 0) (xC (.int 2))) (xRet (xOp oMod (xUn fInt (xV 3)) (xV 1)))
def e1 : SX.XE := xOp oMod (xUn fInt (xOp oAdd (xOp oMul (xOp oAdd (xV 3) (xC (.int 1))) (xC (.int 48271))) (xOp oMul (xOp oIxA (xV 0) (xC (.int 3))) (xC (.int 69621))))) (xC (.int 2147483647))
def e2 : SX.XE := xOp oMod (xUn fInt (xOp oAdd (xOp oAdd (xOp oMul (xV 4) (xC (.int 16807))) (xOp oDiv (xV 3) (xC (.int 97)))) (xOp oIxA (xV 0) (xC (.int 3))))) (xC (.int 2147483629))
def e3 : SX.XE := xOp oMod (xOp oDiv (xV 4) (xC (.int 11))) (xV 1)
/-- what stands behind the fifth statement -/
def tlD : XS := xSeq (xIf cD bD xSkip) (xSeq (xSet 4 e1) (xSeq (xSet 4 e2) (xRet e3)))
def ρ5 (n : Nat) (m : Option Val) : Slots := [some (.ob 0), some (.im (.int 1)), none, some (.im (.int (.ofNat n))), m]
theorem dr1p (n : Nat) (r : List Dt) : b_law_draw [some (.ob 0), some (.im (.int 1)), none, none, none] (st0 (.int (.ofNat n) :: r)) = tlD (ρ5 n none) (stD 0 (.int (.ofNat n) :: r)) := by rfl
theorem dr1n (n : Nat) (r : List Dt) : b_law_draw [some (.ob 0), some (.im (.int 1)), none, none, none] (st0 (.int (.negSucc n) :: r)) = tlD (ρ5 (n + 1) none) (stD 0 (.int (.negSucc n) :: r)) := by rfl
theorem mulOk {i j : Int} (hi : i.natAbs < 2 ^ 100) (hj : j.natAbs < 2 ^ 100) : mulOkB i j = true := by
  unfold mulOkB
  have h1 : i.natAbs.log2 < 101 := by
    by_cases e : i.natAbs = 0
    · rw [e]; decide
    · have := (Nat.log2_lt e).mpr hi; omega
  have h2 : j.natAbs.log2 < 101 := by
    by_cases e : j.natAbs = 0
    · rw [e]; decide
    · have := (Nat.log2_lt e).mpr hj; omega
  exact blt_iff.mpr (by omega)
theorem op_at {f : Val → Val → Store → R Val} {a b : SX.XE} {ρ : Slots} {st : Store} {u v : Val} (h1 : a ρ st = .ok u st) (h2 : b ρ st = .ok v st) : xOp f a b ρ st = f u v st := by
  unfold xOp
  rw [h1]
  show (b ρ st).bind _ = _
  rw [h2]
  rfl
theorem un_at {f : Val → Store → R Val} {a : SX.XE} {ρ : Slots} {st : Store} {u : Val} (h1 : a ρ st = .ok u st) : xUn f a ρ st = f u st := by
  unfold xUn
  rw [h1]
  rfl
theorem mul_at {i j : Int} {st : Store} (h : mulOkB i j = true) : oMul (.im (.int i)) (.im (.int j)) st = .ok (.im (.int (i * j))) st := by
  show ifR (mulOkB i j) _ = _
  rw [h]
  rfl
theorem tl_big (n : Nat) (ds : List Dt) (h : Nat.blt n 1000000000000000000 = false) : tlD (ρ5 n none) (stD 0 ds) = .rt (.im (.int (.ofNat n % 1))) (stD (.ofNat n / 1) ds) := by
  have hc : cD (ρ5 n none) (stD 0 ds) = .ok (!Nat.blt n 1000000000000000000) (stD 0 ds) := rfl
  show ((R.toO (cD (ρ5 n none) (stD 0 ds)) _ _).then _) = _
  rw [hc, h]
  rfl
theorem seq_at {p q : XS} {ρ ρ' : Slots} {st st' : Store} (h : p ρ st = .nx ρ' st') : xSeq p q ρ st = q ρ' st' := by
  unfold xSeq
  rw [h]
  rfl
theorem set_at {i : Nat} {e : SX.XE} {ρ : Slots} {st st' : Store} {v : Val} (h : e ρ st = .ok v st') : xSet i e ρ st = .nx (ρ.set i (some v)) st' := by
  unfold xSet
  rw [h]
  rfl
theorem if_no {c : XT} {p q : XS} {ρ : Slots} {st st' : Store} (h : c ρ st = .ok false st') : xIf c p q ρ st = q ρ st' := by
  unfold xIf
  rw [h]
  rfl
theorem ret_at {e : SX.XE} {ρ : Slots} {st st' : Store} {v : Val} (h : e ρ st = .ok v st') : xRet e ρ st = .rt v st' := by
  unfold xRet
  rw [h]
  rfl
theorem mod_at {i j : Int} {st : Store} (h : intLt 0 j = true) : oMod (.im (.int i)) (.im (.int j)) st = .ok (.im (.int (i % j))) st := by
  show ifR (intLt 0 j) _ = _
  rw [h]
  rfl
theorem v3 (n : Nat) (m : Option Val) (ds : List Dt) : xV 3 (ρ5 n m) (stD 0 ds) = .ok (.im (.int (.ofNat n))) (stD 0 ds) := rfl
theorem v4 (n : Nat) (m : Val) (ds : List Dt) : xV 4 (ρ5 n (some m)) (stD 0 ds) = .ok m (stD 0 ds) := rfl
theorem v1 (n : Nat) (m : Option Val) (ds : List Dt) : xV 1 (ρ5 n m) (stD 0 ds) = .ok (.im (.int 1)) (stD 0 ds) := rfl
theorem f3 (n : Nat) (m : Option Val) (ds : List Dt) : xOp oIxA (xV 0) (xC (.int 3)) (ρ5 n m) (stD 0 ds) = .ok (.im (.int 1)) (stD 0 ds) := rfl
theorem c_at (d : Dt) (ρ : Slots) (st : Store) : xC d ρ st = .ok (.im d) st := rfl
theorem add_at (i j : Int) (st : Store) : oAdd (.im (.int i)) (.im (.int j)) st = .ok (.im (.int (i + j))) st := rfl
theorem int_at (i : Int) (st : Store) : fInt (.im (.int i)) st = .ok (.im (.int i)) st := rfl
theorem div_at {i j : Int} {st : Store} (h : (intLt 0 j && Nat.blt j.natAbs.log2 9000) = true) : oDiv (.im (.int i)) (.im (.int j)) st = .ok (.im (.int (i / j))) st := by
  show ifR (intLt 0 j && Nat.blt j.natAbs.log2 9000) _ = _
  rw [h]
  rfl
theorem s1 (n : Nat) (ds : List Dt) (hn : n < 1000000000000000000) : ∃ m : Int, 0 ≤ m ∧ m < 2147483647 ∧ e1 (ρ5 n none) (stD 0 ds) = .ok (.im (.int m)) (stD 0 ds) := by
  have k1 : mulOkB (Int.ofNat n + 1) 48271 = true := mulOk (by show n + 1 < _; omega) (by decide)
  have k2 : mulOkB 1 69621 = true := by decide
  have a1 := (op_at (f := oAdd) (v3 n none ds) (c_at (.int 1) _ _)).trans (add_at _ _ _)
  have a2 := (op_at (f := oMul) a1 (c_at (.int 48271) _ _)).trans (mul_at k1)
  have a3 := (op_at (f := oMul) (f3 n none ds) (c_at (.int 69621) _ _)).trans (mul_at k2)
  have a4 := (un_at (f := fInt) ((op_at (f := oAdd) a2 a3).trans (add_at _ _ _))).trans (int_at _ _)
  have a5 := (op_at (f := oMod) a4 (c_at (.int 2147483647) _ _)).trans (mod_at (by decide))
  exact ⟨_, Int.emod_nonneg _ (by decide), Int.emod_lt_of_pos _ (by decide), a5⟩
theorem s2 (n : Nat) (m : Int) (ds : List Dt) (h : 0 ≤ m ∧ m < 2147483647) : ∃ m2 : Int, e2 (ρ5 n (some (.im (.int m)))) (stD 0 ds) = .ok (.im (.int m2)) (stD 0 ds) := by
  have k1 : mulOkB m 16807 = true := mulOk (by omega) (by decide)
  have a1 := (op_at (f := oMul) (v4 n (.im (.int m)) ds) (c_at (.int 16807) _ _)).trans (mul_at k1)
  have a2 := (op_at (f := oDiv) (v3 n (some (.im (.int m))) ds) (c_at (.int 97) _ _)).trans (div_at (by decide))
  have a3 := (op_at (f := oAdd) a1 a2).trans (add_at _ _ _)
  have a4 := (un_at (f := fInt) ((op_at (f := oAdd) a3 (f3 n (some (.im (.int m))) ds)).trans (add_at _ _ _))).trans (int_at _ _)
  exact ⟨_, (op_at (f := oMod) a4 (c_at (.int 2147483629) _ _)).trans (mod_at (by decide))⟩
theorem s3 (n : Nat) (m : Int) (ds : List Dt) : e3 (ρ5 n (some (.im (.int m)))) (stD 0 ds) = .ok (.im (.int (m / 11 % 1))) (stD 0 ds) :=
  (op_at (f := oMod) ((op_at (f := oDiv) (v4 n (.im (.int m)) ds) (c_at (.int 11) _ _)).trans (div_at (by decide))) (v1 n (some (.im (.int m))) ds)).trans (mod_at (by decide))
theorem setr (n : Nat) (o : Option Val) (v : Val) : (ρ5 n o).set 4 (some v) = ρ5 n (some v) := rfl
theorem tl_small (n : Nat) (ds : List Dt) (h : Nat.blt n 1000000000000000000 = true) : tlD (ρ5 n none) (stD 0 ds) = .rt (.im (.int 0)) (stD 0 ds) := by
  have hc : cD (ρ5 n none) (stD 0 ds) = .ok (!Nat.blt n 1000000000000000000) (stD 0 ds) := rfl
  rw [h] at hc
  obtain ⟨m, h1, h2, h3⟩ := s1 n ds (blt_iff.mp h)
  obtain ⟨m2, h4⟩ := s2 n m ds ⟨h1, h2⟩
  have z1 : xIf cD bD xSkip (ρ5 n none) (stD 0 ds) = .nx (ρ5 n none) (stD 0 ds) := if_no hc
  have z2 := set_at (i := 4) h3
  rw [setr] at z2
  have z3 := set_at (i := 4) h4
  rw [setr] at z3
  have z4 := ret_at (s3 n m2 ds)
  rw [Int.emod_one] at z4
  unfold tlD
  rw [seq_at z1, seq_at z2, seq_at z3, z4]
def s2v : List Dt → Int
  | .int (.ofNat n) :: _ => (match Nat.blt n 1000000000000000000 with
    | true => 0
    | false => .ofNat n / 1)
  | .int (.negSucc n) :: _ => (match Nat.blt (n + 1) 1000000000000000000 with
    | true => 0
    | false => .ofNat (n + 1) / 1)
  | _ => 0
def drOk : List Val → Store → Bool
  | [.ob i, .im (.int m)], [.lsv [.ob j, .im (.int a), .im (.int b), .im (.int c)], .lst ds] => Nat.beq i 0 && (intEq m 1 && (Nat.beq j 1 && (intEq a 0 && (intEq b 0 && (intEq c 0 && (match ds with
    | [] => true
    | .int _ :: _ => true
    | _ => false))))))
  | _, _ => false
def dsOf : Store → List Dt
  | [_, .lst ds] => ds
  | _ => []
def y_law_draw : XF := fun as st => match drOk as st with
  | true => .ok (.im (.int 0)) (stD (s2v (dsOf st)) (dsOf st))
  | false => x_law_draw as st
theorem tl_ok (n : Nat) (ds : List Dt) : ∃ s : Int, s = (match Nat.blt n 1000000000000000000 with
    | true => 0
    | false => .ofNat n / 1) ∧ tlD (ρ5 n none) (stD 0 ds) = .rt (.im (.int 0)) (stD s ds) := by
  refine ⟨_, rfl, ?_⟩
  cases h : Nat.blt n 1000000000000000000 with
  | true => exact tl_small n ds h
  | false =>
    have := tl_big n ds h
    rw [Int.emod_one] at this
    exact this
theorem x_of {b : XS} {m : Nat} {as : List Val} {st st' : Store} {v : Val} (h : b (as.map some ++ List.replicate m none) st = .rt v st') : xDef m b as st = .ok v st' := by
  unfold xDef
  rw [h]
theorem y_law_draw_eq (as : List Val) (st : Store) : x_law_draw as st = y_law_draw as st := by
  unfold y_law_draw
  cases h : drOk as st with
  | false => rfl
  | true =>
    unfold drOk at h
    split at h
    · simp only [Bool.and_eq_true, Nat.beq_eq, intEq_eq, decide_eq_true_eq] at h
      obtain ⟨rfl, rfl, rfl, rfl, rfl, rfl, h⟩ := h
      split at h
      · exact dr0
      · rename_i i r
        cases i with
        | ofNat n =>
          obtain ⟨s, e, z⟩ := tl_ok n (.int (.ofNat n) :: r)
          subst e
          exact x_of ((dr1p n r).trans z)
        | negSucc n =>
          obtain ⟨s, e, z⟩ := tl_ok (n + 1) (.int (.negSucc n) :: r)
          subst e
          exact x_of ((dr1n n r).trans z)
      · cases h
    · cases h
def b_law_one_of : XS :=
  xRet (xOp oIxA (xV 1) (xCall y_law_draw 2 (xCons (xV 0) (xCons (xUn fLen (xV 1)) (xNil)))))
def x_law_one_of : XF := xDef 0 b_law_one_of
def b_law : XS :=
  xSeq (xSet 1 (xCall x_law_start 1 (xCons (xV 0) (xNil))))
  (xSeq (xSet 2 (xCall y_law_array 1 (xCons (xCall x_law_lines 0 xNil) (xNil))))
  (xSeq (xSet 3 (xCall y_law_array 1 (xCons (xCall x_law_wide_lines 0 xNil) (xNil))))
  (xSeq (xSet 4 (xOp oIxA (xOp oIxA (xV 2) (xC (.int 7))) (xC (.int 0))))
  (xSeq (xSet 5 (xNew (xDsp (xCons (xV 2) (xCons (xV 3) (xCons (xOp oAdd (xSl (xV 2) (xNoPart) (xPart (xC (.int 8)))) (xTupD (xCons (xTupD (xNil)) (xNil)))) (xCons (xOp oAdd (xOp oAdd (xSl (xV 2) (xNoPart) (xPart (xC (.int 1)))) (xTupD (xCons (xTupD (xCons (xC (.str "n")) (xCons (xC (.str "m")) (xCons (xC (.str "k")) (xNil))))) (xNil)))) (xSl (xV 2) (xPart (xC (.int 2))) (xNoPart))) (xNil))))))))
  (xSeq (xExpr (xM isL mApp (xV 5) (xCons (xOp oAdd (xOp oAdd (xSl (xV 2) (xNoPart) (xPart (xC (.int 7)))) (xTupD (xCons (xOp oAdd (xTupD (xCons (xOp oAdd (xSl (xV 4) (xNoPart) (xPart (xC (.int 2)))) (xTupD (xCons (xCall x_law_deep 1 (xCons (xC (.int 20)) (xNil))) (xNil)))) (xNil))) (xSl (xOp oIxA (xV 2) (xC (.int 7))) (xPart (xC (.int 1))) (xNoPart))) (xNil)))) (xSl (xV 2) (xPart (xC (.int 8))) (xNoPart))) (xNil))))
  (xSeq (xExpr (xM isL mApp (xV 5) (xCons (xOp oAdd (xOp oAdd (xSl (xV 2) (xNoPart) (xPart (xC (.int 2)))) (xTupD (xCons (xTupD (xNil)) (xNil)))) (xSl (xV 2) (xPart (xC (.int 3))) (xNoPart))) (xNil))))
  (xSeq (xExpr (xM isL mApp (xV 5) (xCons (xOp oAdd (xSl (xV 2) (xNoPart) (xPart (xC (.int 3)))) (xTupD (xCons (xTupD (xNil)) (xCons (xOp oIxA (xV 2) (xC (.int 4))) (xCons (xOp oIxA (xV 2) (xC (.int 5))) (xCons (xOp oIxA (xV 2) (xC (.int 6))) (xCons (xTupD (xCons (xTupD (xCons (xC (.str "a")) (xCons (xTupD (xNil)) (xCons (xTupD (xCons (xC (.str "number")) (xCons (xUn uNeg (xC (.int 7))) (xNil)))) (xNil))))) (xNil))) (xCons (xTupD (xNil)) (xNil))))))))) (xNil))))
  (xSeq (xIf (xNot (xTru (xHF fAll (xLc (xIV (xV 5)) (xgN 7) (xYes) (xOp (oIsN false) (xCall x_is_array2 1 (xCons (xV 7) (xNil))) (xC (.bl true))) [7]))))
    (xRet (xC (.bl false)))
    (xSkip))
  (xSeq (xSet 6 (xOp oAdd (xOp oAdd (xCall x_law_spoilt_heads 1 (xCons (xV 2) (xNil))) (xCall x_law_spoilt_rows 1 (xCons (xV 2) (xNil)))) (xCall x_law_spoilt_outs 1 (xCons (xV 2) (xNil)))))
  (xSeq (xIf (xTru (xHF fAny (xLc (xIV (xV 6)) (xgN 7) (xYes) (xOp (oIsN true) (xCall x_is_array2 1 (xCons (xV 7) (xNil))) (xC (.bl false))) [7])))
    (xRet (xC (.bl false)))
    (xSkip))
  (xSeq (xSet 7 (xCall x_law_one_of 2 (xCons (xV 1) (xCons (xOp oIxA (xV 3) (xC (.int 7))) (xNil)))))
  (xSeq (xSet 8 (xTupD (xCons (xC (.int 0)) (xCons (xTupD (xCons (xTupD (xCons (xC (.str "place1")) (xCons (xC (.int 1)) (xNil)))) (xNil))) (xNil)))))
  (xSeq (xSet 9 (xNew (xDsp (xCons (xOp oAdd (xOp oAdd (xSl (xV 3) (xNoPart) (xPart (xC (.int 7)))) (xTupD (xCons (xTupD (xCons (xOp oAdd (xOp oAdd (xSl (xV 7) (xNoPart) (xPart (xC (.int 1)))) (xTupD (xCons (xTupD (xCons (xTupD (xCons (xC (.str "least")) (xCons (xV 8) (xNil)))) (xNil))) (xNil)))) (xSl (xV 7) (xPart (xC (.int 2))) (xNoPart))) (xNil))) (xNil)))) (xSl (xV 3) (xPart (xC (.int 8))) (xNoPart))) (xNil)))))
  (xSeq (xSet 10 (xOp oAdd (xOp oAdd (xSl (xV 3) (xNoPart) (xPart (xC (.int 6)))) (xTupD (xCons (xSl (xOp oIxA (xV 3) (xC (.int 6))) (xNoPart) (xPart (xC (.int 1)))) (xNil)))) (xSl (xV 3) (xPart (xC (.int 7))) (xNoPart))))
  (xRet (xAndV (xOp (oIsN false) (xCall x_is_array2 1 (xCons (xOp oIxA (xV 9) (xC (.int 0))) (xNil))) (xC (.bl true))) (xOp (oIsN false) (xCall x_is_array2 1 (xCons (xV 10) (xNil))) (xC (.bl false)))))))))))))))))))
def x_law : XF := xDef 10 b_law
end L36
namespace L36
open PySem PySem.Spec PyProof.Rows L2 PL SX
open PL (Dt)
def topS (i : Nat) : Stmt := PySem.Challenge.pw_cellsinstep_k36_what_is_an_array.main.body.getD i (.Pass ⟨0, 0, 0, 0⟩)
def CNm : Nat → Str
  | 0 => "Rows"
  | 1 => "CellsError"
  | 2 => "BadLine"
  | 3 => "Hand"
  | 4 => "Lines"
  | 5 => "Sums"
  | _ => ""
def FNm : Nat → Str
  | 62 => "_law_start"
  | 67 => "_law_array"
  | 65 => "_law_lines"
  | 66 => "_law_wide_lines"
  | 68 => "_law_deep"
  | 27 => "is_array_arrays"
  | 69 => "_law_spoilt_heads"
  | 70 => "_law_spoilt_rows"
  | 71 => "_law_spoilt_outs"
  | 64 => "_law_one_of"
  | 61 => "read_array"
  | 26 => "is_head"
  | 5 => "is_tuple"
  | 7 => "is_word"
  | 23 => "are_together"
  | 25 => "is_out"
  | 22 => "units_of"
  | 63 => "_law_draw"
  | 41 => "read_head"
  | 58 => "read_frame"
  | 59 => "row_of"
  | 43 => "read_block"
  | 60 => "told_of"
  | 56 => "read_makings"
  | 11 => "is_set"
  | 12 => "are_words"
  | 15 => "is_array_sheets"
  | 16 => "is_box"
  | 18 => "cell_names"
  | 19 => "is_condition"
  | 24 => "is_piece"
  | 37 => "condition_of"
  | 40 => "pair_of"
  | 57 => "form_line"
  | 39 => "guard_of"
  | 33 => "named"
  | 10 => "is_form"
  | 13 => "are_forms"
  | 17 => "place_names"
  | 4 => "is_integer"
  | 21 => "is_wire"
  | 20 => "is_rim"
  | 31 => "is_name_tokens"
  | 36 => "compared"
  | 35 => "form_of"
  | 45 => "signed_of"
  | 44 => "share_of"
  | 38 => "test_of"
  | 32 => "split_line"
  | 48 => "forms_of"
  | 42 => "read_when"
  | 9 => "is_name_forms"
  | 6 => "are_integers"
  | 3 => "minus"
  | 34 => "part"
  | 0 => "form"
  | 30 => "is_number"
  | 29 => "head_of"
  | 1 => "plus"
  | 2 => "times"
  | 46 => "wire_of"
  | 28 => "run_length"
  | _ => ""
abbrev TT (a : Addr) (ns : List Int) : Tb := ⟨CNm, FNm, a, ns⟩
/-- what the top of the text has written -/
structure Ev (w : World) (K : PySem.W.Frag) (mg : Str → Option Value) : Prop where
  m_abs : mg "abs" = none
  m_all : mg "all" = none
  m_any : mg "any" = none
  m_bool : mg "bool" = none
  m_dict : mg "dict" = none
  m_int : mg "int" = none
  m_isinstance : mg "isinstance" = none
  m_len : mg "len" = none
  m_list : mg "list" = none
  m_range : mg "range" = none
  m_set : mg "set" = none
  m_sorted : mg "sorted" = none
  m_str : mg "str" = none
  m_tuple : mg "tuple" = none
  g_MOST_SIZES : ∃ t, mg "MOST_SIZES" = some (.int 3 t)
  g_LETTERS : ∃ t, mg "LETTERS" = some (.str "abcdefghijklmnopqrstuvwxyz" t)
  g_MOST_SIGNS_forms : ∃ t, mg "MOST_SIGNS_forms" = some (.int 12 t)
  g_SIGNS_forms : ∃ t, mg "SIGNS_forms" = some (.str "abcdefghijklmnopqrstuvwxyz0123456789" t)
  g_DEEP : ∃ t, mg "DEEP" = some (.int 20 t)
  g_MOST_INDEXES : ∃ t, mg "MOST_INDEXES" = some (.int 3 t)
  g_ARRAY : ∃ t, mg "ARRAY" = some (.str "array" t)
  g_RESERVED_sheets : SX.Gt K mg "RESERVED_sheets" c_RESERVED_sheets
  g_MOST_PLACES : ∃ t, mg "MOST_PLACES" = some (.int 2 t)
  g_BEAT : ∃ t, mg "BEAT" = some (.str "beat" t)
  g_LEAST : ∃ t, mg "LEAST" = some (.str "least" t)
  g_DIVIDES : ∃ t, mg "DIVIDES" = some (.str "divides" t)
  g_OPERATIONS : SX.Gt K mg "OPERATIONS" c_OPERATIONS
  g_NUMBER : ∃ t, mg "NUMBER" = some (.str "number" t)
  g_WIRE : ∃ t, mg "WIRE" = some (.str "wire" t)
  g_RIM : ∃ t, mg "RIM" = some (.str "rim" t)
  g_PLACE : ∃ t, mg "PLACE" = some (.str "place" t)
  g_RESERVED_tokens : SX.Gt K mg "RESERVED_tokens" c_RESERVED_tokens
  g_SMALL : ∃ t, mg "SMALL" = some (.str "abcdefghijklmnopqrstuvwxyz" t)
  g_ONE : SX.Gt K mg "ONE" c_ONE
  g_MOST_DEEP : ∃ t, mg "MOST_DEEP" = some (.int 30 t)
  g_CALLS : SX.Gt K mg "CALLS" c_CALLS
  g_MOST_DIGITS : ∃ t, mg "MOST_DIGITS" = some (.int 6 t)
  g_DIGITS : ∃ t, mg "DIGITS" = some (.str "0123456789" t)
  g_MOST_SIGNS_tokens : ∃ t, mg "MOST_SIGNS_tokens" = some (.int 12 t)
  g_SIGNS_tokens : SX.Gt K mg "SIGNS_tokens" c_SIGNS_tokens
  g_ZERO : SX.Gt K mg "ZERO" c_ZERO
  g_MOST_LEAVES : ∃ t, mg "MOST_LEAVES" = some (.int 100 t)
  k_MAKINGS : ∀ {a ns}, KD (TT a ns) w K mg "MAKINGS" k_MAKINGS
  k_JOINING : ∀ {a ns}, KD (TT a ns) w K mg "JOINING" k_JOINING
  f_Hand_at : Cf K mg "Hand" "at"
  f_Hand_deep : Cf K mg "Hand" "deep"
  f_Hand_leaves : Cf K mg "Hand" "leaves"
  f_Hand_place : Cf K mg "Hand" "place"
  f_Hand_tokens : Cf K mg "Hand" "tokens"
  f_Lines_at : Cf K mg "Lines" "at"
  f_Lines_lines : Cf K mg "Lines" "lines"
  f_Rows_names : Cf K mg "Rows" "names"
  f_Rows_places : Cf K mg "Rows" "places"
  f_Rows_units : Cf K mg "Rows" "units"
  f_Rows_wide : Cf K mg "Rows" "wide"
  f_Sums_ins : Cf K mg "Sums" "ins"
  f_Sums_kind : Cf K mg "Sums" "kind"
abbrev s_law : Stmt := topS 123
abbrev N_law : List Str := ["script", "state", "array", "wide", "row", "good", "wrong", "one", "far", "more", "less"]
theorem sc_law : FnScope N_law ["script"] (defScope s_law) := ⟨rfl, rfl, rfl, by decide +kernel, rfl, by decide +kernel, by decide +kernel⟩
abbrev s_law_start : Stmt := topS 113
abbrev N_law_start : List Str := ["script"]
theorem sc_law_start : FnScope N_law_start ["script"] (defScope s_law_start) := ⟨rfl, rfl, rfl, by decide +kernel, rfl, by decide +kernel, by decide +kernel⟩
abbrev s_law_array : Stmt := topS 118
abbrev N_law_array : List Str := ["lines", "line"]
theorem sc_law_array : FnScope N_law_array ["lines"] (defScope s_law_array) := ⟨rfl, rfl, rfl, by decide +kernel, rfl, by decide +kernel, by decide +kernel⟩
abbrev s_law_lines : Stmt := topS 116
abbrev N_law_lines : List Str := ["lines"]
theorem sc_law_lines : FnScope N_law_lines [] (defScope s_law_lines) := ⟨rfl, rfl, rfl, by decide +kernel, rfl, by decide +kernel, by decide +kernel⟩
abbrev s_law_wide_lines : Stmt := topS 117
abbrev N_law_wide_lines : List Str := ["lines"]
theorem sc_law_wide_lines : FnScope N_law_wide_lines [] (defScope s_law_wide_lines) := ⟨rfl, rfl, rfl, by decide +kernel, rfl, by decide +kernel, by decide +kernel⟩
abbrev s_law_deep : Stmt := topS 119
abbrev N_law_deep : List Str := ["many", "found", "turn"]
theorem sc_law_deep : FnScope N_law_deep ["many"] (defScope s_law_deep) := ⟨rfl, rfl, rfl, by decide +kernel, rfl, by decide +kernel, by decide +kernel⟩
abbrev s_is_array2 : Stmt := topS 49
abbrev N_is_array2 : List Str := ["datum", "rows", "told", "names", "row", "one"]
theorem sc_is_array2 : FnScope N_is_array2 ["datum"] (defScope s_is_array2) := ⟨rfl, rfl, rfl, by decide +kernel, rfl, by decide +kernel, by decide +kernel⟩
abbrev s_law_spoilt_heads : Stmt := topS 120
abbrev N_law_spoilt_heads : List Str := ["array", "f", "odd", "found", "sizes", "ins", "name", "one", "beat", "box"]
theorem sc_law_spoilt_heads : FnScope N_law_spoilt_heads ["array"] (defScope s_law_spoilt_heads) := ⟨rfl, rfl, rfl, by decide +kernel, rfl, by decide +kernel, by decide +kernel⟩
abbrev s_law_spoilt_rows : Stmt := topS 121
abbrev N_law_spoilt_rows : List Str := ["array", "first", "one", "f", "rows", "guards", "wires", "rims", "sums", "found", "name", "m", "guard", "e", "row"]
theorem sc_law_spoilt_rows : FnScope N_law_spoilt_rows ["array"] (defScope s_law_spoilt_rows) := ⟨rfl, rfl, rfl, by decide +kernel, rfl, by decide +kernel, by decide +kernel⟩
abbrev s_law_spoilt_outs : Stmt := topS 122
abbrev N_law_spoilt_outs : List Str := ["array", "out", "f", "piece", "odd", "found", "one", "pieces", "unit"]
theorem sc_law_spoilt_outs : FnScope N_law_spoilt_outs ["array"] (defScope s_law_spoilt_outs) := ⟨rfl, rfl, rfl, by decide +kernel, rfl, by decide +kernel, by decide +kernel⟩
abbrev s_law_one_of : Stmt := topS 115
abbrev N_law_one_of : List Str := ["state", "items"]
theorem sc_law_one_of : FnScope N_law_one_of ["state", "items"] (defScope s_law_one_of) := ⟨rfl, rfl, rfl, by decide +kernel, rfl, by decide +kernel, by decide +kernel⟩
abbrev s_read_array : Stmt := topS 111
abbrev N_read_array : List Str := ["text", "lines", "head", "hand", "frame", "rows", "outs", "block", "makings"]
theorem sc_read_array : FnScope N_read_array ["text"] (defScope s_read_array) := ⟨rfl, rfl, rfl, by decide +kernel, rfl, by decide +kernel, by decide +kernel⟩
abbrev s_is_head : Stmt := topS 48
abbrev N_is_head : List Str := ["datum", "sizes", "one"]
theorem sc_is_head : FnScope N_is_head ["datum"] (defScope s_is_head) := ⟨rfl, rfl, rfl, by decide +kernel, rfl, by decide +kernel, by decide +kernel⟩
abbrev s_is_tuple : Stmt := topS 10
abbrev N_is_tuple : List Str := ["datum", "many"]
theorem sc_is_tuple : FnScope N_is_tuple ["datum", "many"] (defScope s_is_tuple) := ⟨rfl, rfl, rfl, by decide +kernel, rfl, by decide +kernel, by decide +kernel⟩
abbrev s_is_word : Stmt := topS 12
abbrev N_is_word : List Str := ["datum", "sign"]
theorem sc_is_word : FnScope N_is_word ["datum"] (defScope s_is_word) := ⟨rfl, rfl, rfl, by decide +kernel, rfl, by decide +kernel, by decide +kernel⟩
abbrev s_Rows_init : Stmt := inClass (topS 43) 0
abbrev N_Rows_init : List Str := ["self", "array", "one", "row"]
theorem sc_Rows_init : FnScope N_Rows_init ["self", "array"] (defScope s_Rows_init) := ⟨rfl, rfl, rfl, by decide +kernel, rfl, by decide +kernel, by decide +kernel⟩
abbrev s_Rows_is_row : Stmt := inClass (topS 43) 2
abbrev N_Rows_is_row : List Str := ["self", "row", "one"]
theorem sc_Rows_is_row : FnScope N_Rows_is_row ["self", "row"] (defScope s_Rows_is_row) := ⟨rfl, rfl, rfl, by decide +kernel, rfl, by decide +kernel, by decide +kernel⟩
abbrev s_are_together : Stmt := topS 45
abbrev N_are_together : List Str := ["names", "changes", "place"]
theorem sc_are_together : FnScope N_are_together ["names"] (defScope s_are_together) := ⟨rfl, rfl, rfl, by decide +kernel, rfl, by decide +kernel, by decide +kernel⟩
abbrev s_is_out : Stmt := topS 47
abbrev N_is_out : List Str := ["datum", "sizes", "units", "places", "names", "piece"]
theorem sc_is_out : FnScope N_is_out ["datum", "sizes", "units", "places"] (defScope s_is_out) := ⟨rfl, rfl, rfl, by decide +kernel, rfl, by decide +kernel, by decide +kernel⟩
abbrev s_units_of : Stmt := topS 44
abbrev N_units_of : List Str := ["array", "found", "row"]
theorem sc_units_of : FnScope N_units_of ["array"] (defScope s_units_of) := ⟨rfl, rfl, rfl, by decide +kernel, rfl, by decide +kernel, by decide +kernel⟩
abbrev s_law_draw : Stmt := topS 114
abbrev N_law_draw : List Str := ["state", "most", "found", "cell", "mixed"]
theorem sc_law_draw : FnScope N_law_draw ["state", "most"] (defScope s_law_draw) := ⟨rfl, rfl, rfl, by decide +kernel, rfl, by decide +kernel, by decide +kernel⟩
abbrev s_Lines_init : Stmt := inClass (topS 71) 0
abbrev N_Lines_init : List Str := ["self", "text"]
theorem sc_Lines_init : FnScope N_Lines_init ["self", "text"] (defScope s_Lines_init) := ⟨rfl, rfl, rfl, by decide +kernel, rfl, by decide +kernel, by decide +kernel⟩
abbrev s_read_head : Stmt := topS 82
abbrev N_read_head : List Str := ["lines", "word", "hand", "name", "sizes", "given", "ins"]
theorem sc_read_head : FnScope N_read_head ["lines", "word"] (defScope s_read_head) := ⟨rfl, rfl, rfl, by decide +kernel, rfl, by decide +kernel, by decide +kernel⟩
abbrev s_read_frame : Stmt := topS 107
abbrev N_read_frame : List Str := ["lines", "hand", "first", "last", "box"]
theorem sc_read_frame : FnScope N_read_frame ["lines", "hand"] (defScope s_read_frame) := ⟨rfl, rfl, rfl, by decide +kernel, rfl, by decide +kernel, by decide +kernel⟩
abbrev s_Hand_next : Stmt := inClass (topS 69) 2
abbrev N_Hand_next : List Str := ["self", "further", "at"]
theorem sc_Hand_next : FnScope N_Hand_next ["self", "further"] (defScope s_Hand_next) := ⟨rfl, rfl, rfl, by decide +kernel, rfl, by decide +kernel, by decide +kernel⟩
abbrev s_row_of : Stmt := topS 109
abbrev N_row_of : List Str := ["hand", "unit", "found", "guard"]
theorem sc_row_of : FnScope N_row_of ["hand"] (defScope s_row_of) := ⟨rfl, rfl, rfl, by decide +kernel, rfl, by decide +kernel, by decide +kernel⟩
abbrev s_Lines_ahead : Stmt := inClass (topS 71) 2
abbrev N_Lines_ahead : List Str := ["self", "found"]
theorem sc_Lines_ahead : FnScope N_Lines_ahead ["self"] (defScope s_Lines_ahead) := ⟨rfl, rfl, rfl, by decide +kernel, rfl, by decide +kernel, by decide +kernel⟩
abbrev s_read_block : Stmt := topS 84
abbrev N_read_block : List Str := ["lines", "hand", "piece_of", "name", "indexes", "told", "pieces"]
theorem sc_read_block : FnScope N_read_block ["lines", "hand", "piece_of"] (defScope s_read_block) := ⟨rfl, rfl, rfl, by decide +kernel, rfl, by decide +kernel, by decide +kernel⟩
abbrev s_read_makings : Stmt := topS 104
abbrev N_read_makings : List Str := ["lines", "hand", "found", "reader"]
theorem sc_read_makings : FnScope N_read_makings ["lines", "hand"] (defScope s_read_makings) := ⟨rfl, rfl, rfl, by decide +kernel, rfl, by decide +kernel, by decide +kernel⟩
abbrev s_Lines_finish : Stmt := inClass (topS 71) 3
abbrev N_Lines_finish : List Str := ["self", "hand", "further"]
theorem sc_Lines_finish : FnScope N_Lines_finish ["self", "hand"] (defScope s_Lines_finish) := ⟨rfl, rfl, rfl, by decide +kernel, rfl, by decide +kernel, by decide +kernel⟩
abbrev s_is_set : Stmt := topS 16
abbrev N_is_set : List Str := ["datum", "names", "f"]
theorem sc_is_set : FnScope N_is_set ["datum", "names"] (defScope s_is_set) := ⟨rfl, rfl, rfl, by decide +kernel, rfl, by decide +kernel, by decide +kernel⟩
abbrev s_are_words : Stmt := topS 26
abbrev N_are_words : List Str := ["datum", "most", "one"]
theorem sc_are_words : FnScope N_are_words ["datum", "most"] (defScope s_are_words) := ⟨rfl, rfl, rfl, by decide +kernel, rfl, by decide +kernel, by decide +kernel⟩
abbrev s_is_array : Stmt := topS 28
abbrev N_is_array : List Str := ["datum", "sizes", "pair"]
theorem sc_is_array : FnScope N_is_array ["datum", "sizes"] (defScope s_is_array) := ⟨rfl, rfl, rfl, by decide +kernel, rfl, by decide +kernel, by decide +kernel⟩
abbrev s_is_box : Stmt := topS 33
abbrev N_is_box : List Str := ["datum", "sizes", "pair"]
theorem sc_is_box : FnScope N_is_box ["datum", "sizes"] (defScope s_is_box) := ⟨rfl, rfl, rfl, by decide +kernel, rfl, by decide +kernel, by decide +kernel⟩
abbrev s_cell_names : Stmt := topS 39
abbrev N_cell_names : List Str := ["sizes", "many"]
theorem sc_cell_names : FnScope N_cell_names ["sizes", "many"] (defScope s_cell_names) := ⟨rfl, rfl, rfl, by decide +kernel, rfl, by decide +kernel, by decide +kernel⟩
abbrev s_is_condition : Stmt := topS 40
abbrev N_is_condition : List Str := ["datum", "names"]
theorem sc_is_condition : FnScope N_is_condition ["datum", "names"] (defScope s_is_condition) := ⟨rfl, rfl, rfl, by decide +kernel, rfl, by decide +kernel, by decide +kernel⟩
abbrev s_Rows_is_expression : Stmt := inClass (topS 43) 1
abbrev N_Rows_is_expression : List Str := ["self", "datum", "deep", "part"]
theorem sc_Rows_is_expression : FnScope N_Rows_is_expression ["self", "datum", "deep"] (defScope s_Rows_is_expression) := ⟨rfl, rfl, rfl, by decide +kernel, rfl, by decide +kernel, by decide +kernel⟩
abbrev s_is_piece : Stmt := topS 46
abbrev N_is_piece : List Str := ["datum", "names", "units", "places"]
theorem sc_is_piece : FnScope N_is_piece ["datum", "names", "units", "places"] (defScope s_is_piece) := ⟨rfl, rfl, rfl, by decide +kernel, rfl, by decide +kernel, by decide +kernel⟩
abbrev s_Hand_must : Stmt := inClass (topS 69) 4
abbrev N_Hand_must : List Str := ["self", "token"]
theorem sc_Hand_must : FnScope N_Hand_must ["self", "token"] (defScope s_Hand_must) := ⟨rfl, rfl, rfl, by decide +kernel, rfl, by decide +kernel, by decide +kernel⟩
abbrev s_Hand_name : Stmt := inClass (topS 69) 6
abbrev N_Hand_name : List Str := ["self", "token"]
theorem sc_Hand_name : FnScope N_Hand_name ["self"] (defScope s_Hand_name) := ⟨rfl, rfl, rfl, by decide +kernel, rfl, by decide +kernel, by decide +kernel⟩
abbrev s_Hand_names : Stmt := inClass (topS 69) 15
abbrev N_Hand_names : List Str := ["self", "found"]
theorem sc_Hand_names : FnScope N_Hand_names ["self"] (defScope s_Hand_names) := ⟨rfl, rfl, rfl, by decide +kernel, rfl, by decide +kernel, by decide +kernel⟩
abbrev s_Hand_end : Stmt := inClass (topS 69) 14
abbrev N_Hand_end : List Str := ["self"]
theorem sc_Hand_end : FnScope N_Hand_end ["self"] (defScope s_Hand_end) := ⟨rfl, rfl, rfl, by decide +kernel, rfl, by decide +kernel, by decide +kernel⟩
abbrev s_Hand_go : Stmt := inClass (topS 69) 3
abbrev N_Hand_go : List Str := ["self", "token"]
theorem sc_Hand_go : FnScope N_Hand_go ["self"] (defScope s_Hand_go) := ⟨rfl, rfl, rfl, by decide +kernel, rfl, by decide +kernel, by decide +kernel⟩
abbrev s_condition_of : Stmt := topS 77
abbrev N_condition_of : List Str := ["hand", "found"]
theorem sc_condition_of : FnScope N_condition_of ["hand"] (defScope s_condition_of) := ⟨rfl, rfl, rfl, by decide +kernel, rfl, by decide +kernel, by decide +kernel⟩
abbrev s_Hand_boxed : Stmt := inClass (topS 69) 13
abbrev N_Hand_boxed : List Str := ["self", "reader", "found"]
theorem sc_Hand_boxed : FnScope N_Hand_boxed ["self", "reader"] (defScope s_Hand_boxed) := ⟨rfl, rfl, rfl, by decide +kernel, rfl, by decide +kernel, by decide +kernel⟩
abbrev s_form_line : Stmt := topS 106
abbrev N_form_line : List Str := ["hand", "word", "found"]
theorem sc_form_line : FnScope N_form_line ["hand", "word"] (defScope s_form_line) := ⟨rfl, rfl, rfl, by decide +kernel, rfl, by decide +kernel, by decide +kernel⟩
abbrev s_Hand_row : Stmt := inClass (topS 69) 12
abbrev N_Hand_row : List Str := ["self", "reader", "found"]
theorem sc_Hand_row : FnScope N_Hand_row ["self", "reader"] (defScope s_Hand_row) := ⟨rfl, rfl, rfl, by decide +kernel, rfl, by decide +kernel, by decide +kernel⟩
abbrev s_Hand_bad : Stmt := inClass (topS 69) 1
abbrev N_Hand_bad : List Str := ["self"]
theorem sc_Hand_bad : FnScope N_Hand_bad ["self"] (defScope s_Hand_bad) := ⟨rfl, rfl, rfl, by decide +kernel, rfl, by decide +kernel, by decide +kernel⟩
abbrev s_Sums_sum_of : Stmt := inClass (topS 89) 1
abbrev N_Sums_sum_of : List Str := ["self", "hand", "found", "word"]
theorem sc_Sums_sum_of : FnScope N_Sums_sum_of ["self", "hand"] (defScope s_Sums_sum_of) := ⟨rfl, rfl, rfl, by decide +kernel, rfl, by decide +kernel, by decide +kernel⟩
abbrev s_Sums_init : Stmt := inClass (topS 89) 0
abbrev N_Sums_init : List Str := ["self", "kind", "ins"]
theorem sc_Sums_init : FnScope N_Sums_init ["self", "kind", "ins"] (defScope s_Sums_init) := ⟨rfl, rfl, rfl, by decide +kernel, rfl, by decide +kernel, by decide +kernel⟩
abbrev s_Hand_may : Stmt := inClass (topS 69) 5
abbrev N_Hand_may : List Str := ["self", "token"]
theorem sc_Hand_may : FnScope N_Hand_may ["self", "token"] (defScope s_Hand_may) := ⟨rfl, rfl, rfl, by decide +kernel, rfl, by decide +kernel, by decide +kernel⟩
abbrev s_guard_of : Stmt := topS 79
abbrev N_guard_of : List Str := ["hand", "found"]
theorem sc_guard_of : FnScope N_guard_of ["hand"] (defScope s_guard_of) := ⟨rfl, rfl, rfl, by decide +kernel, rfl, by decide +kernel, by decide +kernel⟩
abbrev s_Lines_more : Stmt := inClass (topS 71) 1
abbrev N_Lines_more : List Str := ["self", "tokens"]
theorem sc_Lines_more : FnScope N_Lines_more ["self"] (defScope s_Lines_more) := ⟨rfl, rfl, rfl, by decide +kernel, rfl, by decide +kernel, by decide +kernel⟩
abbrev s_told_of : Stmt := topS 110
abbrev N_told_of : List Str := ["hand", "unit", "beat", "places"]
theorem sc_told_of : FnScope N_told_of ["hand"] (defScope s_told_of) := ⟨rfl, rfl, rfl, by decide +kernel, rfl, by decide +kernel, by decide +kernel⟩
abbrev s_is_form : Stmt := topS 15
abbrev N_is_form : List Str := ["datum", "names", "last", "term"]
theorem sc_is_form : FnScope N_is_form ["datum", "names"] (defScope s_is_form) := ⟨rfl, rfl, rfl, by decide +kernel, rfl, by decide +kernel, by decide +kernel⟩
abbrev s_are_forms : Stmt := topS 27
abbrev N_are_forms : List Str := ["datum", "names", "many", "one"]
theorem sc_are_forms : FnScope N_are_forms ["datum", "names", "many"] (defScope s_are_forms) := ⟨rfl, rfl, rfl, by decide +kernel, rfl, by decide +kernel, by decide +kernel⟩
abbrev s_place_names : Stmt := topS 38
abbrev N_place_names : List Str := ["many", "number"]
theorem sc_place_names : FnScope N_place_names ["many"] (defScope s_place_names) := ⟨rfl, rfl, rfl, by decide +kernel, rfl, by decide +kernel, by decide +kernel⟩
abbrev s_is_integer : Stmt := topS 9
abbrev N_is_integer : List Str := ["datum"]
theorem sc_is_integer : FnScope N_is_integer ["datum"] (defScope s_is_integer) := ⟨rfl, rfl, rfl, by decide +kernel, rfl, by decide +kernel, by decide +kernel⟩
abbrev s_is_wire : Stmt := topS 42
abbrev N_is_wire : List Str := ["datum", "units", "places"]
theorem sc_is_wire : FnScope N_is_wire ["datum", "units", "places"] (defScope s_is_wire) := ⟨rfl, rfl, rfl, by decide +kernel, rfl, by decide +kernel, by decide +kernel⟩
abbrev s_is_rim : Stmt := topS 41
abbrev N_is_rim : List Str := ["datum", "names", "wide", "pair", "m", "f"]
theorem sc_is_rim : FnScope N_is_rim ["datum", "names", "wide"] (defScope s_is_rim) := ⟨rfl, rfl, rfl, by decide +kernel, rfl, by decide +kernel, by decide +kernel⟩
abbrev s_is_name2 : Stmt := topS 66
abbrev N_is_name2 : List Str := ["token"]
theorem sc_is_name2 : FnScope N_is_name2 ["token"] (defScope s_is_name2) := ⟨rfl, rfl, rfl, by decide +kernel, rfl, by decide +kernel, by decide +kernel⟩
abbrev s_compared : Stmt := topS 76
abbrev N_compared : List Str := ["hand", "left", "sign", "right"]
theorem sc_compared : FnScope N_compared ["hand"] (defScope s_compared) := ⟨rfl, rfl, rfl, by decide +kernel, rfl, by decide +kernel, by decide +kernel⟩
abbrev s_Hand_opened : Stmt := inClass (topS 69) 9
abbrev N_Hand_opened : List Str := ["self"]
theorem sc_Hand_opened : FnScope N_Hand_opened ["self"] (defScope s_Hand_opened) := ⟨rfl, rfl, rfl, by decide +kernel, rfl, by decide +kernel, by decide +kernel⟩
abbrev s_Hand_shut : Stmt := inClass (topS 69) 11
abbrev N_Hand_shut : List Str := ["self", "token"]
theorem sc_Hand_shut : FnScope N_Hand_shut ["self", "token"] (defScope s_Hand_shut) := ⟨rfl, rfl, rfl, by decide +kernel, rfl, by decide +kernel, by decide +kernel⟩
abbrev s_form_of : Stmt := topS 75
abbrev N_form_of : List Str := ["hand", "pairs", "number"]
theorem sc_form_of : FnScope N_form_of ["hand"] (defScope s_form_of) := ⟨rfl, rfl, rfl, by decide +kernel, rfl, by decide +kernel, by decide +kernel⟩
abbrev s_named : Stmt := topS 70
abbrev N_named : List Str := ["hand"]
theorem sc_named : FnScope N_named ["hand"] (defScope s_named) := ⟨rfl, rfl, rfl, by decide +kernel, rfl, by decide +kernel, by decide +kernel⟩
abbrev s_pair_of : Stmt := topS 80
abbrev N_pair_of : List Str := ["hand", "low"]
theorem sc_pair_of : FnScope N_pair_of ["hand"] (defScope s_pair_of) := ⟨rfl, rfl, rfl, by decide +kernel, rfl, by decide +kernel, by decide +kernel⟩
abbrev s_signed_of : Stmt := topS 91
abbrev N_signed_of : List Str := ["hand"]
theorem sc_signed_of : FnScope N_signed_of ["hand"] (defScope s_signed_of) := ⟨rfl, rfl, rfl, by decide +kernel, rfl, by decide +kernel, by decide +kernel⟩
abbrev s_share_of : Stmt := topS 90
abbrev N_share_of : List Str := ["hand", "found"]
theorem sc_share_of : FnScope N_share_of ["hand"] (defScope s_share_of) := ⟨rfl, rfl, rfl, by decide +kernel, rfl, by decide +kernel, by decide +kernel⟩
abbrev s_Sums_term_of : Stmt := inClass (topS 89) 2
abbrev N_Sums_term_of : List Str := ["self", "hand", "found"]
theorem sc_Sums_term_of : FnScope N_Sums_term_of ["self", "hand"] (defScope s_Sums_term_of) := ⟨rfl, rfl, rfl, by decide +kernel, rfl, by decide +kernel, by decide +kernel⟩
abbrev s_test_of : Stmt := topS 78
abbrev N_test_of : List Str := ["hand", "number", "f"]
theorem sc_test_of : FnScope N_test_of ["hand"] (defScope s_test_of) := ⟨rfl, rfl, rfl, by decide +kernel, rfl, by decide +kernel, by decide +kernel⟩
abbrev s_split_line : Stmt := topS 68
abbrev N_split_line : List Str := ["line", "place", "found", "rest", "token"]
theorem sc_split_line : FnScope N_split_line ["line", "place"] (defScope s_split_line) := ⟨rfl, rfl, rfl, by decide +kernel, rfl, by decide +kernel, by decide +kernel⟩
abbrev s_Hand_init : Stmt := inClass (topS 69) 0
abbrev N_Hand_init : List Str := ["self", "tokens", "place"]
theorem sc_Hand_init : FnScope N_Hand_init ["self", "tokens", "place"] (defScope s_Hand_init) := ⟨rfl, rfl, rfl, by decide +kernel, rfl, by decide +kernel, by decide +kernel⟩
abbrev s_forms_of : Stmt := topS 95
abbrev N_forms_of : List Str := ["hand", "found"]
theorem sc_forms_of : FnScope N_forms_of ["hand"] (defScope s_forms_of) := ⟨rfl, rfl, rfl, by decide +kernel, rfl, by decide +kernel, by decide +kernel⟩
abbrev s_read_when : Stmt := topS 83
abbrev N_read_when : List Str := ["hand", "found"]
theorem sc_read_when : FnScope N_read_when ["hand"] (defScope s_read_when) := ⟨rfl, rfl, rfl, by decide +kernel, rfl, by decide +kernel, by decide +kernel⟩
abbrev s_is_name : Stmt := topS 13
abbrev N_is_name : List Str := ["datum"]
theorem sc_is_name : FnScope N_is_name ["datum"] (defScope s_is_name) := ⟨rfl, rfl, rfl, by decide +kernel, rfl, by decide +kernel, by decide +kernel⟩
abbrev s_are_integers : Stmt := topS 11
abbrev N_are_integers : List Str := ["datum", "many", "one"]
theorem sc_are_integers : FnScope N_are_integers ["datum", "many"] (defScope s_are_integers) := ⟨rfl, rfl, rfl, by decide +kernel, rfl, by decide +kernel, by decide +kernel⟩
abbrev s_minus : Stmt := topS 8
abbrev N_minus : List Str := ["f", "g"]
theorem sc_minus : FnScope N_minus ["f", "g"] (defScope s_minus) := ⟨rfl, rfl, rfl, by decide +kernel, rfl, by decide +kernel, by decide +kernel⟩
abbrev s_part : Stmt := topS 74
abbrev N_part : List Str := ["hand", "sign", "pairs", "number"]
theorem sc_part : FnScope N_part ["hand", "sign", "pairs"] (defScope s_part) := ⟨rfl, rfl, rfl, by decide +kernel, rfl, by decide +kernel, by decide +kernel⟩
abbrev s_form : Stmt := topS 5
abbrev N_form : List Str := ["number", "pairs", "sums", "name", "factor"]
theorem sc_form : FnScope N_form ["number", "pairs"] (defScope s_form) := ⟨rfl, rfl, rfl, by decide +kernel, rfl, by decide +kernel, by decide +kernel⟩
abbrev s_Hand_signed : Stmt := inClass (topS 69) 8
abbrev N_Hand_signed : List Str := ["self"]
theorem sc_Hand_signed : FnScope N_Hand_signed ["self"] (defScope s_Hand_signed) := ⟨rfl, rfl, rfl, by decide +kernel, rfl, by decide +kernel, by decide +kernel⟩
abbrev s_Hand_number : Stmt := inClass (topS 69) 7
abbrev N_Hand_number : List Str := ["self", "token"]
theorem sc_Hand_number : FnScope N_Hand_number ["self"] (defScope s_Hand_number) := ⟨rfl, rfl, rfl, by decide +kernel, rfl, by decide +kernel, by decide +kernel⟩
abbrev s_Sums_factor_of : Stmt := inClass (topS 89) 3
abbrev N_Sums_factor_of : List Str := ["self", "hand", "token"]
theorem sc_Sums_factor_of : FnScope N_Sums_factor_of ["self", "hand"] (defScope s_Sums_factor_of) := ⟨rfl, rfl, rfl, by decide +kernel, rfl, by decide +kernel, by decide +kernel⟩
abbrev s_is_number : Stmt := topS 65
abbrev N_is_number : List Str := ["token"]
theorem sc_is_number : FnScope N_is_number ["token"] (defScope s_is_number) := ⟨rfl, rfl, rfl, by decide +kernel, rfl, by decide +kernel, by decide +kernel⟩
abbrev s_head_of : Stmt := topS 64
abbrev N_head_of : List Str := ["text", "many", "sign"]
theorem sc_head_of : FnScope N_head_of ["text"] (defScope s_head_of) := ⟨rfl, rfl, rfl, by decide +kernel, rfl, by decide +kernel, by decide +kernel⟩
abbrev s_plus : Stmt := topS 6
abbrev N_plus : List Str := ["f", "g"]
theorem sc_plus : FnScope N_plus ["f", "g"] (defScope s_plus) := ⟨rfl, rfl, rfl, by decide +kernel, rfl, by decide +kernel, by decide +kernel⟩
abbrev s_times : Stmt := topS 7
abbrev N_times : List Str := ["n", "f", "name", "factor"]
theorem sc_times : FnScope N_times ["n", "f"] (defScope s_times) := ⟨rfl, rfl, rfl, by decide +kernel, rfl, by decide +kernel, by decide +kernel⟩
abbrev s_Sums_bracket_of : Stmt := inClass (topS 89) 4
abbrev N_Sums_bracket_of : List Str := ["self", "hand", "found"]
theorem sc_Sums_bracket_of : FnScope N_Sums_bracket_of ["self", "hand"] (defScope s_Sums_bracket_of) := ⟨rfl, rfl, rfl, by decide +kernel, rfl, by decide +kernel, by decide +kernel⟩
abbrev s_Sums_call_of : Stmt := inClass (topS 89) 5
abbrev N_Sums_call_of : List Str := ["self", "hand", "word", "first", "second"]
theorem sc_Sums_call_of : FnScope N_Sums_call_of ["self", "hand"] (defScope s_Sums_call_of) := ⟨rfl, rfl, rfl, by decide +kernel, rfl, by decide +kernel, by decide +kernel⟩
abbrev s_Hand_leaf : Stmt := inClass (topS 69) 10
abbrev N_Hand_leaf : List Str := ["self"]
theorem sc_Hand_leaf : FnScope N_Hand_leaf ["self"] (defScope s_Hand_leaf) := ⟨rfl, rfl, rfl, by decide +kernel, rfl, by decide +kernel, by decide +kernel⟩
abbrev s_wire_of : Stmt := topS 92
abbrev N_wire_of : List Str := ["hand", "name", "numbers"]
theorem sc_wire_of : FnScope N_wire_of ["hand"] (defScope s_wire_of) := ⟨rfl, rfl, rfl, by decide +kernel, rfl, by decide +kernel, by decide +kernel⟩
abbrev s_Sums_word_of : Stmt := inClass (topS 89) 6
abbrev N_Sums_word_of : List Str := ["self", "hand", "name"]
theorem sc_Sums_word_of : FnScope N_Sums_word_of ["self", "hand"] (defScope s_Sums_word_of) := ⟨rfl, rfl, rfl, by decide +kernel, rfl, by decide +kernel, by decide +kernel⟩
abbrev s_run_length : Stmt := topS 63
abbrev N_run_length : List Str := ["text", "signs", "many"]
theorem sc_run_length : FnScope N_run_length ["text", "signs"] (defScope s_run_length) := ⟨rfl, rfl, rfl, by decide +kernel, rfl, by decide +kernel, by decide +kernel⟩
/-- the defs of the text -/
structure Ds (K : PySem.W.Frag) (mg : Str → Option Value) : Prop where
  d__law_start : Da K mg "_law_start" "_law_start" s_law_start ["script"]
  d__law_array : Da K mg "_law_array" "_law_array" s_law_array ["lines"]
  d__law_lines : Da K mg "_law_lines" "_law_lines" s_law_lines []
  d__law_wide_lines : Da K mg "_law_wide_lines" "_law_wide_lines" s_law_wide_lines []
  d__law_deep : Da K mg "_law_deep" "_law_deep" s_law_deep ["many"]
  d_is_array_arrays : Da K mg "is_array_arrays" "is_array" s_is_array2 ["datum"]
  d__law_spoilt_heads : Da K mg "_law_spoilt_heads" "_law_spoilt_heads" s_law_spoilt_heads ["array"]
  d__law_spoilt_rows : Da K mg "_law_spoilt_rows" "_law_spoilt_rows" s_law_spoilt_rows ["array"]
  d__law_spoilt_outs : Da K mg "_law_spoilt_outs" "_law_spoilt_outs" s_law_spoilt_outs ["array"]
  d__law_one_of : Da K mg "_law_one_of" "_law_one_of" s_law_one_of ["state", "items"]
  d_read_array : Da K mg "read_array" "read_array" s_read_array ["text"]
  d_is_head : Da K mg "is_head" "is_head" s_is_head ["datum"]
  d_is_tuple : Da K mg "is_tuple" "is_tuple" s_is_tuple ["datum", "many"]
  d_is_word : Da K mg "is_word" "is_word" s_is_word ["datum"]
  d_are_together : Da K mg "are_together" "are_together" s_are_together ["names"]
  d_is_out : Da K mg "is_out" "is_out" s_is_out ["datum", "sizes", "units", "places"]
  d_units_of : Da K mg "units_of" "units_of" s_units_of ["array"]
  d__law_draw : Da K mg "_law_draw" "_law_draw" s_law_draw ["state", "most"]
  d_read_head : Da K mg "read_head" "read_head" s_read_head ["lines", "word"]
  d_read_frame : Da K mg "read_frame" "read_frame" s_read_frame ["lines", "hand"]
  d_row_of : Da K mg "row_of" "row_of" s_row_of ["hand"]
  d_read_block : Da K mg "read_block" "read_block" s_read_block ["lines", "hand", "piece_of"]
  d_told_of : Da K mg "told_of" "told_of" s_told_of ["hand"]
  d_read_makings : Da K mg "read_makings" "read_makings" s_read_makings ["lines", "hand"]
  d_is_set : Da K mg "is_set" "is_set" s_is_set ["datum", "names"]
  d_are_words : Da K mg "are_words" "are_words" s_are_words ["datum", "most"]
  d_is_array_sheets : Da K mg "is_array_sheets" "is_array" s_is_array ["datum", "sizes"]
  d_is_box : Da K mg "is_box" "is_box" s_is_box ["datum", "sizes"]
  d_cell_names : Da K mg "cell_names" "cell_names" s_cell_names ["sizes", "many"]
  d_is_condition : Da K mg "is_condition" "is_condition" s_is_condition ["datum", "names"]
  d_is_piece : Da K mg "is_piece" "is_piece" s_is_piece ["datum", "names", "units", "places"]
  d_condition_of : Da K mg "condition_of" "condition_of" s_condition_of ["hand"]
  d_pair_of : Da K mg "pair_of" "pair_of" s_pair_of ["hand"]
  d_form_line : Da K mg "form_line" "form_line" s_form_line ["hand", "word"]
  d_guard_of : Da K mg "guard_of" "guard_of" s_guard_of ["hand"]
  d_named : Da K mg "named" "named" s_named ["hand"]
  d_is_form : Da K mg "is_form" "is_form" s_is_form ["datum", "names"]
  d_are_forms : Da K mg "are_forms" "are_forms" s_are_forms ["datum", "names", "many"]
  d_place_names : Da K mg "place_names" "place_names" s_place_names ["many"]
  d_is_integer : Da K mg "is_integer" "is_integer" s_is_integer ["datum"]
  d_is_wire : Da K mg "is_wire" "is_wire" s_is_wire ["datum", "units", "places"]
  d_is_rim : Da K mg "is_rim" "is_rim" s_is_rim ["datum", "names", "wide"]
  d_is_name_tokens : Da K mg "is_name_tokens" "is_name" s_is_name2 ["token"]
  d_compared : Da K mg "compared" "compared" s_compared ["hand"]
  d_form_of : Da K mg "form_of" "form_of" s_form_of ["hand"]
  d_signed_of : Da K mg "signed_of" "signed_of" s_signed_of ["hand"]
  d_share_of : Da K mg "share_of" "share_of" s_share_of ["hand"]
  d_test_of : Da K mg "test_of" "test_of" s_test_of ["hand"]
  d_split_line : Da K mg "split_line" "split_line" s_split_line ["line", "place"]
  d_forms_of : Da K mg "forms_of" "forms_of" s_forms_of ["hand"]
  d_read_when : Da K mg "read_when" "read_when" s_read_when ["hand"]
  d_is_name_forms : Da K mg "is_name_forms" "is_name" s_is_name ["datum"]
  d_are_integers : Da K mg "are_integers" "are_integers" s_are_integers ["datum", "many"]
  d_minus : Da K mg "minus" "minus" s_minus ["f", "g"]
  d_part : Da K mg "part" "part" s_part ["hand", "sign", "pairs"]
  d_form : Da K mg "form" "form" s_form ["number", "pairs"]
  d_is_number : Da K mg "is_number" "is_number" s_is_number ["token"]
  d_head_of : Da K mg "head_of" "head_of" s_head_of ["text"]
  d_plus : Da K mg "plus" "plus" s_plus ["f", "g"]
  d_times : Da K mg "times" "times" s_times ["n", "f"]
  d_wire_of : Da K mg "wire_of" "wire_of" s_wire_of ["hand"]
  d_run_length : Da K mg "run_length" "run_length" s_run_length ["text", "signs"]
  n_Rows_init : Nd K mg "Rows" "Rows.__init__" s_Rows_init ["self", "array"]
  m_Rows_is_row_0 : Md K mg "Rows" "is_row" "Rows.is_row" s_Rows_is_row ["self", "row"] []
  n_Lines_init : Nd K mg "Lines" "Lines.__init__" s_Lines_init ["self", "text"]
  m_Hand_next_0 : Md K mg "Hand" "next" "Hand.next" s_Hand_next ["self", "further"] []
  m_Hand_next_1 : Md K mg "Hand" "next" "Hand.next" s_Hand_next ["self", "further"] [.im (.int 0)]
  m_Lines_ahead_0 : Md K mg "Lines" "ahead" "Lines.ahead" s_Lines_ahead ["self"] []
  m_Lines_finish_0 : Md K mg "Lines" "finish" "Lines.finish" s_Lines_finish ["self", "hand"] []
  m_Rows_is_expression_0 : Md K mg "Rows" "is_expression" "Rows.is_expression" s_Rows_is_expression ["self", "datum", "deep"] []
  m_Hand_must_0 : Md K mg "Hand" "must" "Hand.must" s_Hand_must ["self", "token"] []
  m_Hand_name_0 : Md K mg "Hand" "name" "Hand.name" s_Hand_name ["self"] []
  m_Hand_names_0 : Md K mg "Hand" "names" "Hand.names" s_Hand_names ["self"] []
  m_Hand_end_0 : Md K mg "Hand" "end" "Hand.end" s_Hand_end ["self"] []
  m_Hand_go_0 : Md K mg "Hand" "go" "Hand.go" s_Hand_go ["self"] []
  m_Hand_boxed_0 : Md K mg "Hand" "boxed" "Hand.boxed" s_Hand_boxed ["self", "reader"] []
  m_Hand_row_0 : Md K mg "Hand" "row" "Hand.row" s_Hand_row ["self", "reader"] []
  m_Hand_bad_0 : Md K mg "Hand" "bad" "Hand.bad" s_Hand_bad ["self"] []
  m_Sums_sum_of_0 : Md K mg "Sums" "sum_of" "Sums.sum_of" s_Sums_sum_of ["self", "hand"] []
  n_Sums_init : Nd K mg "Sums" "Sums.__init__" s_Sums_init ["self", "kind", "ins"]
  m_Hand_may_0 : Md K mg "Hand" "may" "Hand.may" s_Hand_may ["self", "token"] []
  m_Lines_more_0 : Md K mg "Lines" "more" "Lines.more" s_Lines_more ["self"] []
  m_Hand_opened_0 : Md K mg "Hand" "opened" "Hand.opened" s_Hand_opened ["self"] []
  m_Hand_shut_0 : Md K mg "Hand" "shut" "Hand.shut" s_Hand_shut ["self", "token"] []
  m_Sums_term_of_0 : Md K mg "Sums" "term_of" "Sums.term_of" s_Sums_term_of ["self", "hand"] []
  n_Hand_init : Nd K mg "Hand" "Hand.__init__" s_Hand_init ["self", "tokens", "place"]
  m_Hand_signed_0 : Md K mg "Hand" "signed" "Hand.signed" s_Hand_signed ["self"] []
  m_Hand_number_0 : Md K mg "Hand" "number" "Hand.number" s_Hand_number ["self"] []
  m_Sums_factor_of_0 : Md K mg "Sums" "factor_of" "Sums.factor_of" s_Sums_factor_of ["self", "hand"] []
  m_Sums_bracket_of_0 : Md K mg "Sums" "bracket_of" "Sums.bracket_of" s_Sums_bracket_of ["self", "hand"] []
  m_Sums_call_of_0 : Md K mg "Sums" "call_of" "Sums.call_of" s_Sums_call_of ["self", "hand"] []
  m_Hand_leaf_0 : Md K mg "Hand" "leaf" "Hand.leaf" s_Hand_leaf ["self"] []
  m_Sums_word_of_0 : Md K mg "Sums" "word_of" "Sums.word_of" s_Sums_word_of ["self", "hand"] []
end L36
namespace L36
open PySem PySem.Spec PyProof.Rows L2 PL SX
open PL (Dt)
section
variable {P : Program} {w : World} {K : PySem.W.Frag} {mg : Str → Option Value} {base : Heap} {a : Addr} {ns : List Int}
theorem F_law_start (B : Ev w K mg) (W : Ds K mg) {nm : Str} (D : Da K mg nm "_law_start" s_law_start ["script"]) : FX (TT a ns) P w K mg base 1 nm 1 x_law_start := by
  refine fx_ofA D sc_law_start rfl fun f cdv A outer s H E hr => ?_
  have hu := SX.room_hu hr
  have tk : Takes (cxOf (L2.CX P w) P w K mg base N_law_start "_law_start" (defScope s_law_start) f cdv A outer s H E) (fun cls d _ H => E cls d H) := takes_of rfl rfl rfl rfl
  exact ⟨_,
    (ss_one (ss_ret (sx_new (sh_lst (sa_cons (sx_t1 call_list_of on_listV c_listV B.m_list boot_list (sx_var 0)) (sa_cons sx_int (sa_cons sx_int (sa_cons sx_int sa_nil))))))))⟩
theorem F_Lines_init (B : Ev w K mg) (W : Ds K mg) : NX (TT a ns) P w K mg base 1 4 2 x_Lines_init := by
  refine nx_of W.n_Lines_init sc_Lines_init rfl fun f cdv A outer s H E hr => ?_
  have hu := SX.room_hu hr
  have tk : Takes (cxOf (L2.CX P w) P w K mg base N_Lines_init "Lines.__init__" (defScope s_Lines_init) f cdv A outer s H E) (fun cls d _ H => E cls d H) := takes_of rfl rfl rfl rfl
  exact ⟨_,
    (ss_cons (ss_setF (FldOk.cons B.f_Lines_lines FldOk.nil) (sx_var 0) (sx_m PySem.F.plainAttrs_str PySem.F.slot_str_split PySem.F.type_str_split mt_split om_split c_split (sx_var 1) (sa_cons sx_str sa_nil)))
  (ss_one (ss_setF (FldOk.cons B.f_Hand_at (FldOk.cons B.f_Lines_at FldOk.nil)) (sx_var 0) sx_int)))⟩
theorem F_run_length (B : Ev w K mg) (W : Ds K mg) {nm : Str} (D : Da K mg nm "run_length" s_run_length ["text", "signs"]) : FX (TT a ns) P w K mg base 1 nm 2 x_run_length := by
  refine fx_ofA D sc_run_length rfl fun f cdv A outer s H E hr => ?_
  have hu := SX.room_hu hr
  have tk : Takes (cxOf (L2.CX P w) P w K mg base N_run_length "run_length" (defScope s_run_length) f cdv A outer s H E) (fun cls d _ H => E cls d H) := takes_of rfl rfl rfl rfl
  exact ⟨_,
    (ss_cons (ss_set 2 sc_run_length.nd sx_int)
  (ss_cons (ss_while 3000 (passes_of rfl) (sw_and (st_cmp r_lt o_lt c_cmp (sx_var 2) (sx_b1 call_len on_len c_len B.m_len boot_len (sx_var 0))) (sw_and1 (st_cmp (r_in hu) (o_in false) c_in (sx_ix (r_ix hu) o_ixA c_ixA (sx_var 0) (sx_var 2)) (sx_var 1)))).pt
    (ss_one (ss_aug 2 sc_run_length.nd r_iadd o_iadd c_iadd sx_int)))
  (ss_one (ss_ret (sx_var 2)))))⟩
theorem F_is_number (B : Ev w K mg) (W : Ds K mg) {nm : Str} (D : Da K mg nm "is_number" s_is_number ["token"]) : FX (TT a ns) P w K mg base 2 nm 1 x_is_number := by
  refine fx_ofA D sc_is_number rfl fun f cdv A outer s H E hr => ?_
  have hu := SX.room_hu hr
  have tk : Takes (cxOf (L2.CX P w) P w K mg base N_is_number "is_number" (defScope s_is_number) f cdv A outer s H E) (fun cls d _ H => E cls d H) := takes_of rfl rfl rfl rfl
  exact ⟨_,
    (ss_cons (ss_if (sw_or (st_cmp (r_eqT hu) (o_eqT false) c_eqT (sx_var 0) sx_str) (sw_or (st_cmp r_lt o_lt c_cmp (sx_call (F_run_length B W W.d_run_length) tk hr (by first | decide | omega) (sa_cons (sx_var 0) (sa_cons (sx_gS B.g_DIGITS) sa_nil))) (sx_b1 call_len on_len c_len B.m_len boot_len (sx_var 0))) (sw_or1 (st_cmp r_gt o_gt c_cmp (sx_b1 call_len on_len c_len B.m_len boot_len (sx_var 0)) (sx_gI B.g_MOST_DIGITS))))).pt
    (ss_one (ss_ret sx_bl))
    ss_nil)
  (ss_one (ss_ret (sx_or (sx_cmp (r_eqT hu) (o_eqT false) c_eqT (sx_var 0) sx_str) (sx_one (sx_cmp (r_neT hu) (o_eqT true) c_eqT (sx_ix (r_ix hu) o_ixA c_ixA (sx_var 0) sx_int) sx_str))))))⟩
theorem F_head_of (B : Ev w K mg) (W : Ds K mg) {nm : Str} (D : Da K mg nm "head_of" s_head_of ["text"]) : FX (TT a ns) P w K mg base 3 nm 1 x_head_of := by
  refine fx_ofA D sc_head_of rfl fun f cdv A outer s H E hr => ?_
  have hu := SX.room_hu hr
  have tk : Takes (cxOf (L2.CX P w) P w K mg base N_head_of "head_of" (defScope s_head_of) f cdv A outer s H E) (fun cls d _ H => E cls d H) := takes_of rfl rfl rfl rfl
  exact ⟨_,
    (ss_cons (ss_if (st_cmp (r_in hu) (o_in false) c_in (sx_ix (r_ix hu) o_ixA c_ixA (sx_var 0) sx_int) (sx_gS B.g_SMALL))
    (ss_cons (ss_set 1 sc_head_of.nd (sx_call (F_run_length B W W.d_run_length) tk hr (by first | decide | omega) (sa_cons (sx_var 0) (sa_cons (sx_op r_add o_add c_add (sx_gS B.g_SMALL) (sx_gS B.g_DIGITS)) sa_nil))))
    (ss_one (ss_ret (sx_if (st_cmp r_le o_le c_cmp (sx_var 1) (sx_gI B.g_MOST_SIGNS_tokens)) (sx_slice (sx_var 0) so_none (so_some (sx_var 1))) sx_str))))
    ss_nil)
  (ss_cons (ss_if (st_cmp (r_in hu) (o_in false) c_in (sx_ix (r_ix hu) o_ixA c_ixA (sx_var 0) sx_int) (sx_gS B.g_DIGITS))
    (ss_cons (ss_set 1 sc_head_of.nd (sx_call (F_run_length B W W.d_run_length) tk hr (by first | decide | omega) (sa_cons (sx_var 0) (sa_cons (sx_op r_add o_add c_add (sx_gS B.g_SMALL) (sx_gS B.g_DIGITS)) sa_nil))))
    (ss_one (ss_ret (sx_if (st_truth (sx_call (F_is_number B W W.d_is_number) tk hr (by first | decide | omega) (sa_cons (sx_slice (sx_var 0) so_none (so_some (sx_var 1))) sa_nil))) (sx_slice (sx_var 0) so_none (so_some (sx_var 1))) sx_str))))
    ss_nil)
  (ss_cons (ss_for (passes_of rfl) (by rfl) (si_v (sx_gT B.g_SIGNS_tokens)) (sg_name 2 sc_head_of.nd)
    (ss_one (ss_if (st_truth (sx_m PySem.F.plainAttrs_str PySem.F.slot_str_startswith PySem.F.type_str_startswith mt_startswith om_start c_start (sx_var 0) (sa_cons (sx_var 2) sa_nil)))
      (ss_one (ss_ret (sx_var 2)))
      ss_nil)))
  (ss_one (ss_ret sx_str)))))⟩
theorem F_split_line (B : Ev w K mg) (W : Ds K mg) {nm : Str} (D : Da K mg nm "split_line" s_split_line ["line", "place"]) : FX (TT a ns) P w K mg base 4 nm 2 x_split_line := by
  refine fx_ofA D sc_split_line rfl fun f cdv A outer s H E hr => ?_
  have hu := SX.room_hu hr
  have tk : Takes (cxOf (L2.CX P w) P w K mg base N_split_line "split_line" (defScope s_split_line) f cdv A outer s H E) (fun cls d _ H => E cls d H) := takes_of rfl rfl rfl rfl
  exact ⟨_,
    (ss_cons (ss_set 2 sc_split_line.nd (sx_new (sh_lst sa_nil)))
  (ss_cons (ss_set 3 sc_split_line.nd (sx_m PySem.F.plainAttrs_str PySem.F.slot_str_strip PySem.F.type_str_strip mt_stripChars om_strip c_strip (sx_var 0) (sa_cons sx_str sa_nil)))
  (ss_cons (ss_while 3000 (passes_of rfl) (st_cmp (r_neT hu) (o_eqT true) c_eqT (sx_var 3) sx_str)
    (ss_cons (ss_set 4 sc_split_line.nd (sx_call (F_head_of B W W.d_head_of) tk hr (by first | decide | omega) (sa_cons (sx_var 3) sa_nil)))
    (ss_cons (ss_if (st_cmp (r_eqT hu) (o_eqT false) c_eqT (sx_var 4) sx_str)
      (ss_one s_bad)
      ss_nil)
    (ss_cons (ss_expr (sx_m PySem.F.plainAttrs_list PySem.F.slot_list_append PySem.F.type_list_append mt_append om_app c_app (sx_var 2) (sa_cons (sx_var 4) sa_nil)))
    (ss_one (ss_set 3 sc_split_line.nd (sx_m PySem.F.plainAttrs_str PySem.F.slot_str_lstrip PySem.F.type_str_lstrip mt_lstripChars om_lstrip c_lstrip (sx_slice (sx_var 3) (so_some (sx_b1 call_len on_len c_len B.m_len boot_len (sx_var 4))) so_none) (sa_cons sx_str sa_nil))))))))
  (ss_one (ss_ret (sx_var 2))))))⟩
theorem F_Hand_init (B : Ev w K mg) (W : Ds K mg) : NX (TT a ns) P w K mg base 1 3 3 x_Hand_init := by
  refine nx_of W.n_Hand_init sc_Hand_init rfl fun f cdv A outer s H E hr => ?_
  have hu := SX.room_hu hr
  have tk : Takes (cxOf (L2.CX P w) P w K mg base N_Hand_init "Hand.__init__" (defScope s_Hand_init) f cdv A outer s H E) (fun cls d _ H => E cls d H) := takes_of rfl rfl rfl rfl
  exact ⟨_,
    (ss_cons (ss_setF (FldOk.cons B.f_Hand_tokens FldOk.nil) (sx_var 0) (sx_var 1))
  (ss_cons (ss_setF (FldOk.cons B.f_Hand_place FldOk.nil) (sx_var 0) (sx_var 2))
  (ss_cons (ss_setF (FldOk.cons B.f_Hand_at (FldOk.cons B.f_Lines_at FldOk.nil)) (sx_var 0) sx_int)
  (ss_cons (ss_setF (FldOk.cons B.f_Hand_deep FldOk.nil) (sx_var 0) sx_int)
  (ss_one (ss_setF (FldOk.cons B.f_Hand_leaves FldOk.nil) (sx_var 0) sx_int))))))⟩
theorem F_Lines_more_0 (B : Ev w K mg) (W : Ds K mg) : MX (TT a ns) P w K mg base 5 4 "more" 1 [] x_Lines_more := by
  refine mx_of W.m_Lines_more_0 sc_Lines_more rfl fun f cdv A outer s H E hr => ?_
  have hu := SX.room_hu hr
  have tk : Takes (cxOf (L2.CX P w) P w K mg base N_Lines_more "Lines.more" (defScope s_Lines_more) f cdv A outer s H E) (fun cls d _ H => E cls d H) := takes_of rfl rfl rfl rfl
  exact ⟨_,
    (ss_cons (ss_while 3000 (passes_of rfl) (st_cmp r_lt o_lt c_cmp (sx_fld (FldOk.cons B.f_Hand_at (FldOk.cons B.f_Lines_at FldOk.nil)) (sx_var 0)) (sx_b1 call_len on_len c_len B.m_len boot_len (sx_fld (FldOk.cons B.f_Lines_lines FldOk.nil) (sx_var 0))))
    (ss_cons (ss_augF (FldOk.cons B.f_Hand_at (FldOk.cons B.f_Lines_at FldOk.nil)) r_iadd o_iadd c_iadd (sx_var 0) sx_int)
    (ss_cons (ss_set 1 sc_Lines_more.nd (sx_call (F_split_line B W W.d_split_line) tk hr (by first | decide | omega) (sa_cons (sx_ix (r_ix hu) o_ixA c_ixA (sx_fld (FldOk.cons B.f_Lines_lines FldOk.nil) (sx_var 0)) (sx_op op_sub o_sub c_sub (sx_fld (FldOk.cons B.f_Hand_at (FldOk.cons B.f_Lines_at FldOk.nil)) (sx_var 0)) sx_int)) (sa_cons (sx_fld (FldOk.cons B.f_Hand_at (FldOk.cons B.f_Lines_at FldOk.nil)) (sx_var 0)) sa_nil))))
    (ss_one (ss_if (st_truth (sx_var 1))
      (ss_one (ss_ret (sx_tup (sa_cons (sx_make (F_Hand_init B W) tk hr (by first | decide | omega) (sa_cons (sx_var 1) (sa_cons (sx_fld (FldOk.cons B.f_Hand_at (FldOk.cons B.f_Lines_at FldOk.nil)) (sx_var 0)) sa_nil))) sa_nil))))
      ss_nil)))))
  (ss_one (ss_ret (sx_tup sa_nil))))⟩
theorem F_Lines_ahead_0 (B : Ev w K mg) (W : Ds K mg) : MX (TT a ns) P w K mg base 6 4 "ahead" 1 [] x_Lines_ahead := by
  refine mx_of W.m_Lines_ahead_0 sc_Lines_ahead rfl fun f cdv A outer s H E hr => ?_
  have hu := SX.room_hu hr
  have tk : Takes (cxOf (L2.CX P w) P w K mg base N_Lines_ahead "Lines.ahead" (defScope s_Lines_ahead) f cdv A outer s H E) (fun cls d _ H => E cls d H) := takes_of rfl rfl rfl rfl
  exact ⟨_,
    (ss_cons (ss_set 1 sc_Lines_ahead.nd (sx_meth0 (F_Lines_more_0 B W) tk hr (by first | decide | omega) (sx_var 0)))
  (ss_cons (ss_if (st_cmp (r_eqT hu) (o_eqT false) c_eqT (sx_var 1) (sx_tup sa_nil))
    (ss_one s_bad)
    ss_nil)
  (ss_one (ss_ret (sx_ix (r_ix hu) o_ixA c_ixA (sx_var 1) sx_int)))))⟩
theorem F_Hand_next_0 (B : Ev w K mg) (W : Ds K mg) : MX (TT a ns) P w K mg base 1 3 "next" 2 [] x_Hand_next := by
  refine mx_of W.m_Hand_next_0 sc_Hand_next rfl fun f cdv A outer s H E hr => ?_
  have hu := SX.room_hu hr
  have tk : Takes (cxOf (L2.CX P w) P w K mg base N_Hand_next "Hand.next" (defScope s_Hand_next) f cdv A outer s H E) (fun cls d _ H => E cls d H) := takes_of rfl rfl rfl rfl
  exact ⟨_,
    (ss_cons (ss_set 2 sc_Hand_next.nd (sx_op r_add o_add c_add (sx_fld (FldOk.cons B.f_Hand_at (FldOk.cons B.f_Lines_at FldOk.nil)) (sx_var 0)) (sx_var 1)))
  (ss_one (ss_ret (sx_if (st_cmp r_lt o_lt c_cmp (sx_var 2) (sx_b1 call_len on_len c_len B.m_len boot_len (sx_fld (FldOk.cons B.f_Hand_tokens FldOk.nil) (sx_var 0)))) (sx_ix (r_ix hu) o_ixA c_ixA (sx_fld (FldOk.cons B.f_Hand_tokens FldOk.nil) (sx_var 0)) (sx_var 2)) sx_str))))⟩
theorem F_Hand_next_1 (B : Ev w K mg) (W : Ds K mg) : MX (TT a ns) P w K mg base 1 3 "next" 2 [.im (.int 0)] x_Hand_next := by
  refine mx_of W.m_Hand_next_1 sc_Hand_next rfl fun f cdv A outer s H E hr => ?_
  have hu := SX.room_hu hr
  have tk : Takes (cxOf (L2.CX P w) P w K mg base N_Hand_next "Hand.next" (defScope s_Hand_next) f cdv A outer s H E) (fun cls d _ H => E cls d H) := takes_of rfl rfl rfl rfl
  exact ⟨_,
    (ss_cons (ss_set 2 sc_Hand_next.nd (sx_op r_add o_add c_add (sx_fld (FldOk.cons B.f_Hand_at (FldOk.cons B.f_Lines_at FldOk.nil)) (sx_var 0)) (sx_var 1)))
  (ss_one (ss_ret (sx_if (st_cmp r_lt o_lt c_cmp (sx_var 2) (sx_b1 call_len on_len c_len B.m_len boot_len (sx_fld (FldOk.cons B.f_Hand_tokens FldOk.nil) (sx_var 0)))) (sx_ix (r_ix hu) o_ixA c_ixA (sx_fld (FldOk.cons B.f_Hand_tokens FldOk.nil) (sx_var 0)) (sx_var 2)) sx_str))))⟩
theorem F_Hand_go_0 (B : Ev w K mg) (W : Ds K mg) : MX (TT a ns) P w K mg base 2 3 "go" 1 [] x_Hand_go := by
  refine mx_of W.m_Hand_go_0 sc_Hand_go rfl fun f cdv A outer s H E hr => ?_
  have hu := SX.room_hu hr
  have tk : Takes (cxOf (L2.CX P w) P w K mg base N_Hand_go "Hand.go" (defScope s_Hand_go) f cdv A outer s H E) (fun cls d _ H => E cls d H) := takes_of rfl rfl rfl rfl
  exact ⟨_,
    (ss_cons (ss_set 1 sc_Hand_go.nd (sx_meth0 (F_Hand_next_1 B W) tk hr (by first | decide | omega) (sx_var 0)))
  (ss_cons (ss_augF (FldOk.cons B.f_Hand_at (FldOk.cons B.f_Lines_at FldOk.nil)) r_iadd o_iadd c_iadd (sx_var 0) sx_int)
  (ss_one (ss_ret (sx_var 1)))))⟩
theorem F_Hand_bad_0 (B : Ev w K mg) (W : Ds K mg) : MX (TT a ns) P w K mg base 1 3 "bad" 1 [] x_Hand_bad := by
  refine mx_of W.m_Hand_bad_0 sc_Hand_bad rfl fun f cdv A outer s H E hr => ?_
  have hu := SX.room_hu hr
  have tk : Takes (cxOf (L2.CX P w) P w K mg base N_Hand_bad "Hand.bad" (defScope s_Hand_bad) f cdv A outer s H E) (fun cls d _ H => E cls d H) := takes_of rfl rfl rfl rfl
  exact ⟨_,
    (ss_one s_bad)⟩
theorem F_Hand_must_0 (B : Ev w K mg) (W : Ds K mg) : MX (TT a ns) P w K mg base 3 3 "must" 2 [] x_Hand_must := by
  refine mx_of W.m_Hand_must_0 sc_Hand_must rfl fun f cdv A outer s H E hr => ?_
  have hu := SX.room_hu hr
  have tk : Takes (cxOf (L2.CX P w) P w K mg base N_Hand_must "Hand.must" (defScope s_Hand_must) f cdv A outer s H E) (fun cls d _ H => E cls d H) := takes_of rfl rfl rfl rfl
  exact ⟨_,
    (ss_one (ss_if (st_cmp (r_neT hu) (o_eqT true) c_eqT (sx_meth0 (F_Hand_go_0 B W) tk hr (by first | decide | omega) (sx_var 0)) (sx_var 1))
    (ss_one (ss_expr (sx_meth0 (F_Hand_bad_0 B W) tk hr (by first | decide | omega) (sx_var 0))))
    ss_nil))⟩
theorem F_is_name2 (B : Ev w K mg) (W : Ds K mg) {nm : Str} (D : Da K mg nm "is_name" s_is_name2 ["token"]) : FX (TT a ns) P w K mg base 1 nm 1 x_is_name2 := by
  refine fx_ofA D sc_is_name2 rfl fun f cdv A outer s H E hr => ?_
  have hu := SX.room_hu hr
  have tk : Takes (cxOf (L2.CX P w) P w K mg base N_is_name2 "is_name" (defScope s_is_name2) f cdv A outer s H E) (fun cls d _ H => E cls d H) := takes_of rfl rfl rfl rfl
  exact ⟨_,
    (ss_one (ss_ret (sx_and (sx_cmp (r_neT hu) (o_eqT true) c_eqT (sx_var 0) sx_str) (sx_and (sx_cmp (r_in hu) (o_in false) c_in (sx_ix (r_ix hu) o_ixA c_ixA (sx_var 0) sx_int) (sx_gS B.g_SMALL)) (sx_one (sx_cmp (r_notIn hu) (o_in true) c_in (sx_var 0) (sx_gT B.g_RESERVED_tokens)))))))⟩
theorem F_Hand_name_0 (B : Ev w K mg) (W : Ds K mg) : MX (TT a ns) P w K mg base 3 3 "name" 1 [] x_Hand_name := by
  refine mx_of W.m_Hand_name_0 sc_Hand_name rfl fun f cdv A outer s H E hr => ?_
  have hu := SX.room_hu hr
  have tk : Takes (cxOf (L2.CX P w) P w K mg base N_Hand_name "Hand.name" (defScope s_Hand_name) f cdv A outer s H E) (fun cls d _ H => E cls d H) := takes_of rfl rfl rfl rfl
  exact ⟨_,
    (ss_cons (ss_set 1 sc_Hand_name.nd (sx_meth0 (F_Hand_go_0 B W) tk hr (by first | decide | omega) (sx_var 0)))
  (ss_cons (ss_if (st_not (st_truth (sx_call (F_is_name2 B W W.d_is_name_tokens) tk hr (by first | decide | omega) (sa_cons (sx_var 1) sa_nil))))
    (ss_one (ss_expr (sx_meth0 (F_Hand_bad_0 B W) tk hr (by first | decide | omega) (sx_var 0))))
    ss_nil)
  (ss_one (ss_ret (sx_var 1)))))⟩
theorem F_Hand_may_0 (B : Ev w K mg) (W : Ds K mg) : MX (TT a ns) P w K mg base 2 3 "may" 2 [] x_Hand_may := by
  refine mx_of W.m_Hand_may_0 sc_Hand_may rfl fun f cdv A outer s H E hr => ?_
  have hu := SX.room_hu hr
  have tk : Takes (cxOf (L2.CX P w) P w K mg base N_Hand_may "Hand.may" (defScope s_Hand_may) f cdv A outer s H E) (fun cls d _ H => E cls d H) := takes_of rfl rfl rfl rfl
  exact ⟨_,
    (ss_cons (ss_if (st_cmp (r_neT hu) (o_eqT true) c_eqT (sx_meth0 (F_Hand_next_1 B W) tk hr (by first | decide | omega) (sx_var 0)) (sx_var 1))
    (ss_one (ss_ret sx_bl))
    ss_nil)
  (ss_cons (ss_augF (FldOk.cons B.f_Hand_at (FldOk.cons B.f_Lines_at FldOk.nil)) r_iadd o_iadd c_iadd (sx_var 0) sx_int)
  (ss_one (ss_ret sx_bl))))⟩
theorem F_named (B : Ev w K mg) (W : Ds K mg) {nm : Str} (D : Da K mg nm "named" s_named ["hand"]) : FX (TT a ns) P w K mg base 4 nm 1 x_named := by
  refine fx_ofA D sc_named rfl fun f cdv A outer s H E hr => ?_
  have hu := SX.room_hu hr
  have tk : Takes (cxOf (L2.CX P w) P w K mg base N_named "named" (defScope s_named) f cdv A outer s H E) (fun cls d _ H => E cls d H) := takes_of rfl rfl rfl rfl
  exact ⟨_,
    (ss_one (ss_ret (sx_meth0 (F_Hand_name_0 B W) tk hr (by first | decide | omega) (sx_var 0))))⟩
theorem F_Hand_number_0 (B : Ev w K mg) (W : Ds K mg) : MX (TT a ns) P w K mg base 3 3 "number" 1 [] x_Hand_number := by
  refine mx_of W.m_Hand_number_0 sc_Hand_number rfl fun f cdv A outer s H E hr => ?_
  have hu := SX.room_hu hr
  have tk : Takes (cxOf (L2.CX P w) P w K mg base N_Hand_number "Hand.number" (defScope s_Hand_number) f cdv A outer s H E) (fun cls d _ H => E cls d H) := takes_of rfl rfl rfl rfl
  exact ⟨_,
    (ss_cons (ss_set 1 sc_Hand_number.nd (sx_meth0 (F_Hand_go_0 B W) tk hr (by first | decide | omega) (sx_var 0)))
  (ss_cons (ss_if (st_not (st_truth (sx_call (F_is_number B W W.d_is_number) tk hr (by first | decide | omega) (sa_cons (sx_var 1) sa_nil))))
    (ss_one (ss_expr (sx_meth0 (F_Hand_bad_0 B W) tk hr (by first | decide | omega) (sx_var 0))))
    ss_nil)
  (ss_one (ss_ret (sx_t1 call_toI on_int c_int B.m_int boot_int (sx_var 1))))))⟩
theorem F_part (B : Ev w K mg) (W : Ds K mg) {nm : Str} (D : Da K mg nm "part" s_part ["hand", "sign", "pairs"]) : FX (TT a ns) P w K mg base 4 nm 3 x_part := by
  refine fx_ofA D sc_part rfl fun f cdv A outer s H E hr => ?_
  have hu := SX.room_hu hr
  have tk : Takes (cxOf (L2.CX P w) P w K mg base N_part "part" (defScope s_part) f cdv A outer s H E) (fun cls d _ H => E cls d H) := takes_of rfl rfl rfl rfl
  exact ⟨_,
    (ss_cons (ss_if (st_truth (sx_call (F_is_number B W W.d_is_number) tk hr (by first | decide | omega) (sa_cons (sx_meth0 (F_Hand_next_1 B W) tk hr (by first | decide | omega) (sx_var 0)) sa_nil)))
    (ss_cons (ss_set 3 sc_part.nd (sx_op r_mulX o_mul c_mul (sx_var 1) (sx_meth0 (F_Hand_number_0 B W) tk hr (by first | decide | omega) (sx_var 0))))
    (ss_cons (ss_if (st_not (st_truth (sx_meth (F_Hand_may_0 B W) tk hr (by first | decide | omega) (sx_var 0) (sa_cons sx_str sa_nil))))
      (ss_one (ss_ret (sx_var 3)))
      ss_nil)
    (ss_cons (ss_expr (sx_m PySem.F.plainAttrs_list PySem.F.slot_list_append PySem.F.type_list_append mt_append om_app c_app (sx_var 2) (sa_cons (sx_tup (sa_cons (sx_meth0 (F_Hand_name_0 B W) tk hr (by first | decide | omega) (sx_var 0)) (sa_cons (sx_var 3) sa_nil))) sa_nil)))
    (ss_one (ss_ret sx_int)))))
    ss_nil)
  (ss_cons (ss_expr (sx_m PySem.F.plainAttrs_list PySem.F.slot_list_append PySem.F.type_list_append mt_append om_app c_app (sx_var 2) (sa_cons (sx_tup (sa_cons (sx_meth0 (F_Hand_name_0 B W) tk hr (by first | decide | omega) (sx_var 0)) (sa_cons (sx_var 1) sa_nil))) sa_nil)))
  (ss_one (ss_ret sx_int))))⟩
theorem F_form (B : Ev w K mg) (W : Ds K mg) {nm : Str} (D : Da K mg nm "form" s_form ["number", "pairs"]) : FX (TT a ns) P w K mg base 1 nm 2 x_form := by
  refine fx_ofA D sc_form rfl fun f cdv A outer s H E hr => ?_
  have hu := SX.room_hu hr
  have tk : Takes (cxOf (L2.CX P w) P w K mg base N_form "form" (defScope s_form) f cdv A outer s H E) (fun cls d _ H => E cls d H) := takes_of rfl rfl rfl rfl
  exact ⟨_,
    (ss_cons (ss_set 2 sc_form.nd sx_dnew)
  (ss_cons (ss_for (passes_of rfl) (by rfl) (si_v (sx_var 1)) (sg_tupC (K := K) (n := 2) (by rfl) (by rfl) (sg_cons (sg_name 3 sc_form.nd) (sg_cons (sg_name 4 sc_form.nd) sg_nil)))
    (ss_one (ss_setI hu (sx_op r_add o_add c_add (sx_get2 hu (sx_var 2) (sx_var 3) sx_int) (sx_var 4)) (sx_var 2) (sx_var 3))))
  (ss_one (ss_ret (sx_tup (sa_cons (sx_var 0) (sa_cons (sx_tH call_tupleN on_tup c_tup B.m_tuple boot_tuple (sh_lc (own := [("name", 3)]) (by rfl) sc_form.nd (si_v (sx_b1 (call_sortedA rfl) on_sorted c_sorted B.m_sorted boot_sorted (sx_var 2))) (blkOk_by (own := [("name", 3)]) (N := N_form) (sc := defScope s_form) (by decide +kernel)) (fun _ _ _ _ _ => by exact (sg_name 3 sc_form.nd)) (fun _ _ _ _ _ => by exact (sts_one (st_cmp (r_neT hu) (o_eqT true) c_eqT (sx_ix (r_ix hu) o_ixA c_ixA (sx_var 2) (sx_var 3)) sx_int))) (fun _ _ _ _ _ => by exact (sx_tup (sa_cons (sx_var 3) (sa_cons (sx_ix (r_ix hu) o_ixA c_ixA (sx_var 2) (sx_var 3)) sa_nil)))))) sa_nil)))))))⟩
theorem F_form_of (B : Ev w K mg) (W : Ds K mg) {nm : Str} (D : Da K mg nm "form_of" s_form_of ["hand"]) : FX (TT a ns) P w K mg base 5 nm 1 x_form_of := by
  refine fx_ofA D sc_form_of rfl fun f cdv A outer s H E hr => ?_
  have hu := SX.room_hu hr
  have tk : Takes (cxOf (L2.CX P w) P w K mg base N_form_of "form_of" (defScope s_form_of) f cdv A outer s H E) (fun cls d _ H => E cls d H) := takes_of rfl rfl rfl rfl
  exact ⟨_,
    (ss_cons (ss_set 1 sc_form_of.nd (sx_new (sh_lst sa_nil)))
  (ss_cons (ss_set 2 sc_form_of.nd (sx_call (F_part B W W.d_part) tk hr (by first | decide | omega) (sa_cons (sx_var 0) (sa_cons (sx_if (st_truth (sx_meth (F_Hand_may_0 B W) tk hr (by first | decide | omega) (sx_var 0) (sa_cons sx_str sa_nil))) (sx_neg sx_int) sx_int) (sa_cons (sx_var 1) sa_nil)))))
  (ss_cons (ss_while 3000 (passes_of rfl) (st_cmp (r_in hu) (o_in false) c_in (sx_meth0 (F_Hand_next_1 B W) tk hr (by first | decide | omega) (sx_var 0)) (sx_tup (sa_cons sx_str (sa_cons sx_str sa_nil))))
    (ss_one (ss_aug 2 sc_form_of.nd r_iadd o_iadd c_iadd (sx_call (F_part B W W.d_part) tk hr (by first | decide | omega) (sa_cons (sx_var 0) (sa_cons (sx_if (st_cmp (r_eqT hu) (o_eqT false) c_eqT (sx_meth0 (F_Hand_go_0 B W) tk hr (by first | decide | omega) (sx_var 0)) sx_str) (sx_neg sx_int) sx_int) (sa_cons (sx_var 1) sa_nil)))))))
  (ss_one (ss_ret (sx_call (F_form B W W.d_form) tk hr (by first | decide | omega) (sa_cons (sx_var 2) (sa_cons (sx_var 1) sa_nil))))))))⟩
theorem F_pair_of (B : Ev w K mg) (W : Ds K mg) {nm : Str} (D : Da K mg nm "pair_of" s_pair_of ["hand"]) : FX (TT a ns) P w K mg base 6 nm 1 x_pair_of := by
  refine fx_ofA D sc_pair_of rfl fun f cdv A outer s H E hr => ?_
  have hu := SX.room_hu hr
  have tk : Takes (cxOf (L2.CX P w) P w K mg base N_pair_of "pair_of" (defScope s_pair_of) f cdv A outer s H E) (fun cls d _ H => E cls d H) := takes_of rfl rfl rfl rfl
  exact ⟨_,
    (ss_cons (ss_set 1 sc_pair_of.nd (sx_call (F_form_of B W W.d_form_of) tk hr (by first | decide | omega) (sa_cons (sx_var 0) sa_nil)))
  (ss_cons (ss_expr (sx_meth (F_Hand_must_0 B W) tk hr (by first | decide | omega) (sx_var 0) (sa_cons sx_str sa_nil)))
  (ss_one (ss_ret (sx_tup (sa_cons (sx_var 1) (sa_cons (sx_call (F_form_of B W W.d_form_of) tk hr (by first | decide | omega) (sa_cons (sx_var 0) sa_nil)) sa_nil)))))))⟩
theorem F_Hand_signed_0 (B : Ev w K mg) (W : Ds K mg) : MX (TT a ns) P w K mg base 4 3 "signed" 1 [] x_Hand_signed := by
  refine mx_of W.m_Hand_signed_0 sc_Hand_signed rfl fun f cdv A outer s H E hr => ?_
  have hu := SX.room_hu hr
  have tk : Takes (cxOf (L2.CX P w) P w K mg base N_Hand_signed "Hand.signed" (defScope s_Hand_signed) f cdv A outer s H E) (fun cls d _ H => E cls d H) := takes_of rfl rfl rfl rfl
  exact ⟨_,
    (ss_one (ss_ret (sx_if (st_truth (sx_meth (F_Hand_may_0 B W) tk hr (by first | decide | omega) (sx_var 0) (sa_cons sx_str sa_nil))) (sx_neg (sx_meth0 (F_Hand_number_0 B W) tk hr (by first | decide | omega) (sx_var 0))) (sx_meth0 (F_Hand_number_0 B W) tk hr (by first | decide | omega) (sx_var 0)))))⟩
theorem F_signed_of (B : Ev w K mg) (W : Ds K mg) {nm : Str} (D : Da K mg nm "signed_of" s_signed_of ["hand"]) : FX (TT a ns) P w K mg base 5 nm 1 x_signed_of := by
  refine fx_ofA D sc_signed_of rfl fun f cdv A outer s H E hr => ?_
  have hu := SX.room_hu hr
  have tk : Takes (cxOf (L2.CX P w) P w K mg base N_signed_of "signed_of" (defScope s_signed_of) f cdv A outer s H E) (fun cls d _ H => E cls d H) := takes_of rfl rfl rfl rfl
  exact ⟨_,
    (ss_one (ss_ret (sx_meth0 (F_Hand_signed_0 B W) tk hr (by first | decide | omega) (sx_var 0))))⟩
theorem F_Hand_opened_0 (B : Ev w K mg) (W : Ds K mg) : MX (TT a ns) P w K mg base 2 3 "opened" 1 [] x_Hand_opened := by
  refine mx_of W.m_Hand_opened_0 sc_Hand_opened rfl fun f cdv A outer s H E hr => ?_
  have hu := SX.room_hu hr
  have tk : Takes (cxOf (L2.CX P w) P w K mg base N_Hand_opened "Hand.opened" (defScope s_Hand_opened) f cdv A outer s H E) (fun cls d _ H => E cls d H) := takes_of rfl rfl rfl rfl
  exact ⟨_,
    (ss_cons (ss_augF (FldOk.cons B.f_Hand_deep FldOk.nil) r_iadd o_iadd c_iadd (sx_var 0) sx_int)
  (ss_one (ss_if (st_cmp r_gt o_gt c_cmp (sx_fld (FldOk.cons B.f_Hand_deep FldOk.nil) (sx_var 0)) (sx_gI B.g_MOST_DEEP))
    (ss_one (ss_expr (sx_meth0 (F_Hand_bad_0 B W) tk hr (by first | decide | omega) (sx_var 0))))
    ss_nil)))⟩
theorem F_Hand_shut_0 (B : Ev w K mg) (W : Ds K mg) : MX (TT a ns) P w K mg base 4 3 "shut" 2 [] x_Hand_shut := by
  refine mx_of W.m_Hand_shut_0 sc_Hand_shut rfl fun f cdv A outer s H E hr => ?_
  have hu := SX.room_hu hr
  have tk : Takes (cxOf (L2.CX P w) P w K mg base N_Hand_shut "Hand.shut" (defScope s_Hand_shut) f cdv A outer s H E) (fun cls d _ H => E cls d H) := takes_of rfl rfl rfl rfl
  exact ⟨_,
    (ss_cons (ss_augF (FldOk.cons B.f_Hand_deep FldOk.nil) iop_sub o_sub c_sub (sx_var 0) sx_int)
  (ss_one (ss_expr (sx_meth (F_Hand_must_0 B W) tk hr (by first | decide | omega) (sx_var 0) (sa_cons (sx_var 1) sa_nil)))))⟩
theorem F_share_of (B : Ev w K mg) (W : Ds K mg) {nm : Str} (D : Da K mg nm "share_of" s_share_of ["hand"]) : FX (TT a ns) P w K mg base 6 nm 1 x_share_of := by
  refine fx_ofA D sc_share_of rfl fun f cdv A outer s H E hr => ?_
  have hu := SX.room_hu hr
  have tk : Takes (cxOf (L2.CX P w) P w K mg base N_share_of "share_of" (defScope s_share_of) f cdv A outer s H E) (fun cls d _ H => E cls d H) := takes_of rfl rfl rfl rfl
  exact ⟨_,
    (ss_cons (ss_if (st_not (st_truth (sx_meth (F_Hand_may_0 B W) tk hr (by first | decide | omega) (sx_var 0) (sa_cons sx_str sa_nil))))
    (ss_one (ss_ret (sx_tup (sa_cons sx_int (sa_cons (sx_call (F_form_of B W W.d_form_of) tk hr (by first | decide | omega) (sa_cons (sx_var 0) sa_nil)) sa_nil)))))
    ss_nil)
  (ss_cons (ss_expr (sx_meth0 (F_Hand_opened_0 B W) tk hr (by first | decide | omega) (sx_var 0)))
  (ss_cons (ss_set 1 sc_share_of.nd (sx_call (F_form_of B W W.d_form_of) tk hr (by first | decide | omega) (sa_cons (sx_var 0) sa_nil)))
  (ss_cons (ss_expr (sx_meth (F_Hand_shut_0 B W) tk hr (by first | decide | omega) (sx_var 0) (sa_cons sx_str sa_nil)))
  (ss_cons (ss_expr (sx_meth (F_Hand_must_0 B W) tk hr (by first | decide | omega) (sx_var 0) (sa_cons sx_str sa_nil)))
  (ss_one (ss_ret (sx_tup (sa_cons (sx_meth0 (F_Hand_number_0 B W) tk hr (by first | decide | omega) (sx_var 0)) (sa_cons (sx_var 1) sa_nil))))))))))⟩
theorem F_tb_Hand_row_reader (B : Ev w K mg) (W : Ds K mg) : ∀ i n xf, tb_Hand_row_reader i = some (n, xf) → FX (TT a ns) P w K mg base 6 ((TT a ns).FN i) n xf := fun i n xf h => by
  unfold tb_Hand_row_reader at h
  split at h
  · cases h; exact (F_named B W W.d_named).mono (by decide)
  · cases h; exact (F_form_of B W W.d_form_of).mono (by decide)
  · cases h; exact (F_pair_of B W W.d_pair_of).mono (by decide)
  · cases h; exact (F_signed_of B W W.d_signed_of).mono (by decide)
  · cases h; exact (F_share_of B W W.d_share_of).mono (by decide)
  · cases h
theorem F_Hand_row_0 (B : Ev w K mg) (W : Ds K mg) : MX (TT a ns) P w K mg base 7 3 "row" 2 [] x_Hand_row := by
  refine mx_of W.m_Hand_row_0 sc_Hand_row rfl fun f cdv A outer s H E hr => ?_
  have hu := SX.room_hu hr
  have tk : Takes (cxOf (L2.CX P w) P w K mg base N_Hand_row "Hand.row" (defScope s_Hand_row) f cdv A outer s H E) (fun cls d _ H => E cls d H) := takes_of rfl rfl rfl rfl
  exact ⟨_,
    (ss_cons (ss_set 2 sc_Hand_row.nd (sx_new (sh_lst (sa_cons (sx_callV (F_tb_Hand_row_reader B W) tk hr (by first | decide | omega) (sx_var 1) (sa_cons (sx_var 0) sa_nil)) sa_nil))))
  (ss_cons (ss_while 3000 (passes_of rfl) (st_truth (sx_meth (F_Hand_may_0 B W) tk hr (by first | decide | omega) (sx_var 0) (sa_cons sx_str sa_nil)))
    (ss_one (ss_expr (sx_m PySem.F.plainAttrs_list PySem.F.slot_list_append PySem.F.type_list_append mt_append om_app c_app (sx_var 2) (sa_cons (sx_callV (F_tb_Hand_row_reader B W) tk hr (by first | decide | omega) (sx_var 1) (sa_cons (sx_var 0) sa_nil)) sa_nil)))))
  (ss_one (ss_ret (sx_var 2)))))⟩
theorem F_Hand_names_0 (B : Ev w K mg) (W : Ds K mg) : MX (TT a ns) P w K mg base 8 3 "names" 1 [] x_Hand_names := by
  refine mx_of W.m_Hand_names_0 sc_Hand_names rfl fun f cdv A outer s H E hr => ?_
  have hu := SX.room_hu hr
  have tk : Takes (cxOf (L2.CX P w) P w K mg base N_Hand_names "Hand.names" (defScope s_Hand_names) f cdv A outer s H E) (fun cls d _ H => E cls d H) := takes_of rfl rfl rfl rfl
  exact ⟨_,
    (ss_cons (ss_expr (sx_meth (F_Hand_must_0 B W) tk hr (by first | decide | omega) (sx_var 0) (sa_cons sx_str sa_nil)))
  (ss_cons (ss_if (st_truth (sx_meth (F_Hand_may_0 B W) tk hr (by first | decide | omega) (sx_var 0) (sa_cons sx_str sa_nil)))
    (ss_one (ss_ret (sx_tup sa_nil)))
    ss_nil)
  (ss_cons (ss_set 1 sc_Hand_names.nd (sx_meth (F_Hand_row_0 B W) tk hr (by first | decide | omega) (sx_var 0) (sa_cons (sx_fnA 33 W.d_named.mg) sa_nil)))
  (ss_cons (ss_expr (sx_meth (F_Hand_must_0 B W) tk hr (by first | decide | omega) (sx_var 0) (sa_cons sx_str sa_nil)))
  (ss_one (ss_ret (sx_t1 call_tupleN on_tupV c_tupV B.m_tuple boot_tuple (sx_var 1))))))))⟩
theorem F_Hand_end_0 (B : Ev w K mg) (W : Ds K mg) : MX (TT a ns) P w K mg base 2 3 "end" 1 [] x_Hand_end := by
  refine mx_of W.m_Hand_end_0 sc_Hand_end rfl fun f cdv A outer s H E hr => ?_
  have hu := SX.room_hu hr
  have tk : Takes (cxOf (L2.CX P w) P w K mg base N_Hand_end "Hand.end" (defScope s_Hand_end) f cdv A outer s H E) (fun cls d _ H => E cls d H) := takes_of rfl rfl rfl rfl
  exact ⟨_,
    (ss_one (ss_if (st_cmp r_lt o_lt c_cmp (sx_fld (FldOk.cons B.f_Hand_at (FldOk.cons B.f_Lines_at FldOk.nil)) (sx_var 0)) (sx_b1 call_len on_len c_len B.m_len boot_len (sx_fld (FldOk.cons B.f_Hand_tokens FldOk.nil) (sx_var 0))))
    (ss_one (ss_expr (sx_meth0 (F_Hand_bad_0 B W) tk hr (by first | decide | omega) (sx_var 0))))
    ss_nil))⟩
theorem F_plus (B : Ev w K mg) (W : Ds K mg) {nm : Str} (D : Da K mg nm "plus" s_plus ["f", "g"]) : FX (TT a ns) P w K mg base 2 nm 2 x_plus := by
  refine fx_ofA D sc_plus rfl fun f cdv A outer s H E hr => ?_
  have hu := SX.room_hu hr
  have tk : Takes (cxOf (L2.CX P w) P w K mg base N_plus "plus" (defScope s_plus) f cdv A outer s H E) (fun cls d _ H => E cls d H) := takes_of rfl rfl rfl rfl
  exact ⟨_,
    (ss_one (ss_ret (sx_call (F_form B W W.d_form) tk hr (by first | decide | omega) (sa_cons (sx_op r_add o_add c_add (sx_ix (r_ix hu) o_ixA c_ixA (sx_var 0) sx_int) (sx_ix (r_ix hu) o_ixA c_ixA (sx_var 1) sx_int)) (sa_cons (sx_op r_add o_add c_add (sx_ix (r_ix hu) o_ixA c_ixA (sx_var 0) sx_int) (sx_ix (r_ix hu) o_ixA c_ixA (sx_var 1) sx_int)) sa_nil)))))⟩
theorem F_times (B : Ev w K mg) (W : Ds K mg) {nm : Str} (D : Da K mg nm "times" s_times ["n", "f"]) : FX (TT a ns) P w K mg base 1 nm 2 x_times := by
  refine fx_ofA D sc_times rfl fun f cdv A outer s H E hr => ?_
  have hu := SX.room_hu hr
  have tk : Takes (cxOf (L2.CX P w) P w K mg base N_times "times" (defScope s_times) f cdv A outer s H E) (fun cls d _ H => E cls d H) := takes_of rfl rfl rfl rfl
  exact ⟨_,
    (ss_cons (ss_if (st_cmp (r_eqT hu) (o_eqT false) c_eqT (sx_var 0) sx_int)
    (ss_one (ss_ret (sx_gT B.g_ZERO)))
    ss_nil)
  (ss_one (ss_ret (sx_tup (sa_cons (sx_op r_mulX o_mul c_mul (sx_var 0) (sx_ix (r_ix hu) o_ixA c_ixA (sx_var 1) sx_int)) (sa_cons (sx_tH call_tupleN on_tup c_tup B.m_tuple boot_tuple (sh_lc (own := [("name", 2), ("factor", 3)]) (by rfl) sc_times.nd (si_v (sx_ix (r_ix hu) o_ixA c_ixA (sx_var 1) sx_int)) (blkOk_by (own := [("name", 2), ("factor", 3)]) (N := N_times) (sc := defScope s_times) (by decide +kernel)) (fun _ _ _ _ _ => by exact (sg_tupC (K := K) (n := 2) (by rfl) (by rfl) (sg_cons (sg_name 2 sc_times.nd) (sg_cons (sg_name 3 sc_times.nd) sg_nil)))) (fun _ _ _ _ _ => by exact sts_nil) (fun _ _ _ _ _ => by exact (sx_tup (sa_cons (sx_var 2) (sa_cons (sx_op r_mulX o_mul c_mul (sx_var 0) (sx_var 3)) sa_nil)))))) sa_nil))))))⟩
theorem F_minus (B : Ev w K mg) (W : Ds K mg) {nm : Str} (D : Da K mg nm "minus" s_minus ["f", "g"]) : FX (TT a ns) P w K mg base 3 nm 2 x_minus := by
  refine fx_ofA D sc_minus rfl fun f cdv A outer s H E hr => ?_
  have hu := SX.room_hu hr
  have tk : Takes (cxOf (L2.CX P w) P w K mg base N_minus "minus" (defScope s_minus) f cdv A outer s H E) (fun cls d _ H => E cls d H) := takes_of rfl rfl rfl rfl
  exact ⟨_,
    (ss_one (ss_ret (sx_call (F_plus B W W.d_plus) tk hr (by first | decide | omega) (sa_cons (sx_var 0) (sa_cons (sx_call (F_times B W W.d_times) tk hr (by first | decide | omega) (sa_cons (sx_neg sx_int) (sa_cons (sx_var 1) sa_nil))) sa_nil)))))⟩
theorem F_compared (B : Ev w K mg) (W : Ds K mg) {nm : Str} (D : Da K mg nm "compared" s_compared ["hand"]) : FX (TT a ns) P w K mg base 6 nm 1 x_compared := by
  refine fx_ofA D sc_compared rfl fun f cdv A outer s H E hr => ?_
  have hu := SX.room_hu hr
  have tk : Takes (cxOf (L2.CX P w) P w K mg base N_compared "compared" (defScope s_compared) f cdv A outer s H E) (fun cls d _ H => E cls d H) := takes_of rfl rfl rfl rfl
  exact ⟨_,
    (ss_cons (ss_set 1 sc_compared.nd (sx_call (F_form_of B W W.d_form_of) tk hr (by first | decide | omega) (sa_cons (sx_var 0) sa_nil)))
  (ss_cons (ss_set 2 sc_compared.nd (sx_meth0 (F_Hand_go_0 B W) tk hr (by first | decide | omega) (sx_var 0)))
  (ss_cons (ss_set 3 sc_compared.nd (sx_call (F_form_of B W W.d_form_of) tk hr (by first | decide | omega) (sa_cons (sx_var 0) sa_nil)))
  (ss_cons (ss_if (st_cmp (r_eqT hu) (o_eqT false) c_eqT (sx_var 2) sx_str)
    (ss_one (ss_ret (sx_tup (sa_cons (sx_call (F_minus B W W.d_minus) tk hr (by first | decide | omega) (sa_cons (sx_var 1) (sa_cons (sx_var 3) sa_nil))) sa_nil))))
    ss_nil)
  (ss_cons (ss_if (st_cmp (r_eqT hu) (o_eqT false) c_eqT (sx_var 2) sx_str)
    (ss_one (ss_ret (sx_tup (sa_cons (sx_call (F_minus B W W.d_minus) tk hr (by first | decide | omega) (sa_cons (sx_var 3) (sa_cons (sx_var 1) sa_nil))) sa_nil))))
    ss_nil)
  (ss_cons (ss_if (st_cmp (r_eqT hu) (o_eqT false) c_eqT (sx_var 2) sx_str)
    (ss_one (ss_ret (sx_tup (sa_cons (sx_call (F_minus B W W.d_minus) tk hr (by first | decide | omega) (sa_cons (sx_call (F_minus B W W.d_minus) tk hr (by first | decide | omega) (sa_cons (sx_var 1) (sa_cons (sx_var 3) sa_nil))) (sa_cons (sx_gT B.g_ONE) sa_nil))) sa_nil))))
    ss_nil)
  (ss_cons (ss_if (st_cmp (r_eqT hu) (o_eqT false) c_eqT (sx_var 2) sx_str)
    (ss_one (ss_ret (sx_tup (sa_cons (sx_call (F_minus B W W.d_minus) tk hr (by first | decide | omega) (sa_cons (sx_call (F_minus B W W.d_minus) tk hr (by first | decide | omega) (sa_cons (sx_var 3) (sa_cons (sx_var 1) sa_nil))) (sa_cons (sx_gT B.g_ONE) sa_nil))) sa_nil))))
    ss_nil)
  (ss_cons (ss_if (st_cmp (r_neT hu) (o_eqT true) c_eqT (sx_var 2) sx_str)
    (ss_one (ss_expr (sx_meth0 (F_Hand_bad_0 B W) tk hr (by first | decide | omega) (sx_var 0))))
    ss_nil)
  (ss_one (ss_ret (sx_tup (sa_cons (sx_call (F_minus B W W.d_minus) tk hr (by first | decide | omega) (sa_cons (sx_var 1) (sa_cons (sx_var 3) sa_nil))) (sa_cons (sx_call (F_minus B W W.d_minus) tk hr (by first | decide | omega) (sa_cons (sx_var 3) (sa_cons (sx_var 1) sa_nil))) sa_nil)))))))))))))⟩
theorem F_condition_of (B : Ev w K mg) (W : Ds K mg) {nm : Str} (D : Da K mg nm "condition_of" s_condition_of ["hand"]) : FX (TT a ns) P w K mg base 7 nm 1 x_condition_of := by
  refine fx_ofA D sc_condition_of rfl fun f cdv A outer s H E hr => ?_
  have hu := SX.room_hu hr
  have tk : Takes (cxOf (L2.CX P w) P w K mg base N_condition_of "condition_of" (defScope s_condition_of) f cdv A outer s H E) (fun cls d _ H => E cls d H) := takes_of rfl rfl rfl rfl
  exact ⟨_,
    (ss_cons (ss_set 1 sc_condition_of.nd (sx_call (F_compared B W W.d_compared) tk hr (by first | decide | omega) (sa_cons (sx_var 0) sa_nil)))
  (ss_cons (ss_while 3000 (passes_of rfl) (st_truth (sx_meth (F_Hand_may_0 B W) tk hr (by first | decide | omega) (sx_var 0) (sa_cons sx_str sa_nil)))
    (ss_one (ss_set 1 sc_condition_of.nd (sx_op r_add o_add c_add (sx_var 1) (sx_call (F_compared B W W.d_compared) tk hr (by first | decide | omega) (sa_cons (sx_var 0) sa_nil))))))
  (ss_one (ss_ret (sx_var 1)))))⟩
theorem F_Hand_boxed_0 (B : Ev w K mg) (W : Ds K mg) : MX (TT a ns) P w K mg base 8 3 "boxed" 2 [] x_Hand_boxed := by
  refine mx_of W.m_Hand_boxed_0 sc_Hand_boxed rfl fun f cdv A outer s H E hr => ?_
  have hu := SX.room_hu hr
  have tk : Takes (cxOf (L2.CX P w) P w K mg base N_Hand_boxed "Hand.boxed" (defScope s_Hand_boxed) f cdv A outer s H E) (fun cls d _ H => E cls d H) := takes_of rfl rfl rfl rfl
  exact ⟨_,
    (ss_cons (ss_if (st_not (st_truth (sx_meth (F_Hand_may_0 B W) tk hr (by first | decide | omega) (sx_var 0) (sa_cons sx_str sa_nil))))
    (ss_one (ss_ret (sx_tup sa_nil)))
    ss_nil)
  (ss_cons (ss_expr (sx_meth0 (F_Hand_opened_0 B W) tk hr (by first | decide | omega) (sx_var 0)))
  (ss_cons (ss_set 2 sc_Hand_boxed.nd (sx_meth (F_Hand_row_0 B W) tk hr (by first | decide | omega) (sx_var 0) (sa_cons (sx_var 1) sa_nil)))
  (ss_cons (ss_expr (sx_meth (F_Hand_shut_0 B W) tk hr (by first | decide | omega) (sx_var 0) (sa_cons sx_str sa_nil)))
  (ss_one (ss_ret (sx_t1 call_tupleN on_tupV c_tupV B.m_tuple boot_tuple (sx_var 2))))))))⟩
theorem F_read_head (B : Ev w K mg) (W : Ds K mg) {nm : Str} (D : Da K mg nm "read_head" s_read_head ["lines", "word"]) : FX (TT a ns) P w K mg base 9 nm 2 x_read_head := by
  refine fx_ofA D sc_read_head rfl fun f cdv A outer s H E hr => ?_
  have hu := SX.room_hu hr
  have tk : Takes (cxOf (L2.CX P w) P w K mg base N_read_head "read_head" (defScope s_read_head) f cdv A outer s H E) (fun cls d _ H => E cls d H) := takes_of rfl rfl rfl rfl
  exact ⟨_,
    (ss_cons (ss_set 2 sc_read_head.nd (sx_meth0 (F_Lines_ahead_0 B W) tk hr (by first | decide | omega) (sx_var 0)))
  (ss_cons (ss_expr (sx_meth (F_Hand_must_0 B W) tk hr (by first | decide | omega) (sx_var 2) (sa_cons (sx_var 1) sa_nil)))
  (ss_cons (ss_set 3 sc_read_head.nd (sx_meth0 (F_Hand_name_0 B W) tk hr (by first | decide | omega) (sx_var 2)))
  (ss_cons (ss_set 4 sc_read_head.nd (sx_meth0 (F_Hand_names_0 B W) tk hr (by first | decide | omega) (sx_var 2)))
  (ss_cons (ss_expr (sx_meth0 (F_Hand_end_0 B W) tk hr (by first | decide | omega) (sx_var 2)))
  (ss_cons (ss_set 5 sc_read_head.nd (sx_tup sa_nil))
  (ss_cons (ss_set 6 sc_read_head.nd (sx_new (sh_lst sa_nil)))
  (ss_cons (ss_set 2 sc_read_head.nd (sx_meth0 (F_Lines_ahead_0 B W) tk hr (by first | decide | omega) (sx_var 0)))
  (ss_cons (ss_while 3000 (passes_of rfl) (st_cmp (r_in hu) (o_in false) c_in (sx_meth0 (F_Hand_next_1 B W) tk hr (by first | decide | omega) (sx_var 2)) (sx_tup (sa_cons sx_str (sa_cons sx_str sa_nil))))
    (ss_cons (ss_if (st_cmp (r_eqT hu) (o_eqT false) c_eqT (sx_meth0 (F_Hand_go_0 B W) tk hr (by first | decide | omega) (sx_var 2)) sx_str)
      (ss_one (ss_set 5 sc_read_head.nd (sx_op r_add o_add c_add (sx_var 5) (sx_call (F_condition_of B W W.d_condition_of) tk hr (by first | decide | omega) (sa_cons (sx_var 2) sa_nil)))))
      (ss_one (ss_expr (sx_m PySem.F.plainAttrs_list PySem.F.slot_list_append PySem.F.type_list_append mt_append om_app c_app (sx_var 6) (sa_cons (sx_tup (sa_cons (sx_meth0 (F_Hand_name_0 B W) tk hr (by first | decide | omega) (sx_var 2)) (sa_cons (sx_meth (F_Hand_boxed_0 B W) tk hr (by first | decide | omega) (sx_var 2) (sa_cons (sx_fnA 40 W.d_pair_of.mg) sa_nil)) sa_nil))) sa_nil)))))
    (ss_cons (ss_expr (sx_meth0 (F_Hand_end_0 B W) tk hr (by first | decide | omega) (sx_var 2)))
    (ss_one (ss_set 2 sc_read_head.nd (sx_meth0 (F_Lines_ahead_0 B W) tk hr (by first | decide | omega) (sx_var 0)))))))
  (ss_one (ss_ret (sx_tup (sa_cons (sx_tup (sa_cons (sx_var 3) (sa_cons (sx_var 4) (sa_cons (sx_var 5) (sa_cons (sx_t1 call_tupleN on_tupV c_tupV B.m_tuple boot_tuple (sx_var 6)) sa_nil))))) (sa_cons (sx_var 2) sa_nil))))))))))))))⟩
theorem F_form_line (B : Ev w K mg) (W : Ds K mg) {nm : Str} (D : Da K mg nm "form_line" s_form_line ["hand", "word"]) : FX (TT a ns) P w K mg base 6 nm 2 x_form_line := by
  refine fx_ofA D sc_form_line rfl fun f cdv A outer s H E hr => ?_
  have hu := SX.room_hu hr
  have tk : Takes (cxOf (L2.CX P w) P w K mg base N_form_line "form_line" (defScope s_form_line) f cdv A outer s H E) (fun cls d _ H => E cls d H) := takes_of rfl rfl rfl rfl
  exact ⟨_,
    (ss_cons (ss_expr (sx_meth (F_Hand_must_0 B W) tk hr (by first | decide | omega) (sx_var 0) (sa_cons (sx_var 1) sa_nil)))
  (ss_cons (ss_set 2 sc_form_line.nd (sx_call (F_form_of B W W.d_form_of) tk hr (by first | decide | omega) (sa_cons (sx_var 0) sa_nil)))
  (ss_cons (ss_expr (sx_meth0 (F_Hand_end_0 B W) tk hr (by first | decide | omega) (sx_var 0)))
  (ss_one (ss_ret (sx_var 2))))))⟩
theorem F_read_frame (B : Ev w K mg) (W : Ds K mg) {nm : Str} (D : Da K mg nm "read_frame" s_read_frame ["lines", "hand"]) : FX (TT a ns) P w K mg base 8 nm 2 x_read_frame := by
  refine fx_ofA D sc_read_frame rfl fun f cdv A outer s H E hr => ?_
  have hu := SX.room_hu hr
  have tk : Takes (cxOf (L2.CX P w) P w K mg base N_read_frame "read_frame" (defScope s_read_frame) f cdv A outer s H E) (fun cls d _ H => E cls d H) := takes_of rfl rfl rfl rfl
  exact ⟨_,
    (ss_cons (ss_set 2 sc_read_frame.nd (sx_call (F_form_line B W W.d_form_line) tk hr (by first | decide | omega) (sa_cons (sx_var 1) (sa_cons sx_str sa_nil))))
  (ss_cons (ss_set 3 sc_read_frame.nd (sx_call (F_form_line B W W.d_form_line) tk hr (by first | decide | omega) (sa_cons (sx_meth0 (F_Lines_ahead_0 B W) tk hr (by first | decide | omega) (sx_var 0)) (sa_cons sx_str sa_nil))))
  (ss_cons (ss_set 1 sc_read_frame.nd (sx_meth0 (F_Lines_ahead_0 B W) tk hr (by first | decide | omega) (sx_var 0)))
  (ss_cons (ss_expr (sx_meth (F_Hand_must_0 B W) tk hr (by first | decide | omega) (sx_var 1) (sa_cons sx_str sa_nil)))
  (ss_cons (ss_set 4 sc_read_frame.nd (sx_t1 call_tupleN on_tupV c_tupV B.m_tuple boot_tuple (sx_meth (F_Hand_row_0 B W) tk hr (by first | decide | omega) (sx_var 1) (sa_cons (sx_fnA 40 W.d_pair_of.mg) sa_nil))))
  (ss_cons (ss_if (st_cmp r_gt o_gt c_cmp (sx_b1 call_len on_len c_len B.m_len boot_len (sx_var 4)) sx_int)
    (ss_one (ss_expr (sx_meth0 (F_Hand_bad_0 B W) tk hr (by first | decide | omega) (sx_var 1))))
    ss_nil)
  (ss_cons (ss_expr (sx_meth0 (F_Hand_end_0 B W) tk hr (by first | decide | omega) (sx_var 1)))
  (ss_one (ss_ret (sx_tup (sa_cons (sx_tup (sa_cons (sx_var 2) (sa_cons (sx_var 3) (sa_cons (sx_var 4) sa_nil)))) (sa_cons (sx_meth0 (F_Lines_ahead_0 B W) tk hr (by first | decide | omega) (sx_var 0)) sa_nil))))))))))))⟩
theorem F_Hand_leaf_0 (B : Ev w K mg) (W : Ds K mg) : MX (TT a ns) P w K mg base 2 3 "leaf" 1 [] x_Hand_leaf := by
  refine mx_of W.m_Hand_leaf_0 sc_Hand_leaf rfl fun f cdv A outer s H E hr => ?_
  have hu := SX.room_hu hr
  have tk : Takes (cxOf (L2.CX P w) P w K mg base N_Hand_leaf "Hand.leaf" (defScope s_Hand_leaf) f cdv A outer s H E) (fun cls d _ H => E cls d H) := takes_of rfl rfl rfl rfl
  exact ⟨_,
    (ss_cons (ss_augF (FldOk.cons B.f_Hand_leaves FldOk.nil) r_iadd o_iadd c_iadd (sx_var 0) sx_int)
  (ss_one (ss_if (st_cmp r_gt o_gt c_cmp (sx_fld (FldOk.cons B.f_Hand_leaves FldOk.nil) (sx_var 0)) (sx_gI B.g_MOST_LEAVES))
    (ss_one (ss_expr (sx_meth0 (F_Hand_bad_0 B W) tk hr (by first | decide | omega) (sx_var 0))))
    ss_nil)))⟩
theorem F_wire_of (B : Ev w K mg) (W : Ds K mg) {nm : Str} (D : Da K mg nm "wire_of" s_wire_of ["hand"]) : FX (TT a ns) P w K mg base 8 nm 1 x_wire_of := by
  refine fx_ofA D sc_wire_of rfl fun f cdv A outer s H E hr => ?_
  have hu := SX.room_hu hr
  have tk : Takes (cxOf (L2.CX P w) P w K mg base N_wire_of "wire_of" (defScope s_wire_of) f cdv A outer s H E) (fun cls d _ H => E cls d H) := takes_of rfl rfl rfl rfl
  exact ⟨_,
    (ss_cons (ss_expr (sx_meth (F_Hand_must_0 B W) tk hr (by first | decide | omega) (sx_var 0) (sa_cons sx_str sa_nil)))
  (ss_cons (ss_expr (sx_meth (F_Hand_must_0 B W) tk hr (by first | decide | omega) (sx_var 0) (sa_cons sx_str sa_nil)))
  (ss_cons (ss_expr (sx_meth0 (F_Hand_opened_0 B W) tk hr (by first | decide | omega) (sx_var 0)))
  (ss_cons (ss_set 1 sc_wire_of.nd (sx_meth0 (F_Hand_name_0 B W) tk hr (by first | decide | omega) (sx_var 0)))
  (ss_cons (ss_expr (sx_meth (F_Hand_must_0 B W) tk hr (by first | decide | omega) (sx_var 0) (sa_cons sx_str sa_nil)))
  (ss_cons (ss_set 2 sc_wire_of.nd (sx_meth (F_Hand_row_0 B W) tk hr (by first | decide | omega) (sx_var 0) (sa_cons (sx_fnA 45 W.d_signed_of.mg) sa_nil)))
  (ss_cons (ss_expr (sx_meth (F_Hand_shut_0 B W) tk hr (by first | decide | omega) (sx_var 0) (sa_cons sx_str sa_nil)))
  (ss_cons (ss_if (st_cmp (r_notIn hu) (o_in true) c_in (sx_b1 call_len on_len c_len B.m_len boot_len (sx_var 2)) (sx_tup (sa_cons sx_int (sa_cons sx_int sa_nil))))
    (ss_one (ss_expr (sx_meth0 (F_Hand_bad_0 B W) tk hr (by first | decide | omega) (sx_var 0))))
    ss_nil)
  (ss_one (ss_ret (sx_tup (sa_cons sx_str (sa_cons (sx_var 1) (sa_cons (sx_t1 call_tupleN on_tupV c_tupV B.m_tuple boot_tuple (sx_slice (sx_var 2) so_none (so_some (sx_neg sx_int)))) (sa_cons (sx_ix (r_ix hu) o_ixA c_ixA (sx_var 2) (sx_neg sx_int)) sa_nil)))))))))))))))⟩
theorem F_Sums_word_of_0 (B : Ev w K mg) (W : Ds K mg) : MX (TT a ns) P w K mg base 9 5 "word_of" 2 [] x_Sums_word_of := by
  refine mx_of W.m_Sums_word_of_0 sc_Sums_word_of rfl fun f cdv A outer s H E hr => ?_
  have hu := SX.room_hu hr
  have tk : Takes (cxOf (L2.CX P w) P w K mg base N_Sums_word_of "Sums.word_of" (defScope s_Sums_word_of) f cdv A outer s H E) (fun cls d _ H => E cls d H) := takes_of rfl rfl rfl rfl
  exact ⟨_,
    (ss_cons (ss_set 2 sc_Sums_word_of.nd (sx_meth0 (F_Hand_name_0 B W) tk hr (by first | decide | omega) (sx_var 1)))
  (ss_cons (ss_if (st_cmp (r_eqT hu) (o_eqT false) c_eqT (sx_fld (FldOk.cons B.f_Sums_kind FldOk.nil) (sx_var 0)) (sx_gS B.g_ARRAY))
    (ss_one (ss_ret (sx_tup (sa_cons sx_str (sa_cons (sx_var 2) (sa_cons (sx_meth (F_Hand_boxed_0 B W) tk hr (by first | decide | omega) (sx_var 1) (sa_cons (sx_fnA 44 W.d_share_of.mg) sa_nil)) sa_nil))))))
    ss_nil)
  (ss_one (ss_ret (sx_tup (sa_cons (sx_if (st_cmp (r_in hu) (o_in false) c_in (sx_var 2) (sx_fld (FldOk.cons B.f_Sums_ins FldOk.nil) (sx_var 0))) sx_str sx_str) (sa_cons (sx_var 2) (sa_cons (sx_meth (F_Hand_boxed_0 B W) tk hr (by first | decide | omega) (sx_var 1) (sa_cons (sx_fnA 35 W.d_form_of.mg) sa_nil)) sa_nil))))))))⟩
theorem F_gr_Sums_sum_of (B : Ev w K mg) (W : Ds K mg) : ∀ n, (MX (TT a ns) P w K mg base (n + 9) 5 "sum_of" 2 [] (gr_Sums_sum_of n 0)) ∧
    (MX (TT a ns) P w K mg base (n + 9) 5 "term_of" 2 [] (gr_Sums_sum_of n 1)) ∧
    (MX (TT a ns) P w K mg base (n + 9) 5 "factor_of" 2 [] (gr_Sums_sum_of n 2)) ∧
    (MX (TT a ns) P w K mg base (n + 9) 5 "bracket_of" 2 [] (gr_Sums_sum_of n 3)) ∧
    (MX (TT a ns) P w K mg base (n + 9) 5 "call_of" 2 [] (gr_Sums_sum_of n 4))
  | 0 => ⟨MX.none W.m_Sums_sum_of_0 rfl, MX.none W.m_Sums_term_of_0 rfl, MX.none W.m_Sums_factor_of_0 rfl, MX.none W.m_Sums_bracket_of_0 rfl, MX.none W.m_Sums_call_of_0 rfl⟩
  | n + 1 => by
    obtain ⟨R0_0, R1_0, R2_0, R3_0, R4_0⟩ := F_gr_Sums_sum_of B W n
    refine ⟨?_, ?_, ?_, ?_, ?_⟩
    · refine mx_of W.m_Sums_sum_of_0 sc_Sums_sum_of rfl fun f cdv A outer s H E hr => ?_
      have hu := SX.room_hu hr
      have tk : Takes (cxOf (L2.CX P w) P w K mg base N_Sums_sum_of "Sums.sum_of" (defScope s_Sums_sum_of) f cdv A outer s H E) (fun cls d _ H => E cls d H) := takes_of rfl rfl rfl rfl
      exact ⟨_,
        (ss_cons (ss_set 2 sc_Sums_sum_of.nd (sx_meth R1_0 tk hr (by first | decide | omega) (sx_var 0) (sa_cons (sx_var 1) sa_nil)))
    (ss_cons (ss_while 3000 (passes_of rfl) (st_inK B.k_JOINING (sx_meth0 (F_Hand_next_1 B W) tk hr (by first | decide | omega) (sx_var 1)))
      (ss_cons (ss_set 3 sc_Sums_sum_of.nd (sx_ixK B.k_JOINING (sx_meth0 (F_Hand_go_0 B W) tk hr (by first | decide | omega) (sx_var 1))))
      (ss_one (ss_set 2 sc_Sums_sum_of.nd (sx_tup (sa_cons (sx_var 3) (sa_cons (sx_var 2) (sa_cons (sx_meth R1_0 tk hr (by first | decide | omega) (sx_var 0) (sa_cons (sx_var 1) sa_nil)) sa_nil))))))))
    (ss_one (ss_ret (sx_var 2)))))⟩
    · refine mx_of W.m_Sums_term_of_0 sc_Sums_term_of rfl fun f cdv A outer s H E hr => ?_
      have hu := SX.room_hu hr
      have tk : Takes (cxOf (L2.CX P w) P w K mg base N_Sums_term_of "Sums.term_of" (defScope s_Sums_term_of) f cdv A outer s H E) (fun cls d _ H => E cls d H) := takes_of rfl rfl rfl rfl
      exact ⟨_,
        (ss_cons (ss_set 2 sc_Sums_term_of.nd (sx_meth R2_0 tk hr (by first | decide | omega) (sx_var 0) (sa_cons (sx_var 1) sa_nil)))
    (ss_cons (ss_while 3000 (passes_of rfl) (st_truth (sx_meth (F_Hand_may_0 B W) tk hr (by first | decide | omega) (sx_var 1) (sa_cons sx_str sa_nil)))
      (ss_one (ss_set 2 sc_Sums_term_of.nd (sx_tup (sa_cons sx_str (sa_cons (sx_var 2) (sa_cons (sx_meth R2_0 tk hr (by first | decide | omega) (sx_var 0) (sa_cons (sx_var 1) sa_nil)) sa_nil)))))))
    (ss_one (ss_ret (sx_var 2)))))⟩
    · refine mx_of W.m_Sums_factor_of_0 sc_Sums_factor_of rfl fun f cdv A outer s H E hr => ?_
      have hu := SX.room_hu hr
      have tk : Takes (cxOf (L2.CX P w) P w K mg base N_Sums_factor_of "Sums.factor_of" (defScope s_Sums_factor_of) f cdv A outer s H E) (fun cls d _ H => E cls d H) := takes_of rfl rfl rfl rfl
      exact ⟨_,
        (ss_cons (ss_set 2 sc_Sums_factor_of.nd (sx_meth0 (F_Hand_next_1 B W) tk hr (by first | decide | omega) (sx_var 1)))
    (ss_cons (ss_if (st_cmp (r_eqT hu) (o_eqT false) c_eqT (sx_var 2) sx_str)
      (ss_one (ss_ret (sx_meth R3_0 tk hr (by first | decide | omega) (sx_var 0) (sa_cons (sx_var 1) sa_nil))))
      ss_nil)
    (ss_cons (ss_if (st_cmp (r_in hu) (o_in false) c_in (sx_var 2) (sx_gT B.g_CALLS))
      (ss_one (ss_ret (sx_meth R4_0 tk hr (by first | decide | omega) (sx_var 0) (sa_cons (sx_var 1) sa_nil))))
      ss_nil)
    (ss_cons (ss_expr (sx_meth0 (F_Hand_leaf_0 B W) tk hr (by first | decide | omega) (sx_var 1)))
    (ss_cons (ss_if (sw_and (st_cmp (r_eqT hu) (o_eqT false) c_eqT (sx_var 2) sx_str) (sw_and1 (st_cmp (r_eqT hu) (o_eqT false) c_eqT (sx_fld (FldOk.cons B.f_Sums_kind FldOk.nil) (sx_var 0)) (sx_gS B.g_ARRAY)))).pt
      (ss_one (ss_ret (sx_call (F_wire_of B W W.d_wire_of) tk hr (by first | decide | omega) (sa_cons (sx_var 1) sa_nil))))
      ss_nil)
    (ss_cons (ss_if (sw_and (st_cmp (r_neT hu) (o_eqT true) c_eqT (sx_var 2) sx_str) (sw_and1 (st_cmp (r_in hu) (o_in false) c_in (sx_ix (r_ix hu) o_ixA c_ixA (sx_var 2) sx_int) sx_str))).pt
      (ss_one (ss_ret (sx_tup (sa_cons sx_str (sa_cons (sx_meth0 (F_Hand_number_0 B W) tk hr (by first | decide | omega) (sx_var 1)) sa_nil)))))
      ss_nil)
    (ss_one (ss_ret (sx_meth (F_Sums_word_of_0 B W) tk hr (by first | decide | omega) (sx_var 0) (sa_cons (sx_var 1) sa_nil))))))))))⟩
    · refine mx_of W.m_Sums_bracket_of_0 sc_Sums_bracket_of rfl fun f cdv A outer s H E hr => ?_
      have hu := SX.room_hu hr
      have tk : Takes (cxOf (L2.CX P w) P w K mg base N_Sums_bracket_of "Sums.bracket_of" (defScope s_Sums_bracket_of) f cdv A outer s H E) (fun cls d _ H => E cls d H) := takes_of rfl rfl rfl rfl
      exact ⟨_,
        (ss_cons (ss_expr (sx_meth (F_Hand_must_0 B W) tk hr (by first | decide | omega) (sx_var 1) (sa_cons sx_str sa_nil)))
    (ss_cons (ss_expr (sx_meth0 (F_Hand_opened_0 B W) tk hr (by first | decide | omega) (sx_var 1)))
    (ss_cons (ss_if (st_cmp (r_eqT hu) (o_eqT false) c_eqT (sx_meth0 (F_Hand_next_1 B W) tk hr (by first | decide | omega) (sx_var 1)) sx_str)
      (ss_cons (ss_expr (sx_meth0 (F_Hand_leaf_0 B W) tk hr (by first | decide | omega) (sx_var 1)))
      (ss_one (ss_set 2 sc_Sums_bracket_of.nd (sx_tup (sa_cons sx_str (sa_cons (sx_meth0 (F_Hand_signed_0 B W) tk hr (by first | decide | omega) (sx_var 1)) sa_nil))))))
      (ss_one (ss_set 2 sc_Sums_bracket_of.nd (sx_meth R0_0 tk hr (by first | decide | omega) (sx_var 0) (sa_cons (sx_var 1) sa_nil)))))
    (ss_cons (ss_expr (sx_meth (F_Hand_shut_0 B W) tk hr (by first | decide | omega) (sx_var 1) (sa_cons sx_str sa_nil)))
    (ss_one (ss_ret (sx_var 2)))))))⟩
    · refine mx_of W.m_Sums_call_of_0 sc_Sums_call_of rfl fun f cdv A outer s H E hr => ?_
      have hu := SX.room_hu hr
      have tk : Takes (cxOf (L2.CX P w) P w K mg base N_Sums_call_of "Sums.call_of" (defScope s_Sums_call_of) f cdv A outer s H E) (fun cls d _ H => E cls d H) := takes_of rfl rfl rfl rfl
      exact ⟨_,
        (ss_cons (ss_set 2 sc_Sums_call_of.nd (sx_meth0 (F_Hand_go_0 B W) tk hr (by first | decide | omega) (sx_var 1)))
    (ss_cons (ss_expr (sx_meth (F_Hand_must_0 B W) tk hr (by first | decide | omega) (sx_var 1) (sa_cons sx_str sa_nil)))
    (ss_cons (ss_expr (sx_meth0 (F_Hand_opened_0 B W) tk hr (by first | decide | omega) (sx_var 1)))
    (ss_cons (ss_set 3 sc_Sums_call_of.nd (sx_meth R0_0 tk hr (by first | decide | omega) (sx_var 0) (sa_cons (sx_var 1) sa_nil)))
    (ss_cons (ss_expr (sx_meth (F_Hand_must_0 B W) tk hr (by first | decide | omega) (sx_var 1) (sa_cons sx_str sa_nil)))
    (ss_cons (ss_set 4 sc_Sums_call_of.nd (sx_meth R0_0 tk hr (by first | decide | omega) (sx_var 0) (sa_cons (sx_var 1) sa_nil)))
    (ss_cons (ss_expr (sx_meth (F_Hand_shut_0 B W) tk hr (by first | decide | omega) (sx_var 1) (sa_cons sx_str sa_nil)))
    (ss_one (ss_ret (sx_tup (sa_cons (sx_var 2) (sa_cons (sx_var 3) (sa_cons (sx_var 4) sa_nil)))))))))))))⟩
theorem F_Sums_sum_of_0 (B : Ev w K mg) (W : Ds K mg) : MX (TT a ns) P w K mg base 33 5 "sum_of" 2 [] x_Sums_sum_of := (F_gr_Sums_sum_of B W 24).1
theorem F_Sums_init (B : Ev w K mg) (W : Ds K mg) : NX (TT a ns) P w K mg base 1 5 3 x_Sums_init := by
  refine nx_of W.n_Sums_init sc_Sums_init rfl fun f cdv A outer s H E hr => ?_
  have hu := SX.room_hu hr
  have tk : Takes (cxOf (L2.CX P w) P w K mg base N_Sums_init "Sums.__init__" (defScope s_Sums_init) f cdv A outer s H E) (fun cls d _ H => E cls d H) := takes_of rfl rfl rfl rfl
  exact ⟨_,
    (ss_cons (ss_setF (FldOk.cons B.f_Sums_kind FldOk.nil) (sx_var 0) (sx_var 1))
  (ss_one (ss_setF (FldOk.cons B.f_Sums_ins FldOk.nil) (sx_var 0) (sx_var 2))))⟩
theorem F_test_of (B : Ev w K mg) (W : Ds K mg) {nm : Str} (D : Da K mg nm "test_of" s_test_of ["hand"]) : FX (TT a ns) P w K mg base 7 nm 1 x_test_of := by
  refine fx_ofA D sc_test_of rfl fun f cdv A outer s H E hr => ?_
  have hu := SX.room_hu hr
  have tk : Takes (cxOf (L2.CX P w) P w K mg base N_test_of "test_of" (defScope s_test_of) f cdv A outer s H E) (fun cls d _ H => E cls d H) := takes_of rfl rfl rfl rfl
  exact ⟨_,
    (ss_cons (ss_if (sw_and (st_truth (sx_call (F_is_number B W W.d_is_number) tk hr (by first | decide | omega) (sa_cons (sx_meth0 (F_Hand_next_1 B W) tk hr (by first | decide | omega) (sx_var 0)) sa_nil))) (sw_and1 (st_cmp (r_eqT hu) (o_eqT false) c_eqT (sx_meth (F_Hand_next_0 B W) tk hr (by first | decide | omega) (sx_var 0) (sa_cons sx_int sa_nil)) sx_str))).pt
    (ss_cons (ss_set 1 sc_test_of.nd (sx_meth0 (F_Hand_number_0 B W) tk hr (by first | decide | omega) (sx_var 0)))
    (ss_cons (ss_expr (sx_meth (F_Hand_must_0 B W) tk hr (by first | decide | omega) (sx_var 0) (sa_cons sx_str sa_nil)))
    (ss_one (ss_ret (sx_tup (sa_cons (sx_tup (sa_cons sx_str (sa_cons (sx_var 1) (sa_cons (sx_call (F_form_of B W W.d_form_of) tk hr (by first | decide | omega) (sa_cons (sx_var 0) sa_nil)) sa_nil)))) sa_nil))))))
    ss_nil)
  (ss_one (ss_ret (sx_tH call_tupleN on_tup c_tup B.m_tuple boot_tuple (sh_lc (own := [("f", 2)]) (by rfl) sc_test_of.nd (si_v (sx_call (F_compared B W W.d_compared) tk hr (by first | decide | omega) (sa_cons (sx_var 0) sa_nil))) (blkOk_by (own := [("f", 2)]) (N := N_test_of) (sc := defScope s_test_of) (by decide +kernel)) (fun _ _ _ _ _ => by exact (sg_name 2 sc_test_of.nd)) (fun _ _ _ _ _ => by exact sts_nil) (fun _ _ _ _ _ => by exact (sx_tup (sa_cons sx_str (sa_cons (sx_var 2) sa_nil)))))))))⟩
theorem F_guard_of (B : Ev w K mg) (W : Ds K mg) {nm : Str} (D : Da K mg nm "guard_of" s_guard_of ["hand"]) : FX (TT a ns) P w K mg base 8 nm 1 x_guard_of := by
  refine fx_ofA D sc_guard_of rfl fun f cdv A outer s H E hr => ?_
  have hu := SX.room_hu hr
  have tk : Takes (cxOf (L2.CX P w) P w K mg base N_guard_of "guard_of" (defScope s_guard_of) f cdv A outer s H E) (fun cls d _ H => E cls d H) := takes_of rfl rfl rfl rfl
  exact ⟨_,
    (ss_cons (ss_set 1 sc_guard_of.nd (sx_call (F_test_of B W W.d_test_of) tk hr (by first | decide | omega) (sa_cons (sx_var 0) sa_nil)))
  (ss_cons (ss_while 3000 (passes_of rfl) (st_truth (sx_meth (F_Hand_may_0 B W) tk hr (by first | decide | omega) (sx_var 0) (sa_cons sx_str sa_nil)))
    (ss_one (ss_set 1 sc_guard_of.nd (sx_op r_add o_add c_add (sx_var 1) (sx_call (F_test_of B W W.d_test_of) tk hr (by first | decide | omega) (sa_cons (sx_var 0) sa_nil))))))
  (ss_one (ss_ret (sx_var 1)))))⟩
theorem F_row_of (B : Ev w K mg) (W : Ds K mg) {nm : Str} (D : Da K mg nm "row_of" s_row_of ["hand"]) : FX (TT a ns) P w K mg base 34 nm 1 x_row_of := by
  refine fx_ofA D sc_row_of rfl fun f cdv A outer s H E hr => ?_
  have hu := SX.room_hu hr
  have tk : Takes (cxOf (L2.CX P w) P w K mg base N_row_of "row_of" (defScope s_row_of) f cdv A outer s H E) (fun cls d _ H => E cls d H) := takes_of rfl rfl rfl rfl
  exact ⟨_,
    (ss_cons (ss_expr (sx_meth (F_Hand_must_0 B W) tk hr (by first | decide | omega) (sx_var 0) (sa_cons sx_str sa_nil)))
  (ss_cons (ss_set 1 sc_row_of.nd (sx_meth0 (F_Hand_name_0 B W) tk hr (by first | decide | omega) (sx_var 0)))
  (ss_cons (ss_expr (sx_meth (F_Hand_must_0 B W) tk hr (by first | decide | omega) (sx_var 0) (sa_cons sx_str sa_nil)))
  (ss_cons (ss_set 2 sc_row_of.nd (sx_meth (F_Sums_sum_of_0 B W) tk hr (by first | decide | omega) (sx_make (F_Sums_init B W) tk hr (by first | decide | omega) (sa_cons (sx_gS B.g_ARRAY) (sa_cons (sx_tup sa_nil) sa_nil))) (sa_cons (sx_var 0) sa_nil)))
  (ss_cons (ss_set 3 sc_row_of.nd (sx_if (st_truth (sx_meth (F_Hand_may_0 B W) tk hr (by first | decide | omega) (sx_var 0) (sa_cons sx_str sa_nil))) (sx_call (F_guard_of B W W.d_guard_of) tk hr (by first | decide | omega) (sa_cons (sx_var 0) sa_nil)) (sx_tup sa_nil)))
  (ss_cons (ss_expr (sx_meth0 (F_Hand_end_0 B W) tk hr (by first | decide | omega) (sx_var 0)))
  (ss_one (ss_ret (sx_tup (sa_cons (sx_var 1) (sa_cons (sx_var 3) (sa_cons (sx_var 2) sa_nil))))))))))))⟩
theorem F_forms_of (B : Ev w K mg) (W : Ds K mg) {nm : Str} (D : Da K mg nm "forms_of" s_forms_of ["hand"]) : FX (TT a ns) P w K mg base 8 nm 1 x_forms_of := by
  refine fx_ofA D sc_forms_of rfl fun f cdv A outer s H E hr => ?_
  have hu := SX.room_hu hr
  have tk : Takes (cxOf (L2.CX P w) P w K mg base N_forms_of "forms_of" (defScope s_forms_of) f cdv A outer s H E) (fun cls d _ H => E cls d H) := takes_of rfl rfl rfl rfl
  exact ⟨_,
    (ss_cons (ss_set 1 sc_forms_of.nd (sx_t1 call_tupleN on_tupV c_tupV B.m_tuple boot_tuple (sx_meth (F_Hand_row_0 B W) tk hr (by first | decide | omega) (sx_var 0) (sa_cons (sx_fnA 35 W.d_form_of.mg) sa_nil))))
  (ss_cons (ss_if (st_cmp r_gt o_gt c_cmp (sx_b1 call_len on_len c_len B.m_len boot_len (sx_var 1)) sx_int)
    (ss_one (ss_expr (sx_meth0 (F_Hand_bad_0 B W) tk hr (by first | decide | omega) (sx_var 0))))
    ss_nil)
  (ss_one (ss_ret (sx_var 1)))))⟩
theorem F_read_when (B : Ev w K mg) (W : Ds K mg) {nm : Str} (D : Da K mg nm "read_when" s_read_when ["hand"]) : FX (TT a ns) P w K mg base 8 nm 1 x_read_when := by
  refine fx_ofA D sc_read_when rfl fun f cdv A outer s H E hr => ?_
  have hu := SX.room_hu hr
  have tk : Takes (cxOf (L2.CX P w) P w K mg base N_read_when "read_when" (defScope s_read_when) f cdv A outer s H E) (fun cls d _ H => E cls d H) := takes_of rfl rfl rfl rfl
  exact ⟨_,
    (ss_cons (ss_set 1 sc_read_when.nd (sx_if (st_truth (sx_meth (F_Hand_may_0 B W) tk hr (by first | decide | omega) (sx_var 0) (sa_cons sx_str sa_nil))) (sx_call (F_condition_of B W W.d_condition_of) tk hr (by first | decide | omega) (sa_cons (sx_var 0) sa_nil)) (sx_tup sa_nil)))
  (ss_cons (ss_expr (sx_meth0 (F_Hand_end_0 B W) tk hr (by first | decide | omega) (sx_var 0)))
  (ss_one (ss_ret (sx_var 1)))))⟩
theorem F_told_of (B : Ev w K mg) (W : Ds K mg) {nm : Str} (D : Da K mg nm "told_of" s_told_of ["hand"]) : FX (TT a ns) P w K mg base 9 nm 1 x_told_of := by
  refine fx_ofA D sc_told_of rfl fun f cdv A outer s H E hr => ?_
  have hu := SX.room_hu hr
  have tk : Takes (cxOf (L2.CX P w) P w K mg base N_told_of "told_of" (defScope s_told_of) f cdv A outer s H E) (fun cls d _ H => E cls d H) := takes_of rfl rfl rfl rfl
  exact ⟨_,
    (ss_cons (ss_set 1 sc_told_of.nd (sx_meth0 (F_Hand_name_0 B W) tk hr (by first | decide | omega) (sx_var 0)))
  (ss_cons (ss_expr (sx_meth (F_Hand_must_0 B W) tk hr (by first | decide | omega) (sx_var 0) (sa_cons sx_str sa_nil)))
  (ss_cons (ss_set 2 sc_told_of.nd (sx_call (F_form_of B W W.d_form_of) tk hr (by first | decide | omega) (sa_cons (sx_var 0) sa_nil)))
  (ss_cons (ss_expr (sx_meth (F_Hand_must_0 B W) tk hr (by first | decide | omega) (sx_var 0) (sa_cons sx_str sa_nil)))
  (ss_cons (ss_set 3 sc_told_of.nd (sx_call (F_forms_of B W W.d_forms_of) tk hr (by first | decide | omega) (sa_cons (sx_var 0) sa_nil)))
  (ss_one (ss_ret (sx_tup (sa_cons (sx_call (F_read_when B W W.d_read_when) tk hr (by first | decide | omega) (sa_cons (sx_var 0) sa_nil)) (sa_cons (sx_var 1) (sa_cons (sx_var 2) (sa_cons (sx_var 3) sa_nil))))))))))))⟩
theorem F_tb_read_block_piece_of (B : Ev w K mg) (W : Ds K mg) : ∀ i n xf, tb_read_block_piece_of i = some (n, xf) → FX (TT a ns) P w K mg base 9 ((TT a ns).FN i) n xf := fun i n xf h => by
  unfold tb_read_block_piece_of at h
  split at h
  · cases h; exact (F_told_of B W W.d_told_of).mono (by decide)
  · cases h
theorem F_read_block (B : Ev w K mg) (W : Ds K mg) {nm : Str} (D : Da K mg nm "read_block" s_read_block ["lines", "hand", "piece_of"]) : FX (TT a ns) P w K mg base 10 nm 3 x_read_block := by
  refine fx_ofA D sc_read_block rfl fun f cdv A outer s H E hr => ?_
  have hu := SX.room_hu hr
  have tk : Takes (cxOf (L2.CX P w) P w K mg base N_read_block "read_block" (defScope s_read_block) f cdv A outer s H E) (fun cls d _ H => E cls d H) := takes_of rfl rfl rfl rfl
  exact ⟨_,
    (ss_cons (ss_expr (sx_meth0 (F_Hand_go_0 B W) tk hr (by first | decide | omega) (sx_var 1)))
  (ss_cons (ss_set 3 sc_read_block.nd (sx_meth0 (F_Hand_name_0 B W) tk hr (by first | decide | omega) (sx_var 1)))
  (ss_cons (ss_set 4 sc_read_block.nd (sx_meth (F_Hand_boxed_0 B W) tk hr (by first | decide | omega) (sx_var 1) (sa_cons (sx_fnA 33 W.d_named.mg) sa_nil)))
  (ss_cons (ss_expr (sx_meth0 (F_Hand_end_0 B W) tk hr (by first | decide | omega) (sx_var 1)))
  (ss_cons (ss_set 1 sc_read_block.nd (sx_meth0 (F_Lines_ahead_0 B W) tk hr (by first | decide | omega) (sx_var 0)))
  (ss_cons (ss_set 5 sc_read_block.nd (sx_tup sa_nil))
  (ss_cons (ss_while 3000 (passes_of rfl) (st_truth (sx_meth (F_Hand_may_0 B W) tk hr (by first | decide | omega) (sx_var 1) (sa_cons sx_str sa_nil)))
    (ss_cons (ss_set 5 sc_read_block.nd (sx_op r_add o_add c_add (sx_var 5) (sx_call (F_condition_of B W W.d_condition_of) tk hr (by first | decide | omega) (sa_cons (sx_var 1) sa_nil))))
    (ss_cons (ss_expr (sx_meth0 (F_Hand_end_0 B W) tk hr (by first | decide | omega) (sx_var 1)))
    (ss_one (ss_set 1 sc_read_block.nd (sx_meth0 (F_Lines_ahead_0 B W) tk hr (by first | decide | omega) (sx_var 0)))))))
  (ss_cons (ss_set 6 sc_read_block.nd (sx_new (sh_lst sa_nil)))
  (ss_cons (ss_while 3000 (passes_of rfl) (st_truth (sx_meth (F_Hand_may_0 B W) tk hr (by first | decide | omega) (sx_var 1) (sa_cons sx_str sa_nil)))
    (ss_cons (ss_expr (sx_m PySem.F.plainAttrs_list PySem.F.slot_list_append PySem.F.type_list_append mt_append om_app c_app (sx_var 6) (sa_cons (sx_callV (F_tb_read_block_piece_of B W) tk hr (by first | decide | omega) (sx_var 2) (sa_cons (sx_var 1) sa_nil)) sa_nil)))
    (ss_one (ss_set 1 sc_read_block.nd (sx_meth0 (F_Lines_ahead_0 B W) tk hr (by first | decide | omega) (sx_var 0))))))
  (ss_one (ss_ret (sx_tup (sa_cons (sx_tup (sa_cons (sx_var 3) (sa_cons (sx_var 4) (sa_cons (sx_var 5) (sa_cons (sx_t1 call_tupleN on_tupV c_tupV B.m_tuple boot_tuple (sx_var 6)) sa_nil))))) (sa_cons (sx_var 1) sa_nil))))))))))))))⟩
theorem F_read_makings (B : Ev w K mg) (W : Ds K mg) {nm : Str} (D : Da K mg nm "read_makings" s_read_makings ["lines", "hand"]) : FX (TT a ns) P w K mg base 2 nm 2 x_read_makings := by
  refine fx_ofA D sc_read_makings rfl fun f cdv A outer s H E hr => ?_
  have hu := SX.room_hu hr
  have tk : Takes (cxOf (L2.CX P w) P w K mg base N_read_makings "read_makings" (defScope s_read_makings) f cdv A outer s H E) (fun cls d _ H => E cls d H) := takes_of rfl rfl rfl rfl
  exact ⟨_,
    (ss_cons (ss_set 2 sc_read_makings.nd (sx_new (sh_lst sa_nil)))
  (ss_cons (ss_while 3000 (passes_of rfl) (st_inK B.k_MAKINGS (sx_meth0 (F_Hand_next_1 B W) tk hr (by first | decide | omega) (sx_var 1)))
    ss_bad)
  (ss_one (ss_ret (sx_tup (sa_cons (sx_t1 call_tupleN on_tupV c_tupV B.m_tuple boot_tuple (sx_var 2)) (sa_cons (sx_var 1) sa_nil)))))))⟩
theorem F_Lines_finish_0 (B : Ev w K mg) (W : Ds K mg) : MX (TT a ns) P w K mg base 6 4 "finish" 2 [] x_Lines_finish := by
  refine mx_of W.m_Lines_finish_0 sc_Lines_finish rfl fun f cdv A outer s H E hr => ?_
  have hu := SX.room_hu hr
  have tk : Takes (cxOf (L2.CX P w) P w K mg base N_Lines_finish "Lines.finish" (defScope s_Lines_finish) f cdv A outer s H E) (fun cls d _ H => E cls d H) := takes_of rfl rfl rfl rfl
  exact ⟨_,
    (ss_cons (ss_expr (sx_meth (F_Hand_must_0 B W) tk hr (by first | decide | omega) (sx_var 1) (sa_cons sx_str sa_nil)))
  (ss_cons (ss_expr (sx_meth0 (F_Hand_end_0 B W) tk hr (by first | decide | omega) (sx_var 1)))
  (ss_one (ss_for (passes_of rfl) (by rfl) (si_v (sx_meth0 (F_Lines_more_0 B W) tk hr (by first | decide | omega) (sx_var 0))) (sg_name 2 sc_Lines_finish.nd)
    (ss_one (ss_expr (sx_meth0 (F_Hand_bad_0 B W) tk hr (by first | decide | omega) (sx_var 2))))))))⟩
theorem F_read_array (B : Ev w K mg) (W : Ds K mg) {nm : Str} (D : Da K mg nm "read_array" s_read_array ["text"]) : FX (TT a ns) P w K mg base 35 nm 1 x_read_array := by
  refine fx_ofA D sc_read_array rfl fun f cdv A outer s H E hr => ?_
  have hu := SX.room_hu hr
  have tk : Takes (cxOf (L2.CX P w) P w K mg base N_read_array "read_array" (defScope s_read_array) f cdv A outer s H E) (fun cls d _ H => E cls d H) := takes_of rfl rfl rfl rfl
  exact ⟨_,
    (ss_cons (ss_set 1 sc_read_array.nd (sx_make (F_Lines_init B W) tk hr (by first | decide | omega) (sa_cons (sx_var 0) sa_nil)))
  (ss_cons (ss_asg (sx_call (F_read_head B W W.d_read_head) tk hr (by first | decide | omega) (sa_cons (sx_var 1) (sa_cons sx_str sa_nil))) (sg_tupC (K := K) (n := 2) (by rfl) (by rfl) (sg_cons (sg_name 2 sc_read_array.nd) (sg_cons (sg_name 3 sc_read_array.nd) sg_nil))))
  (ss_cons (ss_asg (sx_call (F_read_frame B W W.d_read_frame) tk hr (by first | decide | omega) (sa_cons (sx_var 1) (sa_cons (sx_var 3) sa_nil))) (sg_tupC (K := K) (n := 2) (by rfl) (by rfl) (sg_cons (sg_name 4 sc_read_array.nd) (sg_cons (sg_name 3 sc_read_array.nd) sg_nil))))
  (ss_cons (ss_set 5 sc_read_array.nd (sx_new (sh_lst sa_nil)))
  (ss_cons (ss_while 3000 (passes_of rfl) (st_cmp (r_eqT hu) (o_eqT false) c_eqT (sx_meth0 (F_Hand_next_1 B W) tk hr (by first | decide | omega) (sx_var 3)) sx_str)
    (ss_cons (ss_expr (sx_m PySem.F.plainAttrs_list PySem.F.slot_list_append PySem.F.type_list_append mt_append om_app c_app (sx_var 5) (sa_cons (sx_call (F_row_of B W W.d_row_of) tk hr (by first | decide | omega) (sa_cons (sx_var 3) sa_nil)) sa_nil)))
    (ss_one (ss_set 3 sc_read_array.nd (sx_meth0 (F_Lines_ahead_0 B W) tk hr (by first | decide | omega) (sx_var 1))))))
  (ss_cons (ss_set 6 sc_read_array.nd (sx_new (sh_lst sa_nil)))
  (ss_cons (ss_while 3000 (passes_of rfl) (st_cmp (r_eqT hu) (o_eqT false) c_eqT (sx_meth0 (F_Hand_next_1 B W) tk hr (by first | decide | omega) (sx_var 3)) sx_str)
    (ss_cons (ss_asg (sx_call (F_read_block B W W.d_read_block) tk hr (by first | decide | omega) (sa_cons (sx_var 1) (sa_cons (sx_var 3) (sa_cons (sx_fnA 60 W.d_told_of.mg) sa_nil)))) (sg_tupC (K := K) (n := 2) (by rfl) (by rfl) (sg_cons (sg_name 7 sc_read_array.nd) (sg_cons (sg_name 3 sc_read_array.nd) sg_nil))))
    (ss_one (ss_expr (sx_m PySem.F.plainAttrs_list PySem.F.slot_list_append PySem.F.type_list_append mt_append om_app c_app (sx_var 6) (sa_cons (sx_var 7) sa_nil))))))
  (ss_cons (ss_asg (sx_call (F_read_makings B W W.d_read_makings) tk hr (by first | decide | omega) (sa_cons (sx_var 1) (sa_cons (sx_var 3) sa_nil))) (sg_tupC (K := K) (n := 2) (by rfl) (by rfl) (sg_cons (sg_name 8 sc_read_array.nd) (sg_cons (sg_name 3 sc_read_array.nd) sg_nil))))
  (ss_cons (ss_expr (sx_meth (F_Lines_finish_0 B W) tk hr (by first | decide | omega) (sx_var 1) (sa_cons (sx_var 3) sa_nil)))
  (ss_one (ss_ret (sx_tup (sa_cons (sx_op r_add o_add c_add (sx_op r_add o_add c_add (sx_var 2) (sx_var 4)) (sx_tup (sa_cons (sx_t1 call_tupleN on_tupV c_tupV B.m_tuple boot_tuple (sx_var 5)) (sa_cons (sx_t1 call_tupleN on_tupV c_tupV B.m_tuple boot_tuple (sx_var 6)) sa_nil)))) (sa_cons (sx_var 8) sa_nil))))))))))))))⟩
theorem F_law_array (B : Ev w K mg) (W : Ds K mg) {nm : Str} (D : Da K mg nm "_law_array" s_law_array ["lines"]) : FX (TT a ns) P w K mg base 36 nm 1 x_law_array := by
  refine fx_ofA D sc_law_array rfl fun f cdv A outer s H E hr => ?_
  have hu := SX.room_hu hr
  have tk : Takes (cxOf (L2.CX P w) P w K mg base N_law_array "_law_array" (defScope s_law_array) f cdv A outer s H E) (fun cls d _ H => E cls d H) := takes_of rfl rfl rfl rfl
  exact ⟨_,
    (ss_one (ss_ret (sx_ix (r_ix hu) o_ixA c_ixA (sx_call (F_read_array B W W.d_read_array) tk hr (by first | decide | omega) (sa_cons (sx_m PySem.F.plainAttrs_str PySem.F.slot_str_join PySem.F.type_str_join mt_join om_join c_join sx_str (sa_cons (sx_new (sh_lc (own := [("line", 1)]) (by rfl) sc_law_array.nd (si_v (sx_var 0)) (blkOk_by (own := [("line", 1)]) (N := N_law_array) (sc := defScope s_law_array) (by decide +kernel)) (fun _ _ _ _ _ => by exact (sg_name 1 sc_law_array.nd)) (fun _ _ _ _ _ => by exact sts_nil) (fun _ _ _ _ _ => by exact (sx_op r_add o_add c_add (sx_var 1) sx_str)))) sa_nil)) sa_nil)) sx_int)))⟩
theorem F_y_law_array (B : Ev w K mg) (W : Ds K mg) {nm : Str} (D : Da K mg nm "_law_array" s_law_array ["lines"]) : FX (TT a ns) P w K mg base 36 nm 1 y_law_array := by
  rw [show y_law_array = x_law_array from funext fun as => funext fun st => (y_law_array_eq as st).symm]
  exact F_law_array B W D
theorem F_law_lines (B : Ev w K mg) (W : Ds K mg) {nm : Str} (D : Da K mg nm "_law_lines" s_law_lines []) : FX (TT a ns) P w K mg base 1 nm 0 x_law_lines := by
  refine fx_ofA D sc_law_lines rfl fun f cdv A outer s H E hr => ?_
  have hu := SX.room_hu hr
  have tk : Takes (cxOf (L2.CX P w) P w K mg base N_law_lines "_law_lines" (defScope s_law_lines) f cdv A outer s H E) (fun cls d _ H => E cls d H) := takes_of rfl rfl rfl rfl
  exact ⟨_,
    (ss_cons (ss_set 0 sc_law_lines.nd (sx_new (sh_lst (sa_cons sx_str (sa_cons sx_str (sa_cons sx_str (sa_cons sx_str (sa_cons sx_str sa_nil))))))))
  (ss_cons (ss_set 0 sc_law_lines.nd (sx_op r_add o_add c_add (sx_var 0) (sx_new (sh_lst (sa_cons sx_str (sa_cons sx_str (sa_cons sx_str sa_nil)))))))
  (ss_cons (ss_set 0 sc_law_lines.nd (sx_op r_add o_add c_add (sx_var 0) (sx_new (sh_lst (sa_cons sx_str sa_nil)))))
  (ss_cons (ss_set 0 sc_law_lines.nd (sx_op r_add o_add c_add (sx_var 0) (sx_new (sh_lst (sa_cons sx_str (sa_cons sx_str sa_nil))))))
  (ss_one (ss_ret (sx_op r_add o_add c_add (sx_var 0) (sx_new (sh_lst (sa_cons sx_str (sa_cons sx_str (sa_cons sx_str sa_nil))))))))))))⟩
theorem F_law_wide_lines (B : Ev w K mg) (W : Ds K mg) {nm : Str} (D : Da K mg nm "_law_wide_lines" s_law_wide_lines []) : FX (TT a ns) P w K mg base 1 nm 0 x_law_wide_lines := by
  refine fx_ofA D sc_law_wide_lines rfl fun f cdv A outer s H E hr => ?_
  have hu := SX.room_hu hr
  have tk : Takes (cxOf (L2.CX P w) P w K mg base N_law_wide_lines "_law_wide_lines" (defScope s_law_wide_lines) f cdv A outer s H E) (fun cls d _ H => E cls d H) := takes_of rfl rfl rfl rfl
  exact ⟨_,
    (ss_cons (ss_set 0 sc_law_wide_lines.nd (sx_new (sh_lst (sa_cons sx_str (sa_cons sx_str (sa_cons sx_str (sa_cons sx_str (sa_cons sx_str sa_nil))))))))
  (ss_cons (ss_set 0 sc_law_wide_lines.nd (sx_op r_add o_add c_add (sx_var 0) (sx_new (sh_lst (sa_cons sx_str (sa_cons sx_str sa_nil))))))
  (ss_one (ss_ret (sx_op r_add o_add c_add (sx_var 0) (sx_new (sh_lst (sa_cons sx_str (sa_cons sx_str sa_nil)))))))))⟩
theorem F_law_deep (B : Ev w K mg) (W : Ds K mg) {nm : Str} (D : Da K mg nm "_law_deep" s_law_deep ["many"]) : FX (TT a ns) P w K mg base 1 nm 1 x_law_deep := by
  refine fx_ofA D sc_law_deep rfl fun f cdv A outer s H E hr => ?_
  have hu := SX.room_hu hr
  have tk : Takes (cxOf (L2.CX P w) P w K mg base N_law_deep "_law_deep" (defScope s_law_deep) f cdv A outer s H E) (fun cls d _ H => E cls d H) := takes_of rfl rfl rfl rfl
  exact ⟨_,
    (ss_cons (ss_set 1 sc_law_deep.nd (sx_tup (sa_cons sx_str (sa_cons sx_int sa_nil))))
  (ss_cons (ss_for (passes_of rfl) (by rfl) (si_r1 (by rfl) B.m_range (sa_cons (sx_op op_sub o_sub c_sub (sx_var 0) sx_int) sa_nil)) (sg_name 2 sc_law_deep.nd)
    (ss_one (ss_set 1 sc_law_deep.nd (sx_tup (sa_cons sx_str (sa_cons (sx_var 1) (sa_cons (sx_tup (sa_cons sx_str (sa_cons sx_int sa_nil))) sa_nil)))))))
  (ss_one (ss_ret (sx_var 1)))))⟩
theorem F_is_integer (B : Ev w K mg) (W : Ds K mg) {nm : Str} (D : Da K mg nm "is_integer" s_is_integer ["datum"]) : FX (TT a ns) P w K mg base 1 nm 1 x_is_integer := by
  refine fx_ofA D sc_is_integer rfl fun f cdv A outer s H E hr => ?_
  have hu := SX.room_hu hr
  have tk : Takes (cxOf (L2.CX P w) P w K mg base N_is_integer "is_integer" (defScope s_is_integer) f cdv A outer s H E) (fun cls d _ H => E cls d H) := takes_of rfl rfl rfl rfl
  exact ⟨_,
    (ss_one (ss_ret (sx_and (sx_isi kb_int B.m_isinstance B.m_int boot_int (sx_var 0)) (sx_one (sx_not (sx_isi kb_bl B.m_isinstance B.m_bool boot_bool (sx_var 0)))))))⟩
theorem F_is_tuple (B : Ev w K mg) (W : Ds K mg) {nm : Str} (D : Da K mg nm "is_tuple" s_is_tuple ["datum", "many"]) : FX (TT a ns) P w K mg base 1 nm 2 x_is_tuple := by
  refine fx_ofA D sc_is_tuple rfl fun f cdv A outer s H E hr => ?_
  have hu := SX.room_hu hr
  have tk : Takes (cxOf (L2.CX P w) P w K mg base N_is_tuple "is_tuple" (defScope s_is_tuple) f cdv A outer s H E) (fun cls d _ H => E cls d H) := takes_of rfl rfl rfl rfl
  exact ⟨_,
    (ss_one (ss_ret (sx_and (sx_isi kb_tup B.m_isinstance B.m_tuple boot_tuple (sx_var 0)) (sx_one (sx_cmp (r_eqT hu) (o_eqT false) c_eqT (sx_b1 call_len on_len c_len B.m_len boot_len (sx_var 0)) (sx_var 1))))))⟩
theorem F_is_name (B : Ev w K mg) (W : Ds K mg) {nm : Str} (D : Da K mg nm "is_name" s_is_name ["datum"]) : FX (TT a ns) P w K mg base 1 nm 1 x_is_name := by
  refine fx_ofA D sc_is_name rfl fun f cdv A outer s H E hr => ?_
  have hu := SX.room_hu hr
  have tk : Takes (cxOf (L2.CX P w) P w K mg base N_is_name "is_name" (defScope s_is_name) f cdv A outer s H E) (fun cls d _ H => E cls d H) := takes_of rfl rfl rfl rfl
  exact ⟨_,
    (ss_one (ss_ret (sx_and (sx_isi kb_str B.m_isinstance B.m_str boot_str (sx_var 0)) (sx_and (sx_cmp (r_neT hu) (o_eqT true) c_eqT (sx_var 0) sx_str) (sx_and (sx_cmp (r_notIn hu) (o_in true) c_in sx_str (sx_var 0)) (sx_one (sx_cmp (r_notIn hu) (o_in true) c_in sx_str (sx_var 0))))))))⟩
theorem F_is_form (B : Ev w K mg) (W : Ds K mg) {nm : Str} (D : Da K mg nm "is_form" s_is_form ["datum", "names"]) : FX (TT a ns) P w K mg base 2 nm 2 x_is_form := by
  refine fx_ofA D sc_is_form rfl fun f cdv A outer s H E hr => ?_
  have hu := SX.room_hu hr
  have tk : Takes (cxOf (L2.CX P w) P w K mg base N_is_form "is_form" (defScope s_is_form) f cdv A outer s H E) (fun cls d _ H => E cls d H) := takes_of rfl rfl rfl rfl
  exact ⟨_,
    (ss_cons (ss_if (sw_or (st_not (st_truth (sx_call (F_is_tuple B W W.d_is_tuple) tk hr (by first | decide | omega) (sa_cons (sx_var 0) (sa_cons sx_int sa_nil))))) (sw_or (st_not (st_truth (sx_call (F_is_integer B W W.d_is_integer) tk hr (by first | decide | omega) (sa_cons (sx_ix (r_ix hu) o_ixA c_ixA (sx_var 0) sx_int) sa_nil)))) (sw_or1 (st_not (st_truth (sx_isi kb_tup B.m_isinstance B.m_tuple boot_tuple (sx_ix (r_ix hu) o_ixA c_ixA (sx_var 0) sx_int))))))).pt
    (ss_one (ss_ret sx_bl))
    ss_nil)
  (ss_cons (ss_set 2 sc_is_form.nd sx_str)
  (ss_cons (ss_for (passes_of rfl) (by rfl) (si_v (sx_ix (r_ix hu) o_ixA c_ixA (sx_var 0) sx_int)) (sg_name 3 sc_is_form.nd)
    (ss_cons (ss_if (sw_or (st_not (st_truth (sx_call (F_is_tuple B W W.d_is_tuple) tk hr (by first | decide | omega) (sa_cons (sx_var 3) (sa_cons sx_int sa_nil))))) (sw_or (st_not (st_truth (sx_call (F_is_name B W W.d_is_name_forms) tk hr (by first | decide | omega) (sa_cons (sx_ix (r_ix hu) o_ixA c_ixA (sx_var 3) sx_int) sa_nil)))) (sw_or1 (st_not (st_truth (sx_call (F_is_integer B W W.d_is_integer) tk hr (by first | decide | omega) (sa_cons (sx_ix (r_ix hu) o_ixA c_ixA (sx_var 3) sx_int) sa_nil))))))).pt
      (ss_one (ss_ret sx_bl))
      ss_nil)
    (ss_cons (ss_if (sw_or (st_cmp (r_notIn hu) (o_in true) c_in (sx_ix (r_ix hu) o_ixA c_ixA (sx_var 3) sx_int) (sx_var 1)) (sw_or (st_cmp r_le o_le c_cmp (sx_ix (r_ix hu) o_ixA c_ixA (sx_var 3) sx_int) (sx_var 2)) (sw_or1 (st_cmp (r_eqT hu) (o_eqT false) c_eqT (sx_ix (r_ix hu) o_ixA c_ixA (sx_var 3) sx_int) sx_int)))).pt
      (ss_one (ss_ret sx_bl))
      ss_nil)
    (ss_one (ss_set 2 sc_is_form.nd (sx_ix (r_ix hu) o_ixA c_ixA (sx_var 3) sx_int))))))
  (ss_one (ss_ret sx_bl)))))⟩
theorem F_is_set (B : Ev w K mg) (W : Ds K mg) {nm : Str} (D : Da K mg nm "is_set" s_is_set ["datum", "names"]) : FX (TT a ns) P w K mg base 3 nm 2 x_is_set := by
  refine fx_ofA D sc_is_set rfl fun f cdv A outer s H E hr => ?_
  have hu := SX.room_hu hr
  have tk : Takes (cxOf (L2.CX P w) P w K mg base N_is_set "is_set" (defScope s_is_set) f cdv A outer s H E) (fun cls d _ H => E cls d H) := takes_of rfl rfl rfl rfl
  exact ⟨_,
    (ss_one (ss_ret (sx_and (sx_isi kb_tup B.m_isinstance B.m_tuple boot_tuple (sx_var 0)) (sx_one (sx_bH (cr_all rfl) on_all c_all B.m_all boot_all (sh_lc (own := [("f", 2)]) (by rfl) sc_is_set.nd (si_v (sx_var 0)) (blkOk_by (own := [("f", 2)]) (N := N_is_set) (sc := defScope s_is_set) (by decide +kernel)) (fun _ _ _ _ _ => by exact (sg_name 2 sc_is_set.nd)) (fun _ _ _ _ _ => by exact sts_nil) (fun _ _ _ _ _ => by exact (sx_call (F_is_form B W W.d_is_form) takes0 hr (by first | decide | omega) (sa_cons (sx_var 2) (sa_cons (sx_var 1) sa_nil))))))))))⟩
theorem F_is_word (B : Ev w K mg) (W : Ds K mg) {nm : Str} (D : Da K mg nm "is_word" s_is_word ["datum"]) : FX (TT a ns) P w K mg base 1 nm 1 x_is_word := by
  refine fx_ofA D sc_is_word rfl fun f cdv A outer s H E hr => ?_
  have hu := SX.room_hu hr
  have tk : Takes (cxOf (L2.CX P w) P w K mg base N_is_word "is_word" (defScope s_is_word) f cdv A outer s H E) (fun cls d _ H => E cls d H) := takes_of rfl rfl rfl rfl
  exact ⟨_,
    (ss_cons (ss_if (sw_or (st_not (st_truth (sx_isi kb_str B.m_isinstance B.m_str boot_str (sx_var 0)))) (sw_or (st_cmp (r_eqT hu) (o_eqT false) c_eqT (sx_var 0) sx_str) (sw_or (st_cmp r_gt o_gt c_cmp (sx_b1 call_len on_len c_len B.m_len boot_len (sx_var 0)) (sx_gI B.g_MOST_SIGNS_forms)) (sw_or1 (st_cmp (r_notIn hu) (o_in true) c_in (sx_ix (r_ix hu) o_ixA c_ixA (sx_var 0) sx_int) (sx_gS B.g_LETTERS)))))).pt
    (ss_one (ss_ret sx_bl))
    ss_nil)
  (ss_one (ss_ret (sx_bH (cr_all rfl) on_all c_all B.m_all boot_all (sh_lc (own := [("sign", 1)]) (by rfl) sc_is_word.nd (si_v (sx_var 0)) (blkOk_by (own := [("sign", 1)]) (N := N_is_word) (sc := defScope s_is_word) (by decide +kernel)) (fun _ _ _ _ _ => by exact (sg_name 1 sc_is_word.nd)) (fun _ _ _ _ _ => by exact sts_nil) (fun _ _ _ _ _ => by exact (sx_cmp (r_in hu) (o_in false) c_in (sx_var 1) (sx_gS B.g_SIGNS_forms))))))))⟩
theorem F_are_words (B : Ev w K mg) (W : Ds K mg) {nm : Str} (D : Da K mg nm "are_words" s_are_words ["datum", "most"]) : FX (TT a ns) P w K mg base 2 nm 2 x_are_words := by
  refine fx_ofA D sc_are_words rfl fun f cdv A outer s H E hr => ?_
  have hu := SX.room_hu hr
  have tk : Takes (cxOf (L2.CX P w) P w K mg base N_are_words "are_words" (defScope s_are_words) f cdv A outer s H E) (fun cls d _ H => E cls d H) := takes_of rfl rfl rfl rfl
  exact ⟨_,
    (ss_cons (ss_if (sw_or (st_not (st_truth (sx_isi kb_tup B.m_isinstance B.m_tuple boot_tuple (sx_var 0)))) (sw_or (st_cmp r_gt o_gt c_cmp (sx_b1 call_len on_len c_len B.m_len boot_len (sx_var 0)) (sx_var 1)) (sw_or1 (st_not (st_truth (sx_bH (cr_all rfl) on_all c_all B.m_all boot_all (sh_lc (own := [("one", 2)]) (by rfl) sc_are_words.nd (si_v (sx_var 0)) (blkOk_by (own := [("one", 2)]) (N := N_are_words) (sc := defScope s_are_words) (by decide +kernel)) (fun _ _ _ _ _ => by exact (sg_name 2 sc_are_words.nd)) (fun _ _ _ _ _ => by exact sts_nil) (fun _ _ _ _ _ => by exact (sx_call (F_is_word B W W.d_is_word) takes0 hr (by first | decide | omega) (sa_cons (sx_var 2) sa_nil)))))))))).pt
    (ss_one (ss_ret sx_bl))
    ss_nil)
  (ss_one (ss_ret (sx_and (sx_cmp (r_eqT hu) (o_eqT false) c_eqT (sx_lenSet (by rfl) B.m_len boot_len B.m_set boot_set (sx_var 0)) (sx_b1 call_len on_len c_len B.m_len boot_len (sx_var 0))) (sx_one (sx_not (sx_bH (cr_any rfl) on_any c_any B.m_any boot_any (sh_lc (own := [("one", 2)]) (by rfl) sc_are_words.nd (si_v (sx_var 0)) (blkOk_by (own := [("one", 2)]) (N := N_are_words) (sc := defScope s_are_words) (by decide +kernel)) (fun _ _ _ _ _ => by exact (sg_name 2 sc_are_words.nd)) (fun _ _ _ _ _ => by exact sts_nil) (fun _ _ _ _ _ => by exact (sx_cmp (r_in hu) (o_in false) c_in (sx_var 2) (sx_gT B.g_RESERVED_sheets)))))))))))⟩
theorem F_are_forms (B : Ev w K mg) (W : Ds K mg) {nm : Str} (D : Da K mg nm "are_forms" s_are_forms ["datum", "names", "many"]) : FX (TT a ns) P w K mg base 3 nm 3 x_are_forms := by
  refine fx_ofA D sc_are_forms rfl fun f cdv A outer s H E hr => ?_
  have hu := SX.room_hu hr
  have tk : Takes (cxOf (L2.CX P w) P w K mg base N_are_forms "are_forms" (defScope s_are_forms) f cdv A outer s H E) (fun cls d _ H => E cls d H) := takes_of rfl rfl rfl rfl
  exact ⟨_,
    (ss_one (ss_ret (sx_and (sx_call (F_is_tuple B W W.d_is_tuple) tk hr (by first | decide | omega) (sa_cons (sx_var 0) (sa_cons (sx_var 2) sa_nil))) (sx_one (sx_bH (cr_all rfl) on_all c_all B.m_all boot_all (sh_lc (own := [("one", 3)]) (by rfl) sc_are_forms.nd (si_v (sx_var 0)) (blkOk_by (own := [("one", 3)]) (N := N_are_forms) (sc := defScope s_are_forms) (by decide +kernel)) (fun _ _ _ _ _ => by exact (sg_name 3 sc_are_forms.nd)) (fun _ _ _ _ _ => by exact sts_nil) (fun _ _ _ _ _ => by exact (sx_call (F_is_form B W W.d_is_form) takes0 hr (by first | decide | omega) (sa_cons (sx_var 3) (sa_cons (sx_var 1) sa_nil))))))))))⟩
theorem F_is_array (B : Ev w K mg) (W : Ds K mg) {nm : Str} (D : Da K mg nm "is_array" s_is_array ["datum", "sizes"]) : FX (TT a ns) P w K mg base 4 nm 2 x_is_array := by
  refine fx_ofA D sc_is_array rfl fun f cdv A outer s H E hr => ?_
  have hu := SX.room_hu hr
  have tk : Takes (cxOf (L2.CX P w) P w K mg base N_is_array "is_array" (defScope s_is_array) f cdv A outer s H E) (fun cls d _ H => E cls d H) := takes_of rfl rfl rfl rfl
  exact ⟨_,
    (ss_cons (ss_if (sw_or (st_not (st_truth (sx_call (F_is_tuple B W W.d_is_tuple) tk hr (by first | decide | omega) (sa_cons (sx_var 0) (sa_cons sx_int sa_nil))))) (sw_or (st_not (st_truth (sx_call (F_is_word B W W.d_is_word) tk hr (by first | decide | omega) (sa_cons (sx_ix (r_ix hu) o_ixA c_ixA (sx_var 0) sx_int) sa_nil)))) (sw_or1 (st_not (st_truth (sx_isi kb_tup B.m_isinstance B.m_tuple boot_tuple (sx_ix (r_ix hu) o_ixA c_ixA (sx_var 0) sx_int))))))).pt
    (ss_one (ss_ret sx_bl))
    ss_nil)
  (ss_one (ss_ret (sx_and (sx_cmp r_le o_le c_cmp (sx_b1 call_len on_len c_len B.m_len boot_len (sx_ix (r_ix hu) o_ixA c_ixA (sx_var 0) sx_int)) (sx_gI B.g_MOST_INDEXES)) (sx_one (sx_bH (cr_all rfl) on_all c_all B.m_all boot_all (sh_lc (own := [("pair", 2)]) (by rfl) sc_is_array.nd (si_v (sx_ix (r_ix hu) o_ixA c_ixA (sx_var 0) sx_int)) (blkOk_by (own := [("pair", 2)]) (N := N_is_array) (sc := defScope s_is_array) (by decide +kernel)) (fun _ _ _ _ _ => by exact (sg_name 2 sc_is_array.nd)) (fun _ _ _ _ _ => by exact sts_nil) (fun _ _ _ _ _ => by exact (sx_call (F_are_forms B W W.d_are_forms) takes0 hr (by first | decide | omega) (sa_cons (sx_var 2) (sa_cons (sx_var 1) (sa_cons sx_int sa_nil))))))))))))⟩
theorem F_is_box (B : Ev w K mg) (W : Ds K mg) {nm : Str} (D : Da K mg nm "is_box" s_is_box ["datum", "sizes"]) : FX (TT a ns) P w K mg base 4 nm 2 x_is_box := by
  refine fx_ofA D sc_is_box rfl fun f cdv A outer s H E hr => ?_
  have hu := SX.room_hu hr
  have tk : Takes (cxOf (L2.CX P w) P w K mg base N_is_box "is_box" (defScope s_is_box) f cdv A outer s H E) (fun cls d _ H => E cls d H) := takes_of rfl rfl rfl rfl
  exact ⟨_,
    (ss_cons (ss_if (sw_or (st_not (st_truth (sx_isi kb_tup B.m_isinstance B.m_tuple boot_tuple (sx_var 0)))) (sw_or1 (st_not (st_chain r_le o_le c_cmp r_le o_le c_cmp sx_int (sx_b1 call_len on_len c_len B.m_len boot_len (sx_var 0)) (sx_gI B.g_MOST_PLACES))))).pt
    (ss_one (ss_ret sx_bl))
    ss_nil)
  (ss_one (ss_ret (sx_bH (cr_all rfl) on_all c_all B.m_all boot_all (sh_lc (own := [("pair", 2)]) (by rfl) sc_is_box.nd (si_v (sx_var 0)) (blkOk_by (own := [("pair", 2)]) (N := N_is_box) (sc := defScope s_is_box) (by decide +kernel)) (fun _ _ _ _ _ => by exact (sg_name 2 sc_is_box.nd)) (fun _ _ _ _ _ => by exact sts_nil) (fun _ _ _ _ _ => by exact (sx_and (sx_call (F_is_tuple B W W.d_is_tuple) takes0 hr (by first | decide | omega) (sa_cons (sx_var 2) (sa_cons sx_int sa_nil))) (sx_one (sx_call (F_is_set B W W.d_is_set) takes0 hr (by first | decide | omega) (sa_cons (sx_var 2) (sa_cons (sx_var 1) sa_nil)))))))))))⟩
theorem F_is_head (B : Ev w K mg) (W : Ds K mg) {nm : Str} (D : Da K mg nm "is_head" s_is_head ["datum"]) : FX (TT a ns) P w K mg base 5 nm 1 x_is_head := by
  refine fx_ofA D sc_is_head rfl fun f cdv A outer s H E hr => ?_
  have hu := SX.room_hu hr
  have tk : Takes (cxOf (L2.CX P w) P w K mg base N_is_head "is_head" (defScope s_is_head) f cdv A outer s H E) (fun cls d _ H => E cls d H) := takes_of rfl rfl rfl rfl
  exact ⟨_,
    (ss_cons (ss_if (sw_or (st_not (st_truth (sx_call (F_is_word B W W.d_is_word) tk hr (by first | decide | omega) (sa_cons (sx_ix (r_ix hu) o_ixA c_ixA (sx_var 0) sx_int) sa_nil)))) (sw_or (st_not (st_truth (sx_call (F_are_words B W W.d_are_words) tk hr (by first | decide | omega) (sa_cons (sx_ix (r_ix hu) o_ixA c_ixA (sx_var 0) sx_int) (sa_cons (sx_gI B.g_MOST_SIZES) sa_nil))))) (sw_or1 (st_not (st_truth (sx_call (F_is_set B W W.d_is_set) tk hr (by first | decide | omega) (sa_cons (sx_ix (r_ix hu) o_ixA c_ixA (sx_var 0) sx_int) (sa_cons (sx_ix (r_ix hu) o_ixA c_ixA (sx_var 0) sx_int) sa_nil)))))))).pt
    (ss_one (ss_ret sx_bl))
    ss_nil)
  (ss_cons (ss_set 1 sc_is_head.nd (sx_ix (r_ix hu) o_ixA c_ixA (sx_var 0) sx_int))
  (ss_cons (ss_if (sw_or (st_not (st_truth (sx_isi kb_tup B.m_isinstance B.m_tuple boot_tuple (sx_ix (r_ix hu) o_ixA c_ixA (sx_var 0) sx_int)))) (sw_or1 (st_not (st_truth (sx_bH (cr_all rfl) on_all c_all B.m_all boot_all (sh_lc (own := [("one", 2)]) (by rfl) sc_is_head.nd (si_v (sx_ix (r_ix hu) o_ixA c_ixA (sx_var 0) sx_int)) (blkOk_by (own := [("one", 2)]) (N := N_is_head) (sc := defScope s_is_head) (by decide +kernel)) (fun _ _ _ _ _ => by exact (sg_name 2 sc_is_head.nd)) (fun _ _ _ _ _ => by exact sts_nil) (fun _ _ _ _ _ => by exact (sx_call (F_is_array B W W.d_is_array_sheets) takes0 hr (by first | decide | omega) (sa_cons (sx_var 2) (sa_cons (sx_var 1) sa_nil)))))))))).pt
    (ss_one (ss_ret sx_bl))
    ss_nil)
  (ss_one (ss_ret (sx_and (sx_call (F_is_set B W W.d_is_set) tk hr (by first | decide | omega) (sa_cons (sx_slice (sx_var 0) (so_some sx_int) (so_some sx_int)) (sa_cons (sx_var 1) sa_nil))) (sx_one (sx_call (F_is_box B W W.d_is_box) tk hr (by first | decide | omega) (sa_cons (sx_ix (r_ix hu) o_ixA c_ixA (sx_var 0) sx_int) (sa_cons (sx_var 1) sa_nil))))))))))⟩
theorem F_place_names (B : Ev w K mg) (W : Ds K mg) {nm : Str} (D : Da K mg nm "place_names" s_place_names ["many"]) : FX (TT a ns) P w K mg base 1 nm 1 x_place_names := by
  refine fx_ofA D sc_place_names rfl fun f cdv A outer s H E hr => ?_
  have hu := SX.room_hu hr
  have tk : Takes (cxOf (L2.CX P w) P w K mg base N_place_names "place_names" (defScope s_place_names) f cdv A outer s H E) (fun cls d _ H => E cls d H) := takes_of rfl rfl rfl rfl
  exact ⟨_,
    (ss_one (ss_ret (sx_tH call_tupleN on_tup c_tup B.m_tuple boot_tuple (sh_lc (own := [("number", 1)]) (by rfl) sc_place_names.nd (si_r1 (by rfl) B.m_range (sa_cons (sx_var 0) sa_nil)) (blkOk_by (own := [("number", 1)]) (N := N_place_names) (sc := defScope s_place_names) (by decide +kernel)) (fun _ _ _ _ _ => by exact (sg_name 1 sc_place_names.nd)) (fun _ _ _ _ _ => by exact sts_nil) (fun _ _ _ _ _ => by exact (sx_op r_add o_add c_add (sx_gS B.g_PLACE) (sx_t1 call_str_int on_str c_str B.m_str boot_str (sx_var 1))))))))⟩
theorem F_cell_names (B : Ev w K mg) (W : Ds K mg) {nm : Str} (D : Da K mg nm "cell_names" s_cell_names ["sizes", "many"]) : FX (TT a ns) P w K mg base 2 nm 2 x_cell_names := by
  refine fx_ofA D sc_cell_names rfl fun f cdv A outer s H E hr => ?_
  have hu := SX.room_hu hr
  have tk : Takes (cxOf (L2.CX P w) P w K mg base N_cell_names "cell_names" (defScope s_cell_names) f cdv A outer s H E) (fun cls d _ H => E cls d H) := takes_of rfl rfl rfl rfl
  exact ⟨_,
    (ss_one (ss_ret (sx_op r_add o_add c_add (sx_op r_add o_add c_add (sx_var 0) (sx_tup (sa_cons (sx_gS B.g_BEAT) sa_nil))) (sx_call (F_place_names B W W.d_place_names) tk hr (by first | decide | omega) (sa_cons (sx_var 1) sa_nil)))))⟩
theorem F_Rows_init (B : Ev w K mg) (W : Ds K mg) : NX (TT a ns) P w K mg base 3 0 2 x_Rows_init := by
  refine nx_of W.n_Rows_init sc_Rows_init rfl fun f cdv A outer s H E hr => ?_
  have hu := SX.room_hu hr
  have tk : Takes (cxOf (L2.CX P w) P w K mg base N_Rows_init "Rows.__init__" (defScope s_Rows_init) f cdv A outer s H E) (fun cls d _ H => E cls d H) := takes_of rfl rfl rfl rfl
  exact ⟨_,
    (ss_cons (ss_setF (FldOk.cons B.f_Rows_places FldOk.nil) (sx_var 0) (sx_b1 call_len on_len c_len B.m_len boot_len (sx_ix (r_ix hu) o_ixA c_ixA (sx_var 1) sx_int)))
  (ss_cons (ss_setF (FldOk.cons B.f_Rows_names FldOk.nil) (sx_var 0) (sx_call (F_cell_names B W W.d_cell_names) tk hr (by first | decide | omega) (sa_cons (sx_ix (r_ix hu) o_ixA c_ixA (sx_var 1) sx_int) (sa_cons (sx_fld (FldOk.cons B.f_Rows_places FldOk.nil) (sx_var 0)) sa_nil))))
  (ss_cons (ss_setF (FldOk.cons B.f_Rows_wide FldOk.nil) (sx_var 0) (sx_tH (call_dictN rfl) on_dict c_dict B.m_dict boot_dict (sh_lc (own := [("one", 2)]) (by rfl) sc_Rows_init.nd (si_v (sx_ix (r_ix hu) o_ixA c_ixA (sx_var 1) sx_int)) (blkOk_by (own := [("one", 2)]) (N := N_Rows_init) (sc := defScope s_Rows_init) (by decide +kernel)) (fun _ _ _ _ _ => by exact (sg_name 2 sc_Rows_init.nd)) (fun _ _ _ _ _ => by exact sts_nil) (fun _ _ _ _ _ => by exact (sx_tup (sa_cons (sx_ix (r_ix hu) o_ixA c_ixA (sx_var 2) sx_int) (sa_cons (sx_b1 call_len on_len c_len B.m_len boot_len (sx_ix (r_ix hu) o_ixA c_ixA (sx_var 2) sx_int)) sa_nil)))))))
  (ss_one (ss_setF (FldOk.cons B.f_Rows_units FldOk.nil) (sx_var 0) (sx_tH call_tupleN on_tup c_tup B.m_tuple boot_tuple (sh_lc (own := [("row", 3)]) (by rfl) sc_Rows_init.nd (si_v (sx_ix (r_ix hu) o_ixA c_ixA (sx_var 1) sx_int)) (blkOk_by (own := [("row", 3)]) (N := N_Rows_init) (sc := defScope s_Rows_init) (by decide +kernel)) (fun _ _ _ _ _ => by exact (sg_name 3 sc_Rows_init.nd)) (fun _ _ _ _ _ => by exact sts_nil) (fun _ _ _ _ _ => by exact (sx_ix (r_ix hu) o_ixA c_ixA (sx_var 3) sx_int)))))))))⟩
theorem F_is_condition (B : Ev w K mg) (W : Ds K mg) {nm : Str} (D : Da K mg nm "is_condition" s_is_condition ["datum", "names"]) : FX (TT a ns) P w K mg base 3 nm 2 x_is_condition := by
  refine fx_ofA D sc_is_condition rfl fun f cdv A outer s H E hr => ?_
  have hu := SX.room_hu hr
  have tk : Takes (cxOf (L2.CX P w) P w K mg base N_is_condition "is_condition" (defScope s_is_condition) f cdv A outer s H E) (fun cls d _ H => E cls d H) := takes_of rfl rfl rfl rfl
  exact ⟨_,
    (ss_cons (ss_if (st_truth (sx_call (F_is_tuple B W W.d_is_tuple) tk hr (by first | decide | omega) (sa_cons (sx_var 0) (sa_cons sx_int sa_nil))))
    (ss_one (ss_ret (sx_and (sx_isi kb_str B.m_isinstance B.m_str boot_str (sx_ix (r_ix hu) o_ixA c_ixA (sx_var 0) sx_int)) (sx_and (sx_cmp (r_eqT hu) (o_eqT false) c_eqT (sx_ix (r_ix hu) o_ixA c_ixA (sx_var 0) sx_int) (sx_gS B.g_LEAST)) (sx_one (sx_call (F_is_form B W W.d_is_form) tk hr (by first | decide | omega) (sa_cons (sx_ix (r_ix hu) o_ixA c_ixA (sx_var 0) sx_int) (sa_cons (sx_var 1) sa_nil))))))))
    ss_nil)
  (ss_cons (ss_if (sw_or (st_not (st_truth (sx_call (F_is_tuple B W W.d_is_tuple) tk hr (by first | decide | omega) (sa_cons (sx_var 0) (sa_cons sx_int sa_nil))))) (sw_or (st_not (st_truth (sx_isi kb_str B.m_isinstance B.m_str boot_str (sx_ix (r_ix hu) o_ixA c_ixA (sx_var 0) sx_int)))) (sw_or1 (st_cmp (r_neT hu) (o_eqT true) c_eqT (sx_ix (r_ix hu) o_ixA c_ixA (sx_var 0) sx_int) (sx_gS B.g_DIVIDES))))).pt
    (ss_one (ss_ret sx_bl))
    ss_nil)
  (ss_one (ss_ret (sx_and (sx_call (F_is_integer B W W.d_is_integer) tk hr (by first | decide | omega) (sa_cons (sx_ix (r_ix hu) o_ixA c_ixA (sx_var 0) sx_int) sa_nil)) (sx_and (sx_cmp r_ge o_ge c_cmp (sx_ix (r_ix hu) o_ixA c_ixA (sx_var 0) sx_int) sx_int) (sx_one (sx_call (F_is_form B W W.d_is_form) tk hr (by first | decide | omega) (sa_cons (sx_ix (r_ix hu) o_ixA c_ixA (sx_var 0) sx_int) (sa_cons (sx_var 1) sa_nil))))))))))⟩
theorem F_are_integers (B : Ev w K mg) (W : Ds K mg) {nm : Str} (D : Da K mg nm "are_integers" s_are_integers ["datum", "many"]) : FX (TT a ns) P w K mg base 2 nm 2 x_are_integers := by
  refine fx_ofA D sc_are_integers rfl fun f cdv A outer s H E hr => ?_
  have hu := SX.room_hu hr
  have tk : Takes (cxOf (L2.CX P w) P w K mg base N_are_integers "are_integers" (defScope s_are_integers) f cdv A outer s H E) (fun cls d _ H => E cls d H) := takes_of rfl rfl rfl rfl
  exact ⟨_,
    (ss_one (ss_ret (sx_and (sx_call (F_is_tuple B W W.d_is_tuple) tk hr (by first | decide | omega) (sa_cons (sx_var 0) (sa_cons (sx_var 1) sa_nil))) (sx_one (sx_bH (cr_all rfl) on_all c_all B.m_all boot_all (sh_lc (own := [("one", 2)]) (by rfl) sc_are_integers.nd (si_v (sx_var 0)) (blkOk_by (own := [("one", 2)]) (N := N_are_integers) (sc := defScope s_are_integers) (by decide +kernel)) (fun _ _ _ _ _ => by exact (sg_name 2 sc_are_integers.nd)) (fun _ _ _ _ _ => by exact sts_nil) (fun _ _ _ _ _ => by exact (sx_call (F_is_integer B W W.d_is_integer) takes0 hr (by first | decide | omega) (sa_cons (sx_var 2) sa_nil)))))))))⟩
theorem F_is_wire (B : Ev w K mg) (W : Ds K mg) {nm : Str} (D : Da K mg nm "is_wire" s_is_wire ["datum", "units", "places"]) : FX (TT a ns) P w K mg base 3 nm 3 x_is_wire := by
  refine fx_ofA D sc_is_wire rfl fun f cdv A outer s H E hr => ?_
  have hu := SX.room_hu hr
  have tk : Takes (cxOf (L2.CX P w) P w K mg base N_is_wire "is_wire" (defScope s_is_wire) f cdv A outer s H E) (fun cls d _ H => E cls d H) := takes_of rfl rfl rfl rfl
  exact ⟨_,
    (ss_cons (ss_if (sw_or (st_not (st_truth (sx_call (F_is_tuple B W W.d_is_tuple) tk hr (by first | decide | omega) (sa_cons (sx_var 0) (sa_cons sx_int sa_nil))))) (sw_or (st_cmp (r_notIn hu) (o_in true) c_in (sx_ix (r_ix hu) o_ixA c_ixA (sx_var 0) sx_int) (sx_var 1)) (sw_or1 (st_not (st_truth (sx_call (F_are_integers B W W.d_are_integers) tk hr (by first | decide | omega) (sa_cons (sx_ix (r_ix hu) o_ixA c_ixA (sx_var 0) sx_int) (sa_cons (sx_var 2) sa_nil)))))))).pt
    (ss_one (ss_ret sx_bl))
    ss_nil)
  (ss_one (ss_ret (sx_and (sx_call (F_is_integer B W W.d_is_integer) tk hr (by first | decide | omega) (sa_cons (sx_ix (r_ix hu) o_ixA c_ixA (sx_var 0) sx_int) sa_nil)) (sx_one (sx_cmp r_ge o_ge c_cmp (sx_ix (r_ix hu) o_ixA c_ixA (sx_var 0) sx_int) sx_int))))))⟩
theorem F_is_rim (B : Ev w K mg) (W : Ds K mg) {nm : Str} (D : Da K mg nm "is_rim" s_is_rim ["datum", "names", "wide"]) : FX (TT a ns) P w K mg base 3 nm 3 x_is_rim := by
  refine fx_ofA D sc_is_rim rfl fun f cdv A outer s H E hr => ?_
  have hu := SX.room_hu hr
  have tk : Takes (cxOf (L2.CX P w) P w K mg base N_is_rim "is_rim" (defScope s_is_rim) f cdv A outer s H E) (fun cls d _ H => E cls d H) := takes_of rfl rfl rfl rfl
  exact ⟨_,
    (ss_cons (ss_if (sw_or (st_not (st_truth (sx_call (F_is_tuple B W W.d_is_tuple) tk hr (by first | decide | omega) (sa_cons (sx_var 0) (sa_cons sx_int sa_nil))))) (sw_or (st_not (st_truth (sx_isi kb_str B.m_isinstance B.m_str boot_str (sx_ix (r_ix hu) o_ixA c_ixA (sx_var 0) sx_int)))) (sw_or1 (st_cmp (r_notIn hu) (o_in true) c_in (sx_ix (r_ix hu) o_ixA c_ixA (sx_var 0) sx_int) (sx_var 2))))).pt
    (ss_one (ss_ret sx_bl))
    ss_nil)
  (ss_cons (ss_if (sw_or (st_not (st_truth (sx_call (F_is_tuple B W W.d_is_tuple) tk hr (by first | decide | omega) (sa_cons (sx_ix (r_ix hu) o_ixA c_ixA (sx_var 0) sx_int) (sa_cons (sx_ix (r_ix hu) o_ixA c_ixA (sx_var 2) (sx_ix (r_ix hu) o_ixA c_ixA (sx_var 0) sx_int)) sa_nil))))) (sw_or1 (st_not (st_truth (sx_bH (cr_all rfl) on_all c_all B.m_all boot_all (sh_lc (own := [("pair", 3)]) (by rfl) sc_is_rim.nd (si_v (sx_ix (r_ix hu) o_ixA c_ixA (sx_var 0) sx_int)) (blkOk_by (own := [("pair", 3)]) (N := N_is_rim) (sc := defScope s_is_rim) (by decide +kernel)) (fun _ _ _ _ _ => by exact (sg_name 3 sc_is_rim.nd)) (fun _ _ _ _ _ => by exact sts_nil) (fun _ _ _ _ _ => by exact (sx_call (F_is_tuple B W W.d_is_tuple) takes0 hr (by first | decide | omega) (sa_cons (sx_var 3) (sa_cons sx_int sa_nil)))))))))).pt
    (ss_one (ss_ret sx_bl))
    ss_nil)
  (ss_one (ss_ret (sx_bH (cr_all rfl) on_all c_all B.m_all boot_all (sh_lc (own := [("m", 4), ("f", 5)]) (by rfl) sc_is_rim.nd (si_v (sx_ix (r_ix hu) o_ixA c_ixA (sx_var 0) sx_int)) (blkOk_by (own := [("m", 4), ("f", 5)]) (N := N_is_rim) (sc := defScope s_is_rim) (by decide +kernel)) (fun _ _ _ _ _ => by exact (sg_tupC (K := K) (n := 2) (by rfl) (by rfl) (sg_cons (sg_name 4 sc_is_rim.nd) (sg_cons (sg_name 5 sc_is_rim.nd) sg_nil)))) (fun _ _ _ _ _ => by exact sts_nil) (fun _ _ _ _ _ => by exact (sx_and (sx_call (F_is_integer B W W.d_is_integer) takes0 hr (by first | decide | omega) (sa_cons (sx_var 4) sa_nil)) (sx_and (sx_cmp r_ge o_ge c_cmp (sx_var 4) sx_int) (sx_one (sx_call (F_is_form B W W.d_is_form) takes0 hr (by first | decide | omega) (sa_cons (sx_var 5) (sa_cons (sx_var 1) sa_nil)))))))))))))⟩
theorem F_gr_Rows_is_expression (B : Ev w K mg) (W : Ds K mg) : ∀ n, (MX (TT a ns) P w K mg base (n + 3) 0 "is_expression" 3 [] (gr_Rows_is_expression n 0))
  | 0 => MX.none W.m_Rows_is_expression_0 rfl
  | n + 1 => by
    obtain R0_0 := F_gr_Rows_is_expression B W n
    refine ?_
    · refine mx_of W.m_Rows_is_expression_0 sc_Rows_is_expression rfl fun f cdv A outer s H E hr => ?_
      have hu := SX.room_hu hr
      have tk : Takes (cxOf (L2.CX P w) P w K mg base N_Rows_is_expression "Rows.is_expression" (defScope s_Rows_is_expression) f cdv A outer s H E) (fun cls d _ H => E cls d H) := takes_of rfl rfl rfl rfl
      exact ⟨_,
        (ss_cons (ss_if (sw_or (st_cmp r_lt o_lt c_cmp (sx_var 2) sx_int) (sw_or (st_not (st_truth (sx_isi kb_tup B.m_isinstance B.m_tuple boot_tuple (sx_var 1)))) (sw_or (st_cmp (r_eqT hu) (o_eqT false) c_eqT (sx_var 1) (sx_tup sa_nil)) (sw_or1 (st_not (st_truth (sx_isi kb_str B.m_isinstance B.m_str boot_str (sx_ix (r_ix hu) o_ixA c_ixA (sx_var 1) sx_int)))))))).pt
      (ss_one (ss_ret sx_bl))
      ss_nil)
    (ss_cons (ss_if (st_cmp (r_in hu) (o_in false) c_in (sx_ix (r_ix hu) o_ixA c_ixA (sx_var 1) sx_int) (sx_gT B.g_OPERATIONS))
      (ss_one (ss_ret (sx_and (sx_call (F_is_tuple B W W.d_is_tuple) tk hr (by first | decide | omega) (sa_cons (sx_var 1) (sa_cons sx_int sa_nil))) (sx_one (sx_bH (cr_all rfl) on_all c_all B.m_all boot_all (sh_lc (own := [("part", 3)]) (by rfl) sc_Rows_is_expression.nd (si_v (sx_slice (sx_var 1) (so_some sx_int) so_none)) (blkOk_by (own := [("part", 3)]) (N := N_Rows_is_expression) (sc := defScope s_Rows_is_expression) (by decide +kernel)) (fun _ _ _ _ _ => by exact (sg_name 3 sc_Rows_is_expression.nd)) (fun _ _ _ _ _ => by exact sts_nil) (fun _ _ _ _ _ => by exact (sx_meth R0_0 takes0 hr (by first | decide | omega) (sx_var 0) (sa_cons (sx_var 3) (sa_cons (sx_op op_sub o_sub c_sub (sx_var 2) sx_int) sa_nil))))))))))
      ss_nil)
    (ss_cons (ss_if (st_cmp (r_eqT hu) (o_eqT false) c_eqT (sx_ix (r_ix hu) o_ixA c_ixA (sx_var 1) sx_int) (sx_gS B.g_NUMBER))
      (ss_one (ss_ret (sx_and (sx_call (F_is_tuple B W W.d_is_tuple) tk hr (by first | decide | omega) (sa_cons (sx_var 1) (sa_cons sx_int sa_nil))) (sx_one (sx_call (F_is_integer B W W.d_is_integer) tk hr (by first | decide | omega) (sa_cons (sx_ix (r_ix hu) o_ixA c_ixA (sx_var 1) sx_int) sa_nil))))))
      ss_nil)
    (ss_cons (ss_if (st_cmp (r_eqT hu) (o_eqT false) c_eqT (sx_ix (r_ix hu) o_ixA c_ixA (sx_var 1) sx_int) (sx_gS B.g_WIRE))
      (ss_one (ss_ret (sx_call (F_is_wire B W W.d_is_wire) tk hr (by first | decide | omega) (sa_cons (sx_var 1) (sa_cons (sx_fld (FldOk.cons B.f_Rows_units FldOk.nil) (sx_var 0)) (sa_cons (sx_fld (FldOk.cons B.f_Rows_places FldOk.nil) (sx_var 0)) sa_nil))))))
      ss_nil)
    (ss_one (ss_ret (sx_and (sx_cmp (r_eqT hu) (o_eqT false) c_eqT (sx_ix (r_ix hu) o_ixA c_ixA (sx_var 1) sx_int) (sx_gS B.g_RIM)) (sx_one (sx_call (F_is_rim B W W.d_is_rim) tk hr (by first | decide | omega) (sa_cons (sx_var 1) (sa_cons (sx_fld (FldOk.cons B.f_Rows_names FldOk.nil) (sx_var 0)) (sa_cons (sx_fld (FldOk.cons B.f_Rows_wide FldOk.nil) (sx_var 0)) sa_nil))))))))))))⟩
theorem F_Rows_is_expression_0 (B : Ev w K mg) (W : Ds K mg) : MX (TT a ns) P w K mg base 27 0 "is_expression" 3 [] x_Rows_is_expression := (F_gr_Rows_is_expression B W 24)
theorem F_Rows_is_row_0 (B : Ev w K mg) (W : Ds K mg) : MX (TT a ns) P w K mg base 28 0 "is_row" 2 [] x_Rows_is_row := by
  refine mx_of W.m_Rows_is_row_0 sc_Rows_is_row rfl fun f cdv A outer s H E hr => ?_
  have hu := SX.room_hu hr
  have tk : Takes (cxOf (L2.CX P w) P w K mg base N_Rows_is_row "Rows.is_row" (defScope s_Rows_is_row) f cdv A outer s H E) (fun cls d _ H => E cls d H) := takes_of rfl rfl rfl rfl
  exact ⟨_,
    (ss_cons (ss_if (sw_or (st_not (st_truth (sx_isi kb_tup B.m_isinstance B.m_tuple boot_tuple (sx_ix (r_ix hu) o_ixA c_ixA (sx_var 1) sx_int)))) (sw_or1 (st_not (st_truth (sx_bH (cr_all rfl) on_all c_all B.m_all boot_all (sh_lc (own := [("one", 2)]) (by rfl) sc_Rows_is_row.nd (si_v (sx_ix (r_ix hu) o_ixA c_ixA (sx_var 1) sx_int)) (blkOk_by (own := [("one", 2)]) (N := N_Rows_is_row) (sc := defScope s_Rows_is_row) (by decide +kernel)) (fun _ _ _ _ _ => by exact (sg_name 2 sc_Rows_is_row.nd)) (fun _ _ _ _ _ => by exact sts_nil) (fun _ _ _ _ _ => by exact (sx_call (F_is_condition B W W.d_is_condition) takes0 hr (by first | decide | omega) (sa_cons (sx_var 2) (sa_cons (sx_fld (FldOk.cons B.f_Rows_names FldOk.nil) (sx_var 0)) sa_nil)))))))))).pt
    (ss_one (ss_ret sx_bl))
    ss_nil)
  (ss_one (ss_ret (sx_meth (F_Rows_is_expression_0 B W) tk hr (by first | decide | omega) (sx_var 0) (sa_cons (sx_ix (r_ix hu) o_ixA c_ixA (sx_var 1) sx_int) (sa_cons (sx_gI B.g_DEEP) sa_nil))))))⟩
theorem F_are_together (B : Ev w K mg) (W : Ds K mg) {nm : Str} (D : Da K mg nm "are_together" s_are_together ["names"]) : FX (TT a ns) P w K mg base 1 nm 1 x_are_together := by
  refine fx_ofA D sc_are_together rfl fun f cdv A outer s H E hr => ?_
  have hu := SX.room_hu hr
  have tk : Takes (cxOf (L2.CX P w) P w K mg base N_are_together "are_together" (defScope s_are_together) f cdv A outer s H E) (fun cls d _ H => E cls d H) := takes_of rfl rfl rfl rfl
  exact ⟨_,
    (ss_cons (ss_setLc 1 (own := [("place", 2)]) (by rfl) sc_are_together.nd (si_r2 (by rfl) B.m_range (sa_cons sx_int (sa_cons (sx_b1 call_len on_len c_len B.m_len boot_len (sx_var 0)) sa_nil))) (blkOk_by (own := [("place", 2)]) (N := N_are_together) (sc := defScope s_are_together) (by decide +kernel)) (fun _ _ _ _ _ => by exact (sg_name 2 sc_are_together.nd)) (fun _ _ _ _ _ => by exact (sts_one (st_cmp (r_neT hu) (o_eqT true) c_eqT (sx_ix (r_ix hu) o_ixA c_ixA (sx_var 0) (sx_var 2)) (sx_ix (r_ix hu) o_ixA c_ixA (sx_var 0) (sx_op op_sub o_sub c_sub (sx_var 2) sx_int))))) (fun _ _ _ _ _ => by exact (sx_var 2)))
  (ss_one (ss_ret (sx_cmp (r_eqT hu) (o_eqT false) c_eqT (sx_op r_add o_add c_add (sx_b1 call_len on_len c_len B.m_len boot_len (sx_var 1)) sx_int) (sx_lenSet (by rfl) B.m_len boot_len B.m_set boot_set (sx_var 0))))))⟩
theorem F_is_piece (B : Ev w K mg) (W : Ds K mg) {nm : Str} (D : Da K mg nm "is_piece" s_is_piece ["datum", "names", "units", "places"]) : FX (TT a ns) P w K mg base 4 nm 4 x_is_piece := by
  refine fx_ofA D sc_is_piece rfl fun f cdv A outer s H E hr => ?_
  have hu := SX.room_hu hr
  have tk : Takes (cxOf (L2.CX P w) P w K mg base N_is_piece "is_piece" (defScope s_is_piece) f cdv A outer s H E) (fun cls d _ H => E cls d H) := takes_of rfl rfl rfl rfl
  exact ⟨_,
    (ss_cons (ss_if (sw_or (st_not (st_truth (sx_call (F_is_tuple B W W.d_is_tuple) tk hr (by first | decide | omega) (sa_cons (sx_var 0) (sa_cons sx_int sa_nil))))) (sw_or (st_cmp (r_notIn hu) (o_in true) c_in (sx_ix (r_ix hu) o_ixA c_ixA (sx_var 0) sx_int) (sx_var 2)) (sw_or1 (st_not (st_truth (sx_call (F_is_set B W W.d_is_set) tk hr (by first | decide | omega) (sa_cons (sx_ix (r_ix hu) o_ixA c_ixA (sx_var 0) sx_int) (sa_cons (sx_var 1) sa_nil)))))))).pt
    (ss_one (ss_ret sx_bl))
    ss_nil)
  (ss_one (ss_ret (sx_and (sx_call (F_is_form B W W.d_is_form) tk hr (by first | decide | omega) (sa_cons (sx_ix (r_ix hu) o_ixA c_ixA (sx_var 0) sx_int) (sa_cons (sx_var 1) sa_nil))) (sx_and (sx_call (F_is_tuple B W W.d_is_tuple) tk hr (by first | decide | omega) (sa_cons (sx_ix (r_ix hu) o_ixA c_ixA (sx_var 0) sx_int) (sa_cons (sx_var 3) sa_nil))) (sx_one (sx_call (F_is_set B W W.d_is_set) tk hr (by first | decide | omega) (sa_cons (sx_ix (r_ix hu) o_ixA c_ixA (sx_var 0) sx_int) (sa_cons (sx_var 1) sa_nil)))))))))⟩
theorem F_is_out (B : Ev w K mg) (W : Ds K mg) {nm : Str} (D : Da K mg nm "is_out" s_is_out ["datum", "sizes", "units", "places"]) : FX (TT a ns) P w K mg base 5 nm 4 x_is_out := by
  refine fx_ofA D sc_is_out rfl fun f cdv A outer s H E hr => ?_
  have hu := SX.room_hu hr
  have tk : Takes (cxOf (L2.CX P w) P w K mg base N_is_out "is_out" (defScope s_is_out) f cdv A outer s H E) (fun cls d _ H => E cls d H) := takes_of rfl rfl rfl rfl
  exact ⟨_,
    (ss_cons (ss_if (sw_or (st_not (st_truth (sx_call (F_is_tuple B W W.d_is_tuple) tk hr (by first | decide | omega) (sa_cons (sx_var 0) (sa_cons sx_int sa_nil))))) (sw_or (st_not (st_truth (sx_call (F_is_word B W W.d_is_word) tk hr (by first | decide | omega) (sa_cons (sx_ix (r_ix hu) o_ixA c_ixA (sx_var 0) sx_int) sa_nil)))) (sw_or1 (st_not (st_truth (sx_call (F_are_words B W W.d_are_words) tk hr (by first | decide | omega) (sa_cons (sx_ix (r_ix hu) o_ixA c_ixA (sx_var 0) sx_int) (sa_cons (sx_gI B.g_MOST_INDEXES) sa_nil)))))))).pt
    (ss_one (ss_ret sx_bl))
    ss_nil)
  (ss_cons (ss_set 4 sc_is_out.nd (sx_op r_add o_add c_add (sx_var 1) (sx_ix (r_ix hu) o_ixA c_ixA (sx_var 0) sx_int)))
  (ss_cons (ss_if (sw_or (st_cmp (r_neT hu) (o_eqT true) c_eqT (sx_lenSet (by rfl) B.m_len boot_len B.m_set boot_set (sx_var 4)) (sx_b1 call_len on_len c_len B.m_len boot_len (sx_var 4))) (sw_or1 (st_not (st_truth (sx_call (F_is_set B W W.d_is_set) tk hr (by first | decide | omega) (sa_cons (sx_ix (r_ix hu) o_ixA c_ixA (sx_var 0) sx_int) (sa_cons (sx_var 4) sa_nil))))))).pt
    (ss_one (ss_ret sx_bl))
    ss_nil)
  (ss_cons (ss_if (sw_or (st_not (st_truth (sx_isi kb_tup B.m_isinstance B.m_tuple boot_tuple (sx_ix (r_ix hu) o_ixA c_ixA (sx_var 0) sx_int)))) (sw_or1 (st_cmp (r_eqT hu) (o_eqT false) c_eqT (sx_ix (r_ix hu) o_ixA c_ixA (sx_var 0) sx_int) (sx_tup sa_nil)))).pt
    (ss_one (ss_ret sx_bl))
    ss_nil)
  (ss_one (ss_ret (sx_bH (cr_all rfl) on_all c_all B.m_all boot_all (sh_lc (own := [("piece", 5)]) (by rfl) sc_is_out.nd (si_v (sx_ix (r_ix hu) o_ixA c_ixA (sx_var 0) sx_int)) (blkOk_by (own := [("piece", 5)]) (N := N_is_out) (sc := defScope s_is_out) (by decide +kernel)) (fun _ _ _ _ _ => by exact (sg_name 5 sc_is_out.nd)) (fun _ _ _ _ _ => by exact sts_nil) (fun _ _ _ _ _ => by exact (sx_call (F_is_piece B W W.d_is_piece) takes0 hr (by first | decide | omega) (sa_cons (sx_var 5) (sa_cons (sx_var 4) (sa_cons (sx_var 2) (sa_cons (sx_var 3) sa_nil))))))))))))))⟩
theorem F_units_of (B : Ev w K mg) (W : Ds K mg) {nm : Str} (D : Da K mg nm "units_of" s_units_of ["array"]) : FX (TT a ns) P w K mg base 1 nm 1 x_units_of := by
  refine fx_ofA D sc_units_of rfl fun f cdv A outer s H E hr => ?_
  have hu := SX.room_hu hr
  have tk : Takes (cxOf (L2.CX P w) P w K mg base N_units_of "units_of" (defScope s_units_of) f cdv A outer s H E) (fun cls d _ H => E cls d H) := takes_of rfl rfl rfl rfl
  exact ⟨_,
    (ss_cons (ss_set 1 sc_units_of.nd (sx_new (sh_lst sa_nil)))
  (ss_cons (ss_for (passes_of rfl) (by rfl) (si_v (sx_ix (r_ix hu) o_ixA c_ixA (sx_var 0) sx_int)) (sg_name 2 sc_units_of.nd)
    (ss_one (ss_if (st_cmp (r_notIn hu) (o_in true) c_in (sx_ix (r_ix hu) o_ixA c_ixA (sx_var 2) sx_int) (sx_var 1))
      (ss_one (ss_expr (sx_m PySem.F.plainAttrs_list PySem.F.slot_list_append PySem.F.type_list_append mt_append om_app c_app (sx_var 1) (sa_cons (sx_ix (r_ix hu) o_ixA c_ixA (sx_var 2) sx_int) sa_nil))))
      ss_nil)))
  (ss_one (ss_ret (sx_t1 call_tupleN on_tupV c_tupV B.m_tuple boot_tuple (sx_var 1))))))⟩
theorem F_is_array2 (B : Ev w K mg) (W : Ds K mg) {nm : Str} (D : Da K mg nm "is_array" s_is_array2 ["datum"]) : FX (TT a ns) P w K mg base 29 nm 1 x_is_array2 := by
  refine fx_ofA D sc_is_array2 rfl fun f cdv A outer s H E hr => ?_
  have hu := SX.room_hu hr
  have tk : Takes (cxOf (L2.CX P w) P w K mg base N_is_array2 "is_array" (defScope s_is_array2) f cdv A outer s H E) (fun cls d _ H => E cls d H) := takes_of rfl rfl rfl rfl
  exact ⟨_,
    (ss_cons (ss_if (sw_or (st_not (st_truth (sx_call (F_is_tuple B W W.d_is_tuple) tk hr (by first | decide | omega) (sa_cons (sx_var 0) (sa_cons sx_int sa_nil))))) (sw_or (st_not (st_truth (sx_call (F_is_head B W W.d_is_head) tk hr (by first | decide | omega) (sa_cons (sx_var 0) sa_nil)))) (sw_or1 (st_not (st_truth (sx_isi kb_tup B.m_isinstance B.m_tuple boot_tuple (sx_ix (r_ix hu) o_ixA c_ixA (sx_var 0) sx_int))))))).pt
    (ss_one (ss_ret sx_bl))
    ss_nil)
  (ss_cons (ss_set 1 sc_is_array2.nd (sx_ix (r_ix hu) o_ixA c_ixA (sx_var 0) sx_int))
  (ss_cons (ss_if (sw_or (st_not (st_truth (sx_isi kb_tup B.m_isinstance B.m_tuple boot_tuple (sx_var 1)))) (sw_or (st_cmp (r_eqT hu) (o_eqT false) c_eqT (sx_var 1) (sx_tup sa_nil)) (sw_or1 (st_not (st_truth (sx_bH (cr_all rfl) on_all c_all B.m_all boot_all (sh_lc (own := [("row", 4)]) (by rfl) sc_is_array2.nd (si_v (sx_var 1)) (blkOk_by (own := [("row", 4)]) (N := N_is_array2) (sc := defScope s_is_array2) (by decide +kernel)) (fun _ _ _ _ _ => by exact (sg_name 4 sc_is_array2.nd)) (fun _ _ _ _ _ => by exact sts_nil) (fun _ _ _ _ _ => by exact (sx_and (sx_call (F_is_tuple B W W.d_is_tuple) takes0 hr (by first | decide | omega) (sa_cons (sx_var 4) (sa_cons sx_int sa_nil))) (sx_one (sx_call (F_is_word B W W.d_is_word) takes0 hr (by first | decide | omega) (sa_cons (sx_ix (r_ix hu) o_ixA c_ixA (sx_var 4) sx_int) sa_nil)))))))))))).pt
    (ss_one (ss_ret sx_bl))
    ss_nil)
  (ss_cons (ss_set 2 sc_is_array2.nd (sx_make (F_Rows_init B W) tk hr (by first | decide | omega) (sa_cons (sx_var 0) sa_nil)))
  (ss_cons (ss_if (sw_or (st_not (st_truth (sx_call (F_are_together B W W.d_are_together) tk hr (by first | decide | omega) (sa_cons (sx_fld (FldOk.cons B.f_Rows_units FldOk.nil) (sx_var 2)) sa_nil)))) (sw_or1 (st_not (st_truth (sx_bH (cr_all rfl) on_all c_all B.m_all boot_all (sh_lc (own := [("row", 4)]) (by rfl) sc_is_array2.nd (si_v (sx_var 1)) (blkOk_by (own := [("row", 4)]) (N := N_is_array2) (sc := defScope s_is_array2) (by decide +kernel)) (fun _ _ _ _ _ => by exact (sg_name 4 sc_is_array2.nd)) (fun _ _ _ _ _ => by exact sts_nil) (fun _ _ _ _ _ => by exact (sx_meth (F_Rows_is_row_0 B W) takes0 hr (by first | decide | omega) (sx_var 2) (sa_cons (sx_var 4) sa_nil))))))))).pt
    (ss_one (ss_ret sx_bl))
    ss_nil)
  (ss_cons (ss_if (st_not (st_truth (sx_bH (cr_all rfl) on_all c_all B.m_all boot_all (sh_lc (own := [("one", 5)]) (by rfl) sc_is_array2.nd (si_v (sx_ix (r_ix hu) o_ixA c_ixA (sx_var 0) sx_int)) (blkOk_by (own := [("one", 5)]) (N := N_is_array2) (sc := defScope s_is_array2) (by decide +kernel)) (fun _ _ _ _ _ => by exact (sg_name 5 sc_is_array2.nd)) (fun _ _ _ _ _ => by exact sts_nil) (fun _ _ _ _ _ => by exact (sx_call (F_is_out B W W.d_is_out) takes0 hr (by first | decide | omega) (sa_cons (sx_var 5) (sa_cons (sx_ix (r_ix hu) o_ixA c_ixA (sx_var 0) sx_int) (sa_cons (sx_fld (FldOk.cons B.f_Rows_units FldOk.nil) (sx_var 2)) (sa_cons (sx_fld (FldOk.cons B.f_Rows_places FldOk.nil) (sx_var 2)) sa_nil))))))))))
    (ss_one (ss_ret sx_bl))
    ss_nil)
  (ss_cons (ss_set 3 sc_is_array2.nd (sx_op r_add o_add c_add (sx_new (sh_lc (own := [("one", 5)]) (by rfl) sc_is_array2.nd (si_v (sx_op r_add o_add c_add (sx_ix (r_ix hu) o_ixA c_ixA (sx_var 0) sx_int) (sx_ix (r_ix hu) o_ixA c_ixA (sx_var 0) sx_int))) (blkOk_by (own := [("one", 5)]) (N := N_is_array2) (sc := defScope s_is_array2) (by decide +kernel)) (fun _ _ _ _ _ => by exact (sg_name 5 sc_is_array2.nd)) (fun _ _ _ _ _ => by exact sts_nil) (fun _ _ _ _ _ => by exact (sx_ix (r_ix hu) o_ixA c_ixA (sx_var 5) sx_int)))) (sx_t1 call_list_of on_listV c_listV B.m_list boot_list (sx_call (F_units_of B W W.d_units_of) tk hr (by first | decide | omega) (sa_cons (sx_var 0) sa_nil)))))
  (ss_one (ss_ret (sx_cmp (r_eqT hu) (o_eqT false) c_eqT (sx_lenSet (by rfl) B.m_len boot_len B.m_set boot_set (sx_var 3)) (sx_b1 call_len on_len c_len B.m_len boot_len (sx_var 3))))))))))))⟩
theorem F_law_spoilt_heads (B : Ev w K mg) (W : Ds K mg) {nm : Str} (D : Da K mg nm "_law_spoilt_heads" s_law_spoilt_heads ["array"]) : FX (TT a ns) P w K mg base 1 nm 1 x_law_spoilt_heads := by
  refine fx_ofA D sc_law_spoilt_heads rfl fun f cdv A outer s H E hr => ?_
  have hu := SX.room_hu hr
  have tk : Takes (cxOf (L2.CX P w) P w K mg base N_law_spoilt_heads "_law_spoilt_heads" (defScope s_law_spoilt_heads) f cdv A outer s H E) (fun cls d _ H => E cls d H) := takes_of rfl rfl rfl rfl
  exact ⟨_,
    (ss_cons (ss_set 1 sc_law_spoilt_heads.nd (sx_tup (sa_cons sx_int (sa_cons (sx_tup sa_nil) sa_nil))))
  (ss_cons (ss_set 2 sc_law_spoilt_heads.nd (sx_tup (sa_cons sx_int (sa_cons (sx_tup (sa_cons (sx_tup (sa_cons sx_str (sa_cons sx_int sa_nil))) sa_nil)) sa_nil))))
  (ss_cons (ss_set 3 sc_law_spoilt_heads.nd (sx_new (sh_lst (sa_cons sx_int (sa_cons sx_str (sa_cons (sx_tup sa_nil) (sa_cons (sx_slice (sx_var 0) so_none (so_some sx_int)) (sa_cons (sx_op r_add o_add c_add (sx_var 0) (sx_tup (sa_cons sx_int sa_nil))) sa_nil))))))))
  (ss_cons (ss_for (passes_of rfl) (by rfl) (si_h (sh_lst (sa_cons (sx_tup (sa_cons sx_str (sa_cons sx_str sa_nil))) (sa_cons (sx_tup (sa_cons sx_str (sa_cons sx_int sa_nil))) (sa_cons (sx_tup (sa_cons sx_str (sa_cons sx_str (sa_cons sx_str (sa_cons sx_str sa_nil))))) (sa_cons (sx_tup (sa_cons sx_str (sa_cons sx_str sa_nil))) (sa_cons (sx_tup (sa_cons sx_str sa_nil)) (sa_cons sx_int sa_nil)))))))) (sg_name 4 sc_law_spoilt_heads.nd)
    (ss_one (ss_expr (sx_m PySem.F.plainAttrs_list PySem.F.slot_list_append PySem.F.type_list_append mt_append om_app c_app (sx_var 3) (sa_cons (sx_op r_add o_add c_add (sx_op r_add o_add c_add (sx_slice (sx_var 0) so_none (so_some sx_int)) (sx_tup (sa_cons (sx_var 4) sa_nil))) (sx_slice (sx_var 0) (so_some sx_int) so_none)) sa_nil)))))
  (ss_cons (ss_set 3 sc_law_spoilt_heads.nd (sx_op r_add o_add c_add (sx_var 3) (sx_new (sh_lc (own := [("one", 7)]) (by rfl) sc_law_spoilt_heads.nd (si_h (sh_lst (sa_cons (sx_tup (sa_cons (sx_var 2) sa_nil)) (sa_cons (sx_tup (sa_cons sx_int sa_nil)) (sa_cons sx_int (sa_cons (sx_var 1) sa_nil)))))) (blkOk_by (own := [("one", 7)]) (N := N_law_spoilt_heads) (sc := defScope s_law_spoilt_heads) (by decide +kernel)) (fun _ _ _ _ _ => by exact (sg_name 7 sc_law_spoilt_heads.nd)) (fun _ _ _ _ _ => by exact sts_nil) (fun _ _ _ _ _ => by exact (sx_op r_add o_add c_add (sx_op r_add o_add c_add (sx_slice (sx_var 0) so_none (so_some sx_int)) (sx_tup (sa_cons (sx_var 7) sa_nil))) (sx_slice (sx_var 0) (so_some sx_int) so_none)))))))
  (ss_cons (ss_set 5 sc_law_spoilt_heads.nd (sx_ix (r_ix hu) o_ixA c_ixA (sx_var 0) sx_int))
  (ss_cons (ss_for (passes_of rfl) (by rfl) (si_h (sh_lst (sa_cons sx_str (sa_cons sx_str (sa_cons sx_str (sa_cons sx_str sa_nil)))))) (sg_name 6 sc_law_spoilt_heads.nd)
    (ss_one (ss_expr (sx_m PySem.F.plainAttrs_list PySem.F.slot_list_append PySem.F.type_list_append mt_append om_app c_app (sx_var 3) (sa_cons (sx_op r_add o_add c_add (sx_op r_add o_add c_add (sx_slice (sx_var 0) so_none (so_some sx_int)) (sx_tup (sa_cons (sx_op r_add o_add c_add (sx_tup (sa_cons (sx_tup (sa_cons (sx_var 6) (sa_cons (sx_tup sa_nil) sa_nil))) sa_nil)) (sx_var 5)) sa_nil))) (sx_slice (sx_var 0) (so_some sx_int) so_none)) sa_nil)))))
  (ss_cons (ss_for (passes_of rfl) (by rfl) (si_h (sh_lst (sa_cons (sx_op r_add o_add c_add (sx_var 5) (sx_slice (sx_var 5) so_none (so_some sx_int))) (sa_cons (sx_op r_add o_add c_add (sx_tup (sa_cons (sx_tup (sa_cons sx_str (sa_cons (sx_tup (sa_cons (sx_tup (sa_cons (sx_var 1) sa_nil)) sa_nil)) sa_nil))) sa_nil)) (sx_slice (sx_var 5) (so_some sx_int) so_none)) (sa_cons sx_int sa_nil))))) (sg_name 7 sc_law_spoilt_heads.nd)
    (ss_one (ss_expr (sx_m PySem.F.plainAttrs_list PySem.F.slot_list_append PySem.F.type_list_append mt_append om_app c_app (sx_var 3) (sa_cons (sx_op r_add o_add c_add (sx_op r_add o_add c_add (sx_slice (sx_var 0) so_none (so_some sx_int)) (sx_tup (sa_cons (sx_var 7) sa_nil))) (sx_slice (sx_var 0) (so_some sx_int) so_none)) sa_nil)))))
  (ss_cons (ss_expr (sx_m PySem.F.plainAttrs_list PySem.F.slot_list_append PySem.F.type_list_append mt_append om_app c_app (sx_var 3) (sa_cons (sx_op r_add o_add c_add (sx_op r_add o_add c_add (sx_slice (sx_var 0) so_none (so_some sx_int)) (sx_tup (sa_cons (sx_op r_add o_add c_add (sx_tup (sa_cons (sx_tup (sa_cons sx_str (sa_cons (sx_op r_mulX o_mul c_mul (sx_tup (sa_cons (sx_tup (sa_cons (sx_var 1) (sa_cons (sx_var 1) sa_nil))) sa_nil)) sx_int) sa_nil))) sa_nil)) (sx_slice (sx_var 5) (so_some sx_int) so_none)) sa_nil))) (sx_slice (sx_var 0) (so_some sx_int) so_none)) sa_nil)))
  (ss_cons (ss_set 8 sc_law_spoilt_heads.nd (sx_tup (sa_cons sx_int (sa_cons (sx_tup (sa_cons (sx_tup (sa_cons sx_str (sa_cons sx_int sa_nil))) sa_nil)) sa_nil))))
  (ss_cons (ss_set 3 sc_law_spoilt_heads.nd (sx_op r_add o_add c_add (sx_var 3) (sx_new (sh_lc (own := [("one", 7)]) (by rfl) sc_law_spoilt_heads.nd (si_h (sh_lst (sa_cons (sx_var 2) (sa_cons (sx_var 8) (sa_cons sx_int (sa_cons (sx_tup (sa_cons sx_int (sa_cons (sx_tup (sa_cons (sx_tup (sa_cons sx_str (sa_cons sx_int sa_nil))) sa_nil)) sa_nil))) sa_nil)))))) (blkOk_by (own := [("one", 7)]) (N := N_law_spoilt_heads) (sc := defScope s_law_spoilt_heads) (by decide +kernel)) (fun _ _ _ _ _ => by exact (sg_name 7 sc_law_spoilt_heads.nd)) (fun _ _ _ _ _ => by exact sts_nil) (fun _ _ _ _ _ => by exact (sx_op r_add o_add c_add (sx_op r_add o_add c_add (sx_slice (sx_var 0) so_none (so_some sx_int)) (sx_tup (sa_cons (sx_var 7) sa_nil))) (sx_slice (sx_var 0) (so_some sx_int) so_none)))))))
  (ss_cons (ss_set 3 sc_law_spoilt_heads.nd (sx_op r_add o_add c_add (sx_var 3) (sx_new (sh_lc (own := [("one", 7)]) (by rfl) sc_law_spoilt_heads.nd (si_h (sh_lst (sa_cons (sx_var 2) (sa_cons (sx_var 8) (sa_cons (sx_tup sa_nil) sa_nil))))) (blkOk_by (own := [("one", 7)]) (N := N_law_spoilt_heads) (sc := defScope s_law_spoilt_heads) (by decide +kernel)) (fun _ _ _ _ _ => by exact (sg_name 7 sc_law_spoilt_heads.nd)) (fun _ _ _ _ _ => by exact sts_nil) (fun _ _ _ _ _ => by exact (sx_op r_add o_add c_add (sx_op r_add o_add c_add (sx_slice (sx_var 0) so_none (so_some sx_int)) (sx_tup (sa_cons (sx_var 7) sa_nil))) (sx_slice (sx_var 0) (so_some sx_int) so_none)))))))
  (ss_cons (ss_for (passes_of rfl) (by rfl) (si_h (sh_lst (sa_cons (sx_tup sa_nil) (sa_cons sx_int (sa_cons (sx_tup (sa_cons (sx_tup (sa_cons (sx_var 1) sa_nil)) sa_nil)) (sa_cons (sx_tup (sa_cons (sx_tup (sa_cons (sx_var 1) (sa_cons (sx_var 1) (sa_cons (sx_var 1) sa_nil)))) sa_nil)) (sa_cons (sx_tup (sa_cons (sx_tup (sa_cons (sx_var 1) (sa_cons (sx_var 2) sa_nil))) sa_nil)) (sa_cons (sx_tup (sa_cons (sx_tup (sa_cons (sx_var 1) (sa_cons (sx_var 8) sa_nil))) sa_nil)) (sa_cons (sx_op r_mulX o_mul c_mul (sx_ix (r_ix hu) o_ixA c_ixA (sx_var 0) sx_int) sx_int) (sa_cons (sx_tup (sa_cons (sx_tup (sa_cons (sx_var 1) (sa_cons (sx_var 1) sa_nil))) (sa_cons (sx_var 1) sa_nil))) sa_nil)))))))))) (sg_name 9 sc_law_spoilt_heads.nd)
    (ss_one (ss_expr (sx_m PySem.F.plainAttrs_list PySem.F.slot_list_append PySem.F.type_list_append mt_append om_app c_app (sx_var 3) (sa_cons (sx_op r_add o_add c_add (sx_op r_add o_add c_add (sx_slice (sx_var 0) so_none (so_some sx_int)) (sx_tup (sa_cons (sx_var 9) sa_nil))) (sx_slice (sx_var 0) (so_some sx_int) so_none)) sa_nil)))))
  (ss_one (ss_ret (sx_var 3))))))))))))))))⟩
theorem F_law_spoilt_rows (B : Ev w K mg) (W : Ds K mg) {nm : Str} (D : Da K mg nm "_law_spoilt_rows" s_law_spoilt_rows ["array"]) : FX (TT a ns) P w K mg base 2 nm 1 x_law_spoilt_rows := by
  refine fx_ofA D sc_law_spoilt_rows rfl fun f cdv A outer s H E hr => ?_
  have hu := SX.room_hu hr
  have tk : Takes (cxOf (L2.CX P w) P w K mg base N_law_spoilt_rows "_law_spoilt_rows" (defScope s_law_spoilt_rows) f cdv A outer s H E) (fun cls d _ H => E cls d H) := takes_of rfl rfl rfl rfl
  exact ⟨_,
    (ss_cons (ss_set 1 sc_law_spoilt_rows.nd (sx_ix (r_ix hu) o_ixA c_ixA (sx_ix (r_ix hu) o_ixA c_ixA (sx_var 0) sx_int) sx_int))
  (ss_cons (ss_set 2 sc_law_spoilt_rows.nd (sx_tup (sa_cons sx_str (sa_cons sx_int sa_nil))))
  (ss_cons (ss_set 3 sc_law_spoilt_rows.nd (sx_tup (sa_cons sx_int (sa_cons (sx_tup (sa_cons (sx_tup (sa_cons sx_str (sa_cons sx_int sa_nil))) sa_nil)) sa_nil))))
  (ss_cons (ss_set 4 sc_law_spoilt_rows.nd (sx_new (sh_lst (sa_cons (sx_op r_add o_add c_add (sx_tup (sa_cons sx_str sa_nil)) (sx_slice (sx_var 1) (so_some sx_int) so_none)) (sa_cons (sx_op r_add o_add c_add (sx_tup (sa_cons sx_str sa_nil)) (sx_slice (sx_var 1) (so_some sx_int) so_none)) (sa_cons (sx_op r_add o_add c_add (sx_tup (sa_cons sx_str sa_nil)) (sx_slice (sx_var 1) (so_some sx_int) so_none)) (sa_cons (sx_slice (sx_var 1) so_none (so_some sx_int)) (sa_cons (sx_op r_add o_add c_add (sx_var 1) (sx_tup (sa_cons sx_int sa_nil))) (sa_cons sx_int sa_nil)))))))))
  (ss_cons (ss_set 5 sc_law_spoilt_rows.nd (sx_new (sh_lst (sa_cons sx_int (sa_cons (sx_tup (sa_cons sx_int sa_nil)) (sa_cons (sx_tup (sa_cons (sx_tup (sa_cons sx_str (sa_cons (sx_var 3) sa_nil))) sa_nil)) (sa_cons (sx_tup (sa_cons (sx_tup (sa_cons sx_str sa_nil)) sa_nil)) (sa_cons (sx_tup (sa_cons (sx_tup (sa_cons sx_str (sa_cons (sx_var 3) (sa_cons (sx_var 3) sa_nil)))) sa_nil)) (sa_cons (sx_tup (sa_cons sx_str (sa_cons (sx_var 3) sa_nil))) (sa_cons (sx_tup (sa_cons (sx_tup (sa_cons sx_str (sa_cons sx_int sa_nil))) sa_nil)) sa_nil))))))))))
  (ss_cons (ss_set 5 sc_law_spoilt_rows.nd (sx_op r_add o_add c_add (sx_var 5) (sx_new (sh_lc (own := [("name", 10)]) (by rfl) sc_law_spoilt_rows.nd (si_h (sh_lst (sa_cons sx_str (sa_cons sx_str sa_nil)))) (blkOk_by (own := [("name", 10)]) (N := N_law_spoilt_rows) (sc := defScope s_law_spoilt_rows) (by decide +kernel)) (fun _ _ _ _ _ => by exact (sg_name 10 sc_law_spoilt_rows.nd)) (fun _ _ _ _ _ => by exact sts_nil) (fun _ _ _ _ _ => by exact (sx_tup (sa_cons (sx_tup (sa_cons sx_str (sa_cons (sx_tup (sa_cons sx_int (sa_cons (sx_tup (sa_cons (sx_tup (sa_cons (sx_var 10) (sa_cons sx_int sa_nil))) sa_nil)) sa_nil))) sa_nil))) sa_nil)))))))
  (ss_cons (ss_set 5 sc_law_spoilt_rows.nd (sx_op r_add o_add c_add (sx_var 5) (sx_new (sh_lc (own := [("m", 11)]) (by rfl) sc_law_spoilt_rows.nd (si_h (sh_lst (sa_cons sx_int (sa_cons sx_int (sa_cons (sx_neg sx_int) (sa_cons sx_str sa_nil)))))) (blkOk_by (own := [("m", 11)]) (N := N_law_spoilt_rows) (sc := defScope s_law_spoilt_rows) (by decide +kernel)) (fun _ _ _ _ _ => by exact (sg_name 11 sc_law_spoilt_rows.nd)) (fun _ _ _ _ _ => by exact sts_nil) (fun _ _ _ _ _ => by exact (sx_tup (sa_cons (sx_tup (sa_cons sx_str (sa_cons (sx_var 11) (sa_cons (sx_var 3) sa_nil)))) sa_nil)))))))
  (ss_cons (ss_set 4 sc_law_spoilt_rows.nd (sx_op r_add o_add c_add (sx_var 4) (sx_new (sh_lc (own := [("guard", 12)]) (by rfl) sc_law_spoilt_rows.nd (si_v (sx_var 5)) (blkOk_by (own := [("guard", 12)]) (N := N_law_spoilt_rows) (sc := defScope s_law_spoilt_rows) (by decide +kernel)) (fun _ _ _ _ _ => by exact (sg_name 12 sc_law_spoilt_rows.nd)) (fun _ _ _ _ _ => by exact sts_nil) (fun _ _ _ _ _ => by exact (sx_op r_add o_add c_add (sx_op r_add o_add c_add (sx_slice (sx_var 1) so_none (so_some sx_int)) (sx_tup (sa_cons (sx_var 12) sa_nil))) (sx_slice (sx_var 1) (so_some sx_int) so_none)))))))
  (ss_cons (ss_set 6 sc_law_spoilt_rows.nd (sx_new (sh_lst (sa_cons (sx_tup (sa_cons sx_str (sa_cons sx_str (sa_cons (sx_tup (sa_cons sx_int sa_nil)) (sa_cons sx_int sa_nil))))) (sa_cons (sx_tup (sa_cons sx_str (sa_cons sx_str (sa_cons (sx_tup (sa_cons sx_int sa_nil)) (sa_cons sx_int sa_nil))))) (sa_cons (sx_tup (sa_cons sx_str (sa_cons sx_str (sa_cons (sx_tup (sa_cons sx_int (sa_cons sx_int sa_nil))) (sa_cons sx_int sa_nil))))) (sa_cons (sx_tup (sa_cons sx_str (sa_cons sx_str (sa_cons (sx_tup sa_nil) (sa_cons sx_int sa_nil))))) sa_nil)))))))
  (ss_cons (ss_set 6 sc_law_spoilt_rows.nd (sx_op r_add o_add c_add (sx_var 6) (sx_new (sh_lst (sa_cons (sx_tup (sa_cons sx_str (sa_cons sx_str (sa_cons (sx_tup (sa_cons sx_int sa_nil)) (sa_cons sx_int sa_nil))))) (sa_cons (sx_tup (sa_cons sx_str (sa_cons sx_str (sa_cons (sx_tup (sa_cons sx_int sa_nil)) (sa_cons (sx_neg sx_int) sa_nil))))) (sa_cons (sx_tup (sa_cons sx_str (sa_cons sx_str (sa_cons (sx_tup (sa_cons sx_str sa_nil)) (sa_cons sx_int sa_nil))))) (sa_cons (sx_tup (sa_cons sx_str (sa_cons sx_str (sa_cons (sx_tup (sa_cons sx_int sa_nil)) sa_nil)))) sa_nil))))))))
  (ss_cons (ss_set 6 sc_law_spoilt_rows.nd (sx_op r_add o_add c_add (sx_var 6) (sx_new (sh_lst (sa_cons (sx_tup (sa_cons sx_str (sa_cons sx_str (sa_cons sx_int (sa_cons sx_int sa_nil))))) (sa_cons (sx_tup (sa_cons sx_str (sa_cons sx_str (sa_cons (sx_tup (sa_cons sx_int sa_nil)) (sa_cons sx_int (sa_cons sx_int sa_nil)))))) (sa_cons (sx_tup (sa_cons sx_str (sa_cons sx_str (sa_cons (sx_tup (sa_cons (sx_var 3) sa_nil)) sa_nil)))) (sa_cons (sx_tup (sa_cons sx_str (sa_cons sx_str (sa_cons (sx_tup (sa_cons (sx_var 3) sa_nil)) sa_nil)))) sa_nil))))))))
  (ss_cons (ss_set 7 sc_law_spoilt_rows.nd (sx_new (sh_lst (sa_cons (sx_tup (sa_cons sx_str (sa_cons sx_str (sa_cons (sx_tup (sa_cons (sx_tup (sa_cons sx_int (sa_cons (sx_var 3) sa_nil))) sa_nil)) sa_nil)))) (sa_cons (sx_tup (sa_cons sx_str (sa_cons sx_str (sa_cons (sx_tup (sa_cons (sx_tup (sa_cons sx_int (sa_cons (sx_var 3) sa_nil))) sa_nil)) sa_nil)))) (sa_cons (sx_tup (sa_cons sx_str (sa_cons sx_str (sa_cons (sx_tup sa_nil) sa_nil)))) (sa_cons (sx_tup (sa_cons sx_str (sa_cons sx_str (sa_cons (sx_tup (sa_cons (sx_tup (sa_cons sx_int (sa_cons (sx_var 3) sa_nil))) sa_nil)) sa_nil)))) sa_nil)))))))
  (ss_cons (ss_expr (sx_m PySem.F.plainAttrs_list PySem.F.slot_list_append PySem.F.type_list_append mt_append om_app c_app (sx_var 7) (sa_cons (sx_tup (sa_cons sx_str (sa_cons sx_str (sa_cons (sx_tup (sa_cons (sx_var 3) sa_nil)) sa_nil)))) sa_nil)))
  (ss_cons (ss_set 7 sc_law_spoilt_rows.nd (sx_op r_add o_add c_add (sx_var 7) (sx_new (sh_lst (sa_cons (sx_tup (sa_cons sx_str (sa_cons sx_str (sa_cons (sx_tup (sa_cons (sx_tup (sa_cons sx_int (sa_cons (sx_var 3) sa_nil))) (sa_cons (sx_tup (sa_cons sx_int (sa_cons (sx_var 3) sa_nil))) sa_nil))) sa_nil)))) (sa_cons (sx_tup (sa_cons sx_str (sa_cons sx_str (sa_cons (sx_tup (sa_cons (sx_tup (sa_cons sx_int (sa_cons (sx_tup (sa_cons sx_int (sa_cons (sx_tup (sa_cons (sx_tup (sa_cons sx_str (sa_cons sx_int sa_nil))) sa_nil)) sa_nil))) sa_nil))) sa_nil)) sa_nil)))) (sa_cons (sx_tup (sa_cons sx_str (sa_cons sx_str sa_nil))) sa_nil)))))))
  (ss_cons (ss_set 8 sc_law_spoilt_rows.nd (sx_new (sh_lst (sa_cons (sx_tup (sa_cons sx_str sa_nil)) (sa_cons (sx_tup (sa_cons sx_str (sa_cons sx_str sa_nil))) (sa_cons (sx_tup (sa_cons sx_str (sa_cons (sx_tup (sa_cons sx_int sa_nil)) sa_nil))) (sa_cons (sx_tup (sa_cons sx_str (sa_cons (sx_var 2) sa_nil))) (sa_cons (sx_tup (sa_cons sx_str (sa_cons (sx_var 2) (sa_cons (sx_var 2) (sa_cons (sx_var 2) sa_nil))))) (sa_cons (sx_tup sa_nil) sa_nil)))))))))
  (ss_cons (ss_set 8 sc_law_spoilt_rows.nd (sx_op r_add o_add c_add (sx_var 8) (sx_new (sh_lst (sa_cons (sx_tup (sa_cons sx_str (sa_cons (sx_var 2) (sa_cons (sx_var 2) sa_nil)))) (sa_cons sx_int (sa_cons sx_str (sa_cons (sx_tup (sa_cons sx_str (sa_cons (sx_var 2) (sa_cons sx_int sa_nil)))) (sa_cons (sx_call (F_law_deep B W W.d__law_deep) tk hr (by first | decide | omega) (sa_cons sx_int sa_nil)) sa_nil)))))))))
  (ss_cons (ss_expr (sx_m PySem.F.plainAttrs_list PySem.F.slot_list_append PySem.F.type_list_append mt_append om_app c_app (sx_var 8) (sa_cons (sx_tup (sa_cons sx_str (sa_cons (sx_tup (sa_cons sx_str (sa_cons sx_str (sa_cons (sx_tup (sa_cons sx_int sa_nil)) (sa_cons sx_int sa_nil))))) (sa_cons (sx_var 2) sa_nil)))) sa_nil)))
  (ss_cons (ss_set 4 sc_law_spoilt_rows.nd (sx_op r_add o_add c_add (sx_var 4) (sx_new (sh_lc (own := [("e", 13)]) (by rfl) sc_law_spoilt_rows.nd (si_v (sx_op r_add o_add c_add (sx_op r_add o_add c_add (sx_var 6) (sx_var 7)) (sx_var 8))) (blkOk_by (own := [("e", 13)]) (N := N_law_spoilt_rows) (sc := defScope s_law_spoilt_rows) (by decide +kernel)) (fun _ _ _ _ _ => by exact (sg_name 13 sc_law_spoilt_rows.nd)) (fun _ _ _ _ _ => by exact sts_nil) (fun _ _ _ _ _ => by exact (sx_op r_add o_add c_add (sx_slice (sx_var 1) so_none (so_some sx_int)) (sx_tup (sa_cons (sx_var 13) sa_nil))))))))
  (ss_cons (ss_setLc 9 (own := [("row", 14)]) (by rfl) sc_law_spoilt_rows.nd (si_v (sx_var 4)) (blkOk_by (own := [("row", 14)]) (N := N_law_spoilt_rows) (sc := defScope s_law_spoilt_rows) (by decide +kernel)) (fun _ _ _ _ _ => by exact (sg_name 14 sc_law_spoilt_rows.nd)) (fun _ _ _ _ _ => by exact sts_nil) (fun _ _ _ _ _ => by exact (sx_op r_add o_add c_add (sx_op r_add o_add c_add (sx_slice (sx_var 0) so_none (so_some sx_int)) (sx_tup (sa_cons (sx_op r_add o_add c_add (sx_tup (sa_cons (sx_var 14) sa_nil)) (sx_slice (sx_ix (r_ix hu) o_ixA c_ixA (sx_var 0) sx_int) (so_some sx_int) so_none)) sa_nil))) (sx_slice (sx_var 0) (so_some sx_int) so_none))))
  (ss_one (ss_ret (sx_op r_add o_add c_add (sx_var 9) (sx_new (sh_lc (own := [("row", 14)]) (by rfl) sc_law_spoilt_rows.nd (si_h (sh_lst (sa_cons (sx_tup sa_nil) (sa_cons sx_int (sa_cons (sx_op r_add o_add c_add (sx_ix (r_ix hu) o_ixA c_ixA (sx_var 0) sx_int) (sx_slice (sx_ix (r_ix hu) o_ixA c_ixA (sx_var 0) sx_int) so_none (so_some sx_int))) sa_nil))))) (blkOk_by (own := [("row", 14)]) (N := N_law_spoilt_rows) (sc := defScope s_law_spoilt_rows) (by decide +kernel)) (fun _ _ _ _ _ => by exact (sg_name 14 sc_law_spoilt_rows.nd)) (fun _ _ _ _ _ => by exact sts_nil) (fun _ _ _ _ _ => by exact (sx_op r_add o_add c_add (sx_op r_add o_add c_add (sx_slice (sx_var 0) so_none (so_some sx_int)) (sx_tup (sa_cons (sx_var 14) sa_nil))) (sx_slice (sx_var 0) (so_some sx_int) so_none)))))))))))))))))))))))))))⟩
theorem F_law_spoilt_outs (B : Ev w K mg) (W : Ds K mg) {nm : Str} (D : Da K mg nm "_law_spoilt_outs" s_law_spoilt_outs ["array"]) : FX (TT a ns) P w K mg base 1 nm 1 x_law_spoilt_outs := by
  refine fx_ofA D sc_law_spoilt_outs rfl fun f cdv A outer s H E hr => ?_
  have hu := SX.room_hu hr
  have tk : Takes (cxOf (L2.CX P w) P w K mg base N_law_spoilt_outs "_law_spoilt_outs" (defScope s_law_spoilt_outs) f cdv A outer s H E) (fun cls d _ H => E cls d H) := takes_of rfl rfl rfl rfl
  exact ⟨_,
    (ss_cons (ss_set 1 sc_law_spoilt_outs.nd (sx_ix (r_ix hu) o_ixA c_ixA (sx_ix (r_ix hu) o_ixA c_ixA (sx_var 0) sx_int) sx_int))
  (ss_cons (ss_set 2 sc_law_spoilt_outs.nd (sx_tup (sa_cons sx_int (sa_cons (sx_tup (sa_cons (sx_tup (sa_cons sx_str (sa_cons sx_int sa_nil))) sa_nil)) sa_nil))))
  (ss_cons (ss_set 3 sc_law_spoilt_outs.nd (sx_ix (r_ix hu) o_ixA c_ixA (sx_ix (r_ix hu) o_ixA c_ixA (sx_var 1) sx_int) sx_int))
  (ss_cons (ss_set 4 sc_law_spoilt_outs.nd (sx_tup (sa_cons sx_int (sa_cons (sx_tup (sa_cons (sx_tup (sa_cons sx_str (sa_cons sx_int sa_nil))) sa_nil)) sa_nil))))
  (ss_cons (ss_set 5 sc_law_spoilt_outs.nd (sx_new (sh_lst (sa_cons (sx_slice (sx_var 1) so_none (so_some sx_int)) (sa_cons (sx_op r_add o_add c_add (sx_var 1) (sx_tup (sa_cons sx_int sa_nil))) (sa_cons sx_int (sa_cons (sx_op r_add o_add c_add (sx_tup (sa_cons sx_str sa_nil)) (sx_slice (sx_var 1) (so_some sx_int) so_none)) (sa_cons (sx_op r_add o_add c_add (sx_tup (sa_cons sx_str sa_nil)) (sx_slice (sx_var 1) (so_some sx_int) so_none)) (sa_cons (sx_op r_add o_add c_add (sx_tup (sa_cons sx_str sa_nil)) (sx_slice (sx_var 1) (so_some sx_int) so_none)) sa_nil)))))))))
  (ss_cons (ss_for (passes_of rfl) (by rfl) (si_h (sh_lst (sa_cons (sx_tup (sa_cons sx_str sa_nil)) (sa_cons (sx_tup (sa_cons sx_str (sa_cons sx_str sa_nil))) (sa_cons (sx_tup (sa_cons sx_str sa_nil)) (sa_cons (sx_tup (sa_cons sx_str sa_nil)) (sa_cons sx_int (sa_cons (sx_tup (sa_cons sx_str (sa_cons sx_str (sa_cons sx_str (sa_cons sx_str sa_nil))))) sa_nil)))))))) (sg_name 6 sc_law_spoilt_outs.nd)
    (ss_one (ss_expr (sx_m PySem.F.plainAttrs_list PySem.F.slot_list_append PySem.F.type_list_append mt_append om_app c_app (sx_var 5) (sa_cons (sx_op r_add o_add c_add (sx_op r_add o_add c_add (sx_slice (sx_var 1) so_none (so_some sx_int)) (sx_tup (sa_cons (sx_var 6) sa_nil))) (sx_slice (sx_var 1) (so_some sx_int) so_none)) sa_nil)))))
  (ss_cons (ss_set 5 sc_law_spoilt_outs.nd (sx_op r_add o_add c_add (sx_var 5) (sx_new (sh_lc (own := [("one", 6)]) (by rfl) sc_law_spoilt_outs.nd (si_h (sh_lst (sa_cons sx_int (sa_cons (sx_var 2) (sa_cons (sx_tup (sa_cons (sx_var 4) sa_nil)) sa_nil))))) (blkOk_by (own := [("one", 6)]) (N := N_law_spoilt_outs) (sc := defScope s_law_spoilt_outs) (by decide +kernel)) (fun _ _ _ _ _ => by exact (sg_name 6 sc_law_spoilt_outs.nd)) (fun _ _ _ _ _ => by exact sts_nil) (fun _ _ _ _ _ => by exact (sx_op r_add o_add c_add (sx_op r_add o_add c_add (sx_slice (sx_var 1) so_none (so_some sx_int)) (sx_tup (sa_cons (sx_var 6) sa_nil))) (sx_slice (sx_var 1) (so_some sx_int) so_none)))))))
  (ss_cons (ss_set 5 sc_law_spoilt_outs.nd (sx_op r_add o_add c_add (sx_var 5) (sx_new (sh_lc (own := [("one", 6)]) (by rfl) sc_law_spoilt_outs.nd (si_h (sh_lst (sa_cons (sx_tup sa_nil) (sa_cons sx_int (sa_cons (sx_var 3) sa_nil))))) (blkOk_by (own := [("one", 6)]) (N := N_law_spoilt_outs) (sc := defScope s_law_spoilt_outs) (by decide +kernel)) (fun _ _ _ _ _ => by exact (sg_name 6 sc_law_spoilt_outs.nd)) (fun _ _ _ _ _ => by exact sts_nil) (fun _ _ _ _ _ => by exact (sx_op r_add o_add c_add (sx_slice (sx_var 1) so_none (so_some sx_int)) (sx_tup (sa_cons (sx_var 6) sa_nil))))))))
  (ss_cons (ss_set 7 sc_law_spoilt_outs.nd (sx_new (sh_lst (sa_cons (sx_slice (sx_var 3) so_none (so_some sx_int)) (sa_cons (sx_op r_add o_add c_add (sx_var 3) (sx_tup (sa_cons sx_int sa_nil))) (sa_cons sx_int (sa_cons (sx_op r_add o_add c_add (sx_tup (sa_cons (sx_tup (sa_cons (sx_var 4) sa_nil)) sa_nil)) (sx_slice (sx_var 3) (so_some sx_int) so_none)) sa_nil)))))))
  (ss_cons (ss_set 7 sc_law_spoilt_outs.nd (sx_op r_add o_add c_add (sx_var 7) (sx_new (sh_lc (own := [("unit", 8)]) (by rfl) sc_law_spoilt_outs.nd (si_h (sh_lst (sa_cons sx_str (sa_cons sx_str sa_nil)))) (blkOk_by (own := [("unit", 8)]) (N := N_law_spoilt_outs) (sc := defScope s_law_spoilt_outs) (by decide +kernel)) (fun _ _ _ _ _ => by exact (sg_name 8 sc_law_spoilt_outs.nd)) (fun _ _ _ _ _ => by exact sts_nil) (fun _ _ _ _ _ => by exact (sx_op r_add o_add c_add (sx_op r_add o_add c_add (sx_slice (sx_var 3) so_none (so_some sx_int)) (sx_tup (sa_cons (sx_var 8) sa_nil))) (sx_slice (sx_var 3) (so_some sx_int) so_none)))))))
  (ss_cons (ss_set 7 sc_law_spoilt_outs.nd (sx_op r_add o_add c_add (sx_var 7) (sx_new (sh_lst (sa_cons (sx_op r_add o_add c_add (sx_op r_add o_add c_add (sx_slice (sx_var 3) so_none (so_some sx_int)) (sx_tup (sa_cons (sx_var 4) sa_nil))) (sx_slice (sx_var 3) (so_some sx_int) so_none)) (sa_cons (sx_op r_add o_add c_add (sx_slice (sx_var 3) so_none (so_some sx_int)) (sx_tup (sa_cons (sx_tup sa_nil) sa_nil))) (sa_cons (sx_op r_add o_add c_add (sx_slice (sx_var 3) so_none (so_some sx_int)) (sx_tup (sa_cons (sx_tup (sa_cons (sx_var 2) (sa_cons (sx_var 2) sa_nil))) sa_nil))) (sa_cons (sx_op r_add o_add c_add (sx_slice (sx_var 3) so_none (so_some sx_int)) (sx_tup (sa_cons (sx_tup (sa_cons (sx_var 4) sa_nil)) sa_nil))) sa_nil))))))))
  (ss_cons (ss_expr (sx_m PySem.F.plainAttrs_list PySem.F.slot_list_append PySem.F.type_list_append mt_append om_app c_app (sx_var 7) (sa_cons (sx_op r_add o_add c_add (sx_slice (sx_var 3) so_none (so_some sx_int)) (sx_tup (sa_cons (sx_var 2) sa_nil))) sa_nil)))
  (ss_cons (ss_set 5 sc_law_spoilt_outs.nd (sx_op r_add o_add c_add (sx_var 5) (sx_new (sh_lc (own := [("one", 6)]) (by rfl) sc_law_spoilt_outs.nd (si_v (sx_var 7)) (blkOk_by (own := [("one", 6)]) (N := N_law_spoilt_outs) (sc := defScope s_law_spoilt_outs) (by decide +kernel)) (fun _ _ _ _ _ => by exact (sg_name 6 sc_law_spoilt_outs.nd)) (fun _ _ _ _ _ => by exact sts_nil) (fun _ _ _ _ _ => by exact (sx_op r_add o_add c_add (sx_slice (sx_var 1) so_none (so_some sx_int)) (sx_tup (sa_cons (sx_tup (sa_cons (sx_var 6) sa_nil)) sa_nil))))))))
  (ss_one (ss_ret (sx_op r_add o_add c_add (sx_new (sh_lc (own := [("one", 6)]) (by rfl) sc_law_spoilt_outs.nd (si_v (sx_var 5)) (blkOk_by (own := [("one", 6)]) (N := N_law_spoilt_outs) (sc := defScope s_law_spoilt_outs) (by decide +kernel)) (fun _ _ _ _ _ => by exact (sg_name 6 sc_law_spoilt_outs.nd)) (fun _ _ _ _ _ => by exact sts_nil) (fun _ _ _ _ _ => by exact (sx_op r_add o_add c_add (sx_slice (sx_var 0) so_none (so_some sx_int)) (sx_tup (sa_cons (sx_tup (sa_cons (sx_var 6) sa_nil)) sa_nil)))))) (sx_new (sh_lc (own := [("one", 6)]) (by rfl) sc_law_spoilt_outs.nd (si_h (sh_lst (sa_cons sx_int (sa_cons (sx_op r_mulX o_mul c_mul (sx_ix (r_ix hu) o_ixA c_ixA (sx_var 0) sx_int) sx_int) (sa_cons (sx_var 1) sa_nil))))) (blkOk_by (own := [("one", 6)]) (N := N_law_spoilt_outs) (sc := defScope s_law_spoilt_outs) (by decide +kernel)) (fun _ _ _ _ _ => by exact (sg_name 6 sc_law_spoilt_outs.nd)) (fun _ _ _ _ _ => by exact sts_nil) (fun _ _ _ _ _ => by exact (sx_op r_add o_add c_add (sx_slice (sx_var 0) so_none (so_some sx_int)) (sx_tup (sa_cons (sx_var 6) sa_nil))))))))))))))))))))))⟩
theorem F_law_draw (B : Ev w K mg) (W : Ds K mg) {nm : Str} (D : Da K mg nm "_law_draw" s_law_draw ["state", "most"]) : FX (TT a ns) P w K mg base 1 nm 2 x_law_draw := by
  refine fx_ofA D sc_law_draw rfl fun f cdv A outer s H E hr => ?_
  have hu := SX.room_hu hr
  have tk : Takes (cxOf (L2.CX P w) P w K mg base N_law_draw "_law_draw" (defScope s_law_draw) f cdv A outer s H E) (fun cls d _ H => E cls d H) := takes_of rfl rfl rfl rfl
  exact ⟨_,
    (ss_cons (ss_setI hu (sx_op r_add o_add c_add (sx_ix (r_ix hu) o_ixA c_ixA (sx_var 0) sx_int) sx_int) (sx_var 0) sx_int)
  (ss_cons (ss_if (st_cmp r_gt o_gt c_cmp (sx_ix (r_ix hu) o_ixA c_ixA (sx_var 0) sx_int) sx_int)
    (ss_cons (ss_set 2 sc_law_draw.nd (sx_op op_mod o_mod c_mod (sx_t1 call_toI on_int c_int B.m_int boot_int (sx_ix (r_ix hu) o_ixA c_ixA (sx_var 0) sx_int)) (sx_var 1)))
    (ss_cons (ss_setI hu (sx_op op_fdivW o_div c_div (sx_ix (r_ix hu) o_ixA c_ixA (sx_var 0) sx_int) (sx_var 1)) (sx_var 0) sx_int)
    (ss_one (ss_ret (sx_var 2)))))
    ss_nil)
  (ss_cons (ss_set 3 sc_law_draw.nd sx_int)
  (ss_cons (ss_if (st_cmp r_gt o_gt c_cmp (sx_b1 call_len on_len c_len B.m_len boot_len (sx_ix (r_ix hu) o_ixA c_ixA (sx_var 0) sx_int)) sx_int)
    (ss_one (ss_set 3 sc_law_draw.nd (sx_b1 call_abs on_abs c_abs B.m_abs boot_abs (sx_ix (r_ix hu) o_ixA c_ixA (sx_ix (r_ix hu) o_ixA c_ixA (sx_var 0) sx_int) (sx_op op_mod o_mod c_mod (sx_t1 call_toI on_int c_int B.m_int boot_int (sx_ix (r_ix hu) o_ixA c_ixA (sx_var 0) sx_int)) (sx_b1 call_len on_len c_len B.m_len boot_len (sx_ix (r_ix hu) o_ixA c_ixA (sx_var 0) sx_int)))))))
    ss_nil)
  (ss_cons (ss_setI hu (sx_op r_add o_add c_add (sx_ix (r_ix hu) o_ixA c_ixA (sx_var 0) sx_int) sx_int) (sx_var 0) sx_int)
  (ss_cons (ss_if (st_cmp r_ge o_ge c_cmp (sx_var 3) (sx_op op_pow o_pow c_pow sx_int sx_int))
    (ss_cons (ss_setI hu (sx_op op_fdivW o_div c_div (sx_var 3) (sx_var 1)) (sx_var 0) sx_int)
    (ss_one (ss_ret (sx_op op_mod o_mod c_mod (sx_t1 call_toI on_int c_int B.m_int boot_int (sx_var 3)) (sx_var 1)))))
    ss_nil)
  (ss_cons (ss_set 4 sc_law_draw.nd (sx_op op_mod o_mod c_mod (sx_t1 call_toI on_int c_int B.m_int boot_int (sx_op r_add o_add c_add (sx_op r_mulX o_mul c_mul (sx_op r_add o_add c_add (sx_var 3) sx_int) sx_int) (sx_op r_mulX o_mul c_mul (sx_ix (r_ix hu) o_ixA c_ixA (sx_var 0) sx_int) sx_int))) sx_int))
  (ss_cons (ss_set 4 sc_law_draw.nd (sx_op op_mod o_mod c_mod (sx_t1 call_toI on_int c_int B.m_int boot_int (sx_op r_add o_add c_add (sx_op r_add o_add c_add (sx_op r_mulX o_mul c_mul (sx_var 4) sx_int) (sx_op op_fdivW o_div c_div (sx_var 3) sx_int)) (sx_ix (r_ix hu) o_ixA c_ixA (sx_var 0) sx_int))) sx_int))
  (ss_one (ss_ret (sx_op op_mod o_mod c_mod (sx_op op_fdivW o_div c_div (sx_var 4) sx_int) (sx_var 1))))))))))))⟩
theorem F_y_law_draw (B : Ev w K mg) (W : Ds K mg) {nm : Str} (D : Da K mg nm "_law_draw" s_law_draw ["state", "most"]) : FX (TT a ns) P w K mg base 1 nm 2 y_law_draw := by
  rw [show y_law_draw = x_law_draw from funext fun as => funext fun st => (y_law_draw_eq as st).symm]
  exact F_law_draw B W D
theorem F_law_one_of (B : Ev w K mg) (W : Ds K mg) {nm : Str} (D : Da K mg nm "_law_one_of" s_law_one_of ["state", "items"]) : FX (TT a ns) P w K mg base 2 nm 2 x_law_one_of := by
  refine fx_ofA D sc_law_one_of rfl fun f cdv A outer s H E hr => ?_
  have hu := SX.room_hu hr
  have tk : Takes (cxOf (L2.CX P w) P w K mg base N_law_one_of "_law_one_of" (defScope s_law_one_of) f cdv A outer s H E) (fun cls d _ H => E cls d H) := takes_of rfl rfl rfl rfl
  exact ⟨_,
    (ss_one (ss_ret (sx_ix (r_ix hu) o_ixA c_ixA (sx_var 1) (sx_call (F_y_law_draw B W W.d__law_draw) tk hr (by first | decide | omega) (sa_cons (sx_var 0) (sa_cons (sx_b1 call_len on_len c_len B.m_len boot_len (sx_var 1)) sa_nil))))))⟩
theorem fn_law (B : Ev w K mg) (W : Ds K mg) {fl : Addr} {fd : FuncData} {dvs : List V} (F : FunD K "law" "law" (defArgs s_law) (defBody s_law) (defScope s_law) dvs [] fl fd) : FnOk P w K mg base (L2.CX P w) 37 fl fd ["script"] (spX ⟨K, mg, w, TT a ns⟩ 1 x_law) := by
  refine fnx F sc_law rfl fun f cdv A outer s H E hr => ?_
  have hu := SX.room_hu hr
  have tk : Takes (cxOf (L2.CX P w) P w K mg base N_law "law" (defScope s_law) f cdv A outer s H E) (fun cls d _ H => E cls d H) := takes_of rfl rfl rfl rfl
  exact ⟨_,
    (ss_cons (ss_set 1 sc_law.nd (sx_call (F_law_start B W W.d__law_start) tk hr (by first | decide | omega) (sa_cons (sx_var 0) sa_nil)))
  (ss_cons (ss_set 2 sc_law.nd (sx_call (F_y_law_array B W W.d__law_array) tk hr (by first | decide | omega) (sa_cons (sx_call0 (F_law_lines B W W.d__law_lines) tk hr (by first | decide | omega)) sa_nil)))
  (ss_cons (ss_set 3 sc_law.nd (sx_call (F_y_law_array B W W.d__law_array) tk hr (by first | decide | omega) (sa_cons (sx_call0 (F_law_wide_lines B W W.d__law_wide_lines) tk hr (by first | decide | omega)) sa_nil)))
  (ss_cons (ss_set 4 sc_law.nd (sx_ix (r_ix hu) o_ixA c_ixA (sx_ix (r_ix hu) o_ixA c_ixA (sx_var 2) sx_int) sx_int))
  (ss_cons (ss_set 5 sc_law.nd (sx_new (sh_lst (sa_cons (sx_var 2) (sa_cons (sx_var 3) (sa_cons (sx_op r_add o_add c_add (sx_slice (sx_var 2) so_none (so_some sx_int)) (sx_tup (sa_cons (sx_tup sa_nil) sa_nil))) (sa_cons (sx_op r_add o_add c_add (sx_op r_add o_add c_add (sx_slice (sx_var 2) so_none (so_some sx_int)) (sx_tup (sa_cons (sx_tup (sa_cons sx_str (sa_cons sx_str (sa_cons sx_str sa_nil)))) sa_nil))) (sx_slice (sx_var 2) (so_some sx_int) so_none)) sa_nil)))))))
  (ss_cons (ss_expr (sx_m PySem.F.plainAttrs_list PySem.F.slot_list_append PySem.F.type_list_append mt_append om_app c_app (sx_var 5) (sa_cons (sx_op r_add o_add c_add (sx_op r_add o_add c_add (sx_slice (sx_var 2) so_none (so_some sx_int)) (sx_tup (sa_cons (sx_op r_add o_add c_add (sx_tup (sa_cons (sx_op r_add o_add c_add (sx_slice (sx_var 4) so_none (so_some sx_int)) (sx_tup (sa_cons (sx_call (F_law_deep B W W.d__law_deep) tk hr (by first | decide | omega) (sa_cons sx_int sa_nil)) sa_nil))) sa_nil)) (sx_slice (sx_ix (r_ix hu) o_ixA c_ixA (sx_var 2) sx_int) (so_some sx_int) so_none)) sa_nil))) (sx_slice (sx_var 2) (so_some sx_int) so_none)) sa_nil)))
  (ss_cons (ss_expr (sx_m PySem.F.plainAttrs_list PySem.F.slot_list_append PySem.F.type_list_append mt_append om_app c_app (sx_var 5) (sa_cons (sx_op r_add o_add c_add (sx_op r_add o_add c_add (sx_slice (sx_var 2) so_none (so_some sx_int)) (sx_tup (sa_cons (sx_tup sa_nil) sa_nil))) (sx_slice (sx_var 2) (so_some sx_int) so_none)) sa_nil)))
  (ss_cons (ss_expr (sx_m PySem.F.plainAttrs_list PySem.F.slot_list_append PySem.F.type_list_append mt_append om_app c_app (sx_var 5) (sa_cons (sx_op r_add o_add c_add (sx_slice (sx_var 2) so_none (so_some sx_int)) (sx_tup (sa_cons (sx_tup sa_nil) (sa_cons (sx_ix (r_ix hu) o_ixA c_ixA (sx_var 2) sx_int) (sa_cons (sx_ix (r_ix hu) o_ixA c_ixA (sx_var 2) sx_int) (sa_cons (sx_ix (r_ix hu) o_ixA c_ixA (sx_var 2) sx_int) (sa_cons (sx_tup (sa_cons (sx_tup (sa_cons sx_str (sa_cons (sx_tup sa_nil) (sa_cons (sx_tup (sa_cons sx_str (sa_cons (sx_neg sx_int) sa_nil))) sa_nil)))) sa_nil)) (sa_cons (sx_tup sa_nil) sa_nil)))))))) sa_nil)))
  (ss_cons (ss_if (st_not (st_truth (sx_bH (cr_all rfl) on_all c_all B.m_all boot_all (sh_lc (own := [("one", 7)]) (by rfl) sc_law.nd (si_v (sx_var 5)) (blkOk_by (own := [("one", 7)]) (N := N_law) (sc := defScope s_law) (by decide +kernel)) (fun _ _ _ _ _ => by exact (sg_name 7 sc_law.nd)) (fun _ _ _ _ _ => by exact sts_nil) (fun _ _ _ _ _ => by exact (sx_cmp r_is (o_isN false) c_is (sx_call (F_is_array2 B W W.d_is_array_arrays) takes0 hr (by first | decide | omega) (sa_cons (sx_var 7) sa_nil)) sx_bl))))))
    (ss_one (ss_ret sx_bl))
    ss_nil)
  (ss_cons (ss_set 6 sc_law.nd (sx_op r_add o_add c_add (sx_op r_add o_add c_add (sx_call (F_law_spoilt_heads B W W.d__law_spoilt_heads) tk hr (by first | decide | omega) (sa_cons (sx_var 2) sa_nil)) (sx_call (F_law_spoilt_rows B W W.d__law_spoilt_rows) tk hr (by first | decide | omega) (sa_cons (sx_var 2) sa_nil))) (sx_call (F_law_spoilt_outs B W W.d__law_spoilt_outs) tk hr (by first | decide | omega) (sa_cons (sx_var 2) sa_nil))))
  (ss_cons (ss_if (st_truth (sx_bH (cr_any rfl) on_any c_any B.m_any boot_any (sh_lc (own := [("one", 7)]) (by rfl) sc_law.nd (si_v (sx_var 6)) (blkOk_by (own := [("one", 7)]) (N := N_law) (sc := defScope s_law) (by decide +kernel)) (fun _ _ _ _ _ => by exact (sg_name 7 sc_law.nd)) (fun _ _ _ _ _ => by exact sts_nil) (fun _ _ _ _ _ => by exact (sx_cmp r_isnt (o_isN true) c_is (sx_call (F_is_array2 B W W.d_is_array_arrays) takes0 hr (by first | decide | omega) (sa_cons (sx_var 7) sa_nil)) sx_bl)))))
    (ss_one (ss_ret sx_bl))
    ss_nil)
  (ss_cons (ss_set 7 sc_law.nd (sx_call (F_law_one_of B W W.d__law_one_of) tk hr (by first | decide | omega) (sa_cons (sx_var 1) (sa_cons (sx_ix (r_ix hu) o_ixA c_ixA (sx_var 3) sx_int) sa_nil))))
  (ss_cons (ss_set 8 sc_law.nd (sx_tup (sa_cons sx_int (sa_cons (sx_tup (sa_cons (sx_tup (sa_cons sx_str (sa_cons sx_int sa_nil))) sa_nil)) sa_nil))))
  (ss_cons (ss_set 9 sc_law.nd (sx_new (sh_lst (sa_cons (sx_op r_add o_add c_add (sx_op r_add o_add c_add (sx_slice (sx_var 3) so_none (so_some sx_int)) (sx_tup (sa_cons (sx_tup (sa_cons (sx_op r_add o_add c_add (sx_op r_add o_add c_add (sx_slice (sx_var 7) so_none (so_some sx_int)) (sx_tup (sa_cons (sx_tup (sa_cons (sx_tup (sa_cons sx_str (sa_cons (sx_var 8) sa_nil))) sa_nil)) sa_nil))) (sx_slice (sx_var 7) (so_some sx_int) so_none)) sa_nil)) sa_nil))) (sx_slice (sx_var 3) (so_some sx_int) so_none)) sa_nil))))
  (ss_cons (ss_set 10 sc_law.nd (sx_op r_add o_add c_add (sx_op r_add o_add c_add (sx_slice (sx_var 3) so_none (so_some sx_int)) (sx_tup (sa_cons (sx_slice (sx_ix (r_ix hu) o_ixA c_ixA (sx_var 3) sx_int) so_none (so_some sx_int)) sa_nil))) (sx_slice (sx_var 3) (so_some sx_int) so_none)))
  (ss_one (ss_ret (sx_and (sx_cmp r_is (o_isN false) c_is (sx_call (F_is_array2 B W W.d_is_array_arrays) tk hr (by first | decide | omega) (sa_cons (sx_ix (r_ix hu) o_ixA c_ixA (sx_var 9) sx_int) sa_nil)) sx_bl) (sx_one (sx_cmp r_is (o_isN false) c_is (sx_call (F_is_array2 B W W.d_is_array_arrays) tk hr (by first | decide | omega) (sa_cons (sx_var 10) sa_nil)) sx_bl))))))))))))))))))))⟩
end
end L36
namespace L36
open SX
theorem law_yes : ∀ ns : List Int, ns.length ≤ 63 → isYes (x_law [.scr ns] []) = true
  | [], _ => by decide +kernel
  | n :: r, _ => by kernel_rfl
end L36
namespace L36
open PySem PySem.Spec PyProof.Rows L2 PL SX
open PL (Dt)
theorem mk_g_RESERVED_sheets {K : PySem.W.Frag} {h : Heap} {mg : Str → Option Value} {tG7_0 tG7_1 tG7_2 : Tok} {aG7 : Addr} {nG7 : Nat} {slG7 : Array (Option Value)} (X : K.In h) (G : h.Ns mainGlobals mg) (g : PySem.W.nsIn K mainGlobals "RESERVED_sheets" = some (some (.ref aG7))) (lG7 : K.lookup aG7 = some ⟨.type "tuple", none, .seq #[.str "beat" tG7_0, .str "place0" tG7_1, .str "place1" tG7_2] nG7, slG7⟩) : SX.Gt K mg "RESERVED_sheets" c_RESERVED_sheets := ⟨.ref aG7, _, PySem.W.mg_of X G g, rfl, fun H => ⟨aG7, [.str "beat", .str "place0", .str "place1"], rfl, .inr ⟨_, _, _, lG7, rfl, rfl, rfl, szl (by show 3 ≤ _; decide), (show L2.Vals ([.str "beat", .str "place0", .str "place1"] : List V) ([.str "beat" tG7_0, .str "place0" tG7_1, .str "place1" tG7_2] : List Value) from (.cons ⟨_, rfl⟩ (.cons ⟨_, rfl⟩ (.cons ⟨_, rfl⟩ .nil))))⟩, ⟨.str "beat", _, rfl, rfl, ⟨.str "place0", _, rfl, rfl, ⟨.str "place1", _, rfl, rfl, rfl⟩⟩⟩⟩⟩
theorem mk_g_OPERATIONS {K : PySem.W.Frag} {h : Heap} {mg : Str → Option Value} {tG12_0 tG12_1 tG12_2 tG12_3 tG12_4 tG12_5 : Tok} {aG12 : Addr} {nG12 : Nat} {slG12 : Array (Option Value)} (X : K.In h) (G : h.Ns mainGlobals mg) (g : PySem.W.nsIn K mainGlobals "OPERATIONS" = some (some (.ref aG12))) (lG12 : K.lookup aG12 = some ⟨.type "tuple", none, .seq #[.str "plus" tG12_0, .str "minus" tG12_1, .str "times" tG12_2, .str "least" tG12_3, .str "most" tG12_4, .str "alike" tG12_5] nG12, slG12⟩) : SX.Gt K mg "OPERATIONS" c_OPERATIONS := ⟨.ref aG12, _, PySem.W.mg_of X G g, rfl, fun H => ⟨aG12, [.str "plus", .str "minus", .str "times", .str "least", .str "most", .str "alike"], rfl, .inr ⟨_, _, _, lG12, rfl, rfl, rfl, szl (by show 6 ≤ _; decide), (show L2.Vals ([.str "plus", .str "minus", .str "times", .str "least", .str "most", .str "alike"] : List V) ([.str "plus" tG12_0, .str "minus" tG12_1, .str "times" tG12_2, .str "least" tG12_3, .str "most" tG12_4, .str "alike" tG12_5] : List Value) from (.cons ⟨_, rfl⟩ (.cons ⟨_, rfl⟩ (.cons ⟨_, rfl⟩ (.cons ⟨_, rfl⟩ (.cons ⟨_, rfl⟩ (.cons ⟨_, rfl⟩ .nil)))))))⟩, ⟨.str "plus", _, rfl, rfl, ⟨.str "minus", _, rfl, rfl, ⟨.str "times", _, rfl, rfl, ⟨.str "least", _, rfl, rfl, ⟨.str "most", _, rfl, rfl, ⟨.str "alike", _, rfl, rfl, rfl⟩⟩⟩⟩⟩⟩⟩⟩
theorem mk_g_RESERVED_tokens {K : PySem.W.Frag} {h : Heap} {mg : Str → Option Value} {tG17_0 tG17_1 tG17_2 tG17_3 tG17_4 tG17_5 tG17_6 tG17_7 tG17_8 tG17_9 tG17_10 tG17_11 tG17_12 tG17_13 tG17_14 tG17_15 tG17_16 tG17_17 tG17_18 tG17_19 tG17_20 tG17_21 tG17_22 tG17_23 tG17_24 tG17_25 tG17_26 tG17_27 tG17_28 tG17_29 tG17_30 tG17_31 tG17_32 tG17_33 tG17_34 : Tok} {aG17 : Addr} {nG17 : Nat} {slG17 : Array (Option Value)} (X : K.In h) (G : h.Ns mainGlobals mg) (g : PySem.W.nsIn K mainGlobals "RESERVED_tokens" = some (some (.ref aG17))) (lG17 : K.lookup aG17 = some ⟨.type "tuple", none, .seq #[.str "sheet" tG17_0, .str "given" tG17_1, .str "in" tG17_2, .str "unit" tG17_3, .str "where" tG17_4, .str "give" tG17_5, .str "when" tG17_6, .str "out" tG17_7, .str "end" tG17_8, .str "to" tG17_9, .str "least" tG17_10, .str "most" tG17_11, .str "alike" tG17_12, .str "and" tG17_13, .str "laying" tG17_14, .str "of" tG17_15, .str "at" tG17_16, .str "first" tG17_17, .str "last" tG17_18, .str "box" tG17_19, .str "array" tG17_20, .str "row" tG17_21, .str "wire" tG17_22, .str "div" tG17_23, .str "divides" tG17_24, .str "stretch" tG17_25, .str "shift" tG17_26, .str "turn" tG17_27, .str "fold" tG17_28, .str "by" tG17_29, .str "chips" tG17_30, .str "more" tG17_31, .str "heal" tG17_32, .str "jobs" tG17_33, .str "after" tG17_34] nG17, slG17⟩) : SX.Gt K mg "RESERVED_tokens" c_RESERVED_tokens := ⟨.ref aG17, _, PySem.W.mg_of X G g, rfl, fun H => ⟨aG17, [.str "sheet", .str "given", .str "in", .str "unit", .str "where", .str "give", .str "when", .str "out", .str "end", .str "to", .str "least", .str "most", .str "alike", .str "and", .str "laying", .str "of", .str "at", .str "first", .str "last", .str "box", .str "array", .str "row", .str "wire", .str "div", .str "divides", .str "stretch", .str "shift", .str "turn", .str "fold", .str "by", .str "chips", .str "more", .str "heal", .str "jobs", .str "after"], rfl, .inr ⟨_, _, _, lG17, rfl, rfl, rfl, szl (by show 35 ≤ _; decide), (show L2.Vals ([.str "sheet", .str "given", .str "in", .str "unit", .str "where", .str "give", .str "when", .str "out", .str "end", .str "to", .str "least", .str "most", .str "alike", .str "and", .str "laying", .str "of", .str "at", .str "first", .str "last", .str "box", .str "array", .str "row", .str "wire", .str "div", .str "divides", .str "stretch", .str "shift", .str "turn", .str "fold", .str "by", .str "chips", .str "more", .str "heal", .str "jobs", .str "after"] : List V) ([.str "sheet" tG17_0, .str "given" tG17_1, .str "in" tG17_2, .str "unit" tG17_3, .str "where" tG17_4, .str "give" tG17_5, .str "when" tG17_6, .str "out" tG17_7, .str "end" tG17_8, .str "to" tG17_9, .str "least" tG17_10, .str "most" tG17_11, .str "alike" tG17_12, .str "and" tG17_13, .str "laying" tG17_14, .str "of" tG17_15, .str "at" tG17_16, .str "first" tG17_17, .str "last" tG17_18, .str "box" tG17_19, .str "array" tG17_20, .str "row" tG17_21, .str "wire" tG17_22, .str "div" tG17_23, .str "divides" tG17_24, .str "stretch" tG17_25, .str "shift" tG17_26, .str "turn" tG17_27, .str "fold" tG17_28, .str "by" tG17_29, .str "chips" tG17_30, .str "more" tG17_31, .str "heal" tG17_32, .str "jobs" tG17_33, .str "after" tG17_34] : List Value) from (.cons ⟨_, rfl⟩ (.cons ⟨_, rfl⟩ (.cons ⟨_, rfl⟩ (.cons ⟨_, rfl⟩ (.cons ⟨_, rfl⟩ (.cons ⟨_, rfl⟩ (.cons ⟨_, rfl⟩ (.cons ⟨_, rfl⟩ (.cons ⟨_, rfl⟩ (.cons ⟨_, rfl⟩ (.cons ⟨_, rfl⟩ (.cons ⟨_, rfl⟩ (.cons ⟨_, rfl⟩ (.cons ⟨_, rfl⟩ (.cons ⟨_, rfl⟩ (.cons ⟨_, rfl⟩ (.cons ⟨_, rfl⟩ (.cons ⟨_, rfl⟩ (.cons ⟨_, rfl⟩ (.cons ⟨_, rfl⟩ (.cons ⟨_, rfl⟩ (.cons ⟨_, rfl⟩ (.cons ⟨_, rfl⟩ (.cons ⟨_, rfl⟩ (.cons ⟨_, rfl⟩ (.cons ⟨_, rfl⟩ (.cons ⟨_, rfl⟩ (.cons ⟨_, rfl⟩ (.cons ⟨_, rfl⟩ (.cons ⟨_, rfl⟩ (.cons ⟨_, rfl⟩ (.cons ⟨_, rfl⟩ (.cons ⟨_, rfl⟩ (.cons ⟨_, rfl⟩ (.cons ⟨_, rfl⟩ .nil))))))))))))))))))))))))))))))))))))⟩, ⟨.str "sheet", _, rfl, rfl, ⟨.str "given", _, rfl, rfl, ⟨.str "in", _, rfl, rfl, ⟨.str "unit", _, rfl, rfl, ⟨.str "where", _, rfl, rfl, ⟨.str "give", _, rfl, rfl, ⟨.str "when", _, rfl, rfl, ⟨.str "out", _, rfl, rfl, ⟨.str "end", _, rfl, rfl, ⟨.str "to", _, rfl, rfl, ⟨.str "least", _, rfl, rfl, ⟨.str "most", _, rfl, rfl, ⟨.str "alike", _, rfl, rfl, ⟨.str "and", _, rfl, rfl, ⟨.str "laying", _, rfl, rfl, ⟨.str "of", _, rfl, rfl, ⟨.str "at", _, rfl, rfl, ⟨.str "first", _, rfl, rfl, ⟨.str "last", _, rfl, rfl, ⟨.str "box", _, rfl, rfl, ⟨.str "array", _, rfl, rfl, ⟨.str "row", _, rfl, rfl, ⟨.str "wire", _, rfl, rfl, ⟨.str "div", _, rfl, rfl, ⟨.str "divides", _, rfl, rfl, ⟨.str "stretch", _, rfl, rfl, ⟨.str "shift", _, rfl, rfl, ⟨.str "turn", _, rfl, rfl, ⟨.str "fold", _, rfl, rfl, ⟨.str "by", _, rfl, rfl, ⟨.str "chips", _, rfl, rfl, ⟨.str "more", _, rfl, rfl, ⟨.str "heal", _, rfl, rfl, ⟨.str "jobs", _, rfl, rfl, ⟨.str "after", _, rfl, rfl, rfl⟩⟩⟩⟩⟩⟩⟩⟩⟩⟩⟩⟩⟩⟩⟩⟩⟩⟩⟩⟩⟩⟩⟩⟩⟩⟩⟩⟩⟩⟩⟩⟩⟩⟩⟩⟩⟩
theorem mk_g_ONE {K : PySem.W.Frag} {h : Heap} {mg : Str → Option Value} {tG19_0 : Tok} {aG19 aG19_1 : Addr} {nG19 nG19_1 : Nat} {slG19 slG19_1 : Array (Option Value)} (X : K.In h) (G : h.Ns mainGlobals mg) (g : PySem.W.nsIn K mainGlobals "ONE" = some (some (.ref aG19))) (lG19 : K.lookup aG19 = some ⟨.type "tuple", none, .seq #[.int 1 tG19_0, .ref aG19_1] nG19, slG19⟩) (lG19_1 : K.lookup aG19_1 = some ⟨.type "tuple", none, .seq #[] nG19_1, slG19_1⟩) : SX.Gt K mg "ONE" c_ONE := ⟨.ref aG19, _, PySem.W.mg_of X G g, rfl, fun H => ⟨aG19, [.int 1, .ref aG19_1], rfl, .inr ⟨_, _, _, lG19, rfl, rfl, rfl, szl (by show 2 ≤ _; decide), (show L2.Vals ([.int 1, .ref aG19_1] : List V) ([.int 1 tG19_0, .ref aG19_1] : List Value) from (.cons ⟨_, rfl⟩ (.cons rfl .nil)))⟩, ⟨.int 1, _, rfl, rfl, ⟨.ref aG19_1, _, rfl, ⟨aG19_1, [], rfl, .inr ⟨_, _, _, lG19_1, rfl, rfl, rfl, szl (by show 0 ≤ _; decide), (show L2.Vals ([] : List V) ([] : List Value) from .nil)⟩, rfl⟩, rfl⟩⟩⟩⟩
theorem mk_g_CALLS {K : PySem.W.Frag} {h : Heap} {mg : Str → Option Value} {tG21_0 tG21_1 tG21_2 : Tok} {aG21 : Addr} {nG21 : Nat} {slG21 : Array (Option Value)} (X : K.In h) (G : h.Ns mainGlobals mg) (g : PySem.W.nsIn K mainGlobals "CALLS" = some (some (.ref aG21))) (lG21 : K.lookup aG21 = some ⟨.type "tuple", none, .seq #[.str "least" tG21_0, .str "most" tG21_1, .str "alike" tG21_2] nG21, slG21⟩) : SX.Gt K mg "CALLS" c_CALLS := ⟨.ref aG21, _, PySem.W.mg_of X G g, rfl, fun H => ⟨aG21, [.str "least", .str "most", .str "alike"], rfl, .inr ⟨_, _, _, lG21, rfl, rfl, rfl, szl (by show 3 ≤ _; decide), (show L2.Vals ([.str "least", .str "most", .str "alike"] : List V) ([.str "least" tG21_0, .str "most" tG21_1, .str "alike" tG21_2] : List Value) from (.cons ⟨_, rfl⟩ (.cons ⟨_, rfl⟩ (.cons ⟨_, rfl⟩ .nil))))⟩, ⟨.str "least", _, rfl, rfl, ⟨.str "most", _, rfl, rfl, ⟨.str "alike", _, rfl, rfl, rfl⟩⟩⟩⟩⟩
theorem mk_g_SIGNS_tokens {K : PySem.W.Frag} {h : Heap} {mg : Str → Option Value} {tG25_0 tG25_1 tG25_2 tG25_3 tG25_4 tG25_5 tG25_6 tG25_7 tG25_8 tG25_9 tG25_10 tG25_11 tG25_12 : Tok} {aG25 : Addr} {nG25 : Nat} {slG25 : Array (Option Value)} (X : K.In h) (G : h.Ns mainGlobals mg) (g : PySem.W.nsIn K mainGlobals "SIGNS_tokens" = some (some (.ref aG25))) (lG25 : K.lookup aG25 = some ⟨.type "tuple", none, .seq #[.str "<=" tG25_0, .str ">=" tG25_1, .str "==" tG25_2, .str "<" tG25_3, .str ">" tG25_4, .str "+" tG25_5, .str "-" tG25_6, .str "*" tG25_7, .str "(" tG25_8, .str ")" tG25_9, .str "[" tG25_10, .str "]" tG25_11, .str "," tG25_12] nG25, slG25⟩) : SX.Gt K mg "SIGNS_tokens" c_SIGNS_tokens := ⟨.ref aG25, _, PySem.W.mg_of X G g, rfl, fun H => ⟨aG25, [.str "<=", .str ">=", .str "==", .str "<", .str ">", .str "+", .str "-", .str "*", .str "(", .str ")", .str "[", .str "]", .str ","], rfl, .inr ⟨_, _, _, lG25, rfl, rfl, rfl, szl (by show 13 ≤ _; decide), (show L2.Vals ([.str "<=", .str ">=", .str "==", .str "<", .str ">", .str "+", .str "-", .str "*", .str "(", .str ")", .str "[", .str "]", .str ","] : List V) ([.str "<=" tG25_0, .str ">=" tG25_1, .str "==" tG25_2, .str "<" tG25_3, .str ">" tG25_4, .str "+" tG25_5, .str "-" tG25_6, .str "*" tG25_7, .str "(" tG25_8, .str ")" tG25_9, .str "[" tG25_10, .str "]" tG25_11, .str "," tG25_12] : List Value) from (.cons ⟨_, rfl⟩ (.cons ⟨_, rfl⟩ (.cons ⟨_, rfl⟩ (.cons ⟨_, rfl⟩ (.cons ⟨_, rfl⟩ (.cons ⟨_, rfl⟩ (.cons ⟨_, rfl⟩ (.cons ⟨_, rfl⟩ (.cons ⟨_, rfl⟩ (.cons ⟨_, rfl⟩ (.cons ⟨_, rfl⟩ (.cons ⟨_, rfl⟩ (.cons ⟨_, rfl⟩ .nil))))))))))))))⟩, ⟨.str "<=", _, rfl, rfl, ⟨.str ">=", _, rfl, rfl, ⟨.str "==", _, rfl, rfl, ⟨.str "<", _, rfl, rfl, ⟨.str ">", _, rfl, rfl, ⟨.str "+", _, rfl, rfl, ⟨.str "-", _, rfl, rfl, ⟨.str "*", _, rfl, rfl, ⟨.str "(", _, rfl, rfl, ⟨.str ")", _, rfl, rfl, ⟨.str "[", _, rfl, rfl, ⟨.str "]", _, rfl, rfl, ⟨.str ",", _, rfl, rfl, rfl⟩⟩⟩⟩⟩⟩⟩⟩⟩⟩⟩⟩⟩⟩⟩
theorem mk_g_ZERO {K : PySem.W.Frag} {h : Heap} {mg : Str → Option Value} {tG26_0 : Tok} {aG26 aG26_1 : Addr} {nG26 nG26_1 : Nat} {slG26 slG26_1 : Array (Option Value)} (X : K.In h) (G : h.Ns mainGlobals mg) (g : PySem.W.nsIn K mainGlobals "ZERO" = some (some (.ref aG26))) (lG26 : K.lookup aG26 = some ⟨.type "tuple", none, .seq #[.int 0 tG26_0, .ref aG26_1] nG26, slG26⟩) (lG26_1 : K.lookup aG26_1 = some ⟨.type "tuple", none, .seq #[] nG26_1, slG26_1⟩) : SX.Gt K mg "ZERO" c_ZERO := ⟨.ref aG26, _, PySem.W.mg_of X G g, rfl, fun H => ⟨aG26, [.int 0, .ref aG26_1], rfl, .inr ⟨_, _, _, lG26, rfl, rfl, rfl, szl (by show 2 ≤ _; decide), (show L2.Vals ([.int 0, .ref aG26_1] : List V) ([.int 0 tG26_0, .ref aG26_1] : List Value) from (.cons ⟨_, rfl⟩ (.cons rfl .nil)))⟩, ⟨.int 0, _, rfl, rfl, ⟨.ref aG26_1, _, rfl, ⟨aG26_1, [], rfl, .inr ⟨_, _, _, lG26_1, rfl, rfl, rfl, szl (by show 0 ≤ _; decide), (show L2.Vals ([] : List V) ([] : List Value) from .nil)⟩, rfl⟩, rfl⟩⟩⟩⟩
theorem mk_k_MAKINGS {w : World} {K : PySem.W.Frag} {h : Heap} {mg : Str → Option Value} {d : Addr} {es : Array DictEntry} {n : Nat} (X : K.In h) (G : h.Ns mainGlobals mg) (aK : PySem.W.nsIn K mainGlobals "MAKINGS" = some (some (.ref d))) (lK : K.lookup d = some ⟨.type "dict", none, .dict es n, #[]⟩) (kK : PySem.W.KeysLit w.params es.toList) (sK : (d == sysModules) = false) (n0 : PySem.W.nsIn K d "end" = some none) {a : Addr} {ns : List Int} : KD (TT a ns) w K mg "MAKINGS" k_MAKINGS := ⟨d, es, n, PySem.W.mg_of X G aK, ⟨lK, kK, sK⟩, fun k v hm => by
  simp only [k_MAKINGS, List.mem_cons, List.not_mem_nil, or_false, Prod.mk.injEq] at hm
  rcases hm with ⟨rfl, rfl⟩
  · exact n0⟩
theorem mk_k_JOINING {w : World} {K : PySem.W.Frag} {h : Heap} {mg : Str → Option Value} {d : Addr} {es : Array DictEntry} {n : Nat} (X : K.In h) (G : h.Ns mainGlobals mg) (aK : PySem.W.nsIn K mainGlobals "JOINING" = some (some (.ref d))) (lK : K.lookup d = some ⟨.type "dict", none, .dict es n, #[]⟩) (kK : PySem.W.KeysLit w.params es.toList) (sK : (d == sysModules) = false) {t0 : Tok} (y0 : PySem.W.nsIn K d "+" = some (some (.str "plus" t0))) (n0 : PySem.W.nsIn K d "" = some none) (n1 : PySem.W.nsIn K d "when" = some none) (n2 : PySem.W.nsIn K d ")" = some none) (n3 : PySem.W.nsIn K d "," = some none) {a : Addr} {ns : List Int} : KD (TT a ns) w K mg "JOINING" k_JOINING := ⟨d, es, n, PySem.W.mg_of X G aK, ⟨lK, kK, sK⟩, fun k v hm => by
  simp only [k_JOINING, List.mem_cons, List.not_mem_nil, or_false, Prod.mk.injEq] at hm
  rcases hm with ⟨rfl, rfl⟩ | ⟨rfl, rfl⟩ | ⟨rfl, rfl⟩ | ⟨rfl, rfl⟩ | ⟨rfl, rfl⟩
  · exact ⟨_, .str "plus", y0, ⟨_, rfl⟩, fun H μ => rfl⟩
  · exact n0
  · exact n1
  · exact n2
  · exact n3⟩
theorem mk_law {K : PySem.W.Frag} {f : Addr} {od an : Option Addr} {sl : Array (Option Value)} {oc kV dc pm cd ct : Value} (l : K.lookup f = some ⟨oc, od, .func (PySem.W.fnOf "law" "law" (defArgs s_law) (defBody s_law) (defScope s_law) .none kV dc pm an cd ct), sl⟩) (c : PySem.W.codeIn K cd "law" = true) (k : PySem.W.keepIn K (.ref f) = true) : ∃ fd : FuncData, FunD K "law" "law" (defArgs s_law) (defBody s_law) (defScope s_law) [] [] f fd ∧ ∀ (s : Shared) (v : Value), BindsTo s fd ⟨[v], []⟩ [("script", v)] := ⟨_, (funD_of (st := s_law) l c k), fun s v => BindsTo.of_eq rfl⟩
theorem mk_d__law_start {K : PySem.W.Frag} {h : Heap} {mg : Str → Option Value} {f : Addr} {od an : Option Addr} {sl : Array (Option Value)} {oc kV dc pm cd ct : Value} (X : K.In h) (G : h.Ns mainGlobals mg) (a : PySem.W.nsIn K mainGlobals "_law_start" = some (some (.ref f))) (l : K.lookup f = some ⟨oc, od, .func (PySem.W.fnOf "_law_start" "_law_start" (defArgs s_law_start) (defBody s_law_start) (defScope s_law_start) .none kV dc pm an cd ct), sl⟩) (c : PySem.W.codeIn K cd "_law_start" = true) (k : PySem.W.keepIn K (.ref f) = true) : Da K mg "_law_start" "_law_start" s_law_start ["script"] := ⟨f, _, [], PySem.W.mg_of X G a, (funD_of (st := s_law_start) l c k), ((fun_mk (st := s_law_start) l c k).binds (ps := ["script"]) fun _ _ _ _ _ _ us hl => match us, hl with | [_], _ => rfl)⟩
theorem mk_d__law_array {K : PySem.W.Frag} {h : Heap} {mg : Str → Option Value} {f : Addr} {od an : Option Addr} {sl : Array (Option Value)} {oc kV dc pm cd ct : Value} (X : K.In h) (G : h.Ns mainGlobals mg) (a : PySem.W.nsIn K mainGlobals "_law_array" = some (some (.ref f))) (l : K.lookup f = some ⟨oc, od, .func (PySem.W.fnOf "_law_array" "_law_array" (defArgs s_law_array) (defBody s_law_array) (defScope s_law_array) .none kV dc pm an cd ct), sl⟩) (c : PySem.W.codeIn K cd "_law_array" = true) (k : PySem.W.keepIn K (.ref f) = true) : Da K mg "_law_array" "_law_array" s_law_array ["lines"] := ⟨f, _, [], PySem.W.mg_of X G a, (funD_of (st := s_law_array) l c k), ((fun_mk (st := s_law_array) l c k).binds (ps := ["lines"]) fun _ _ _ _ _ _ us hl => match us, hl with | [_], _ => rfl)⟩
theorem mk_d__law_lines {K : PySem.W.Frag} {h : Heap} {mg : Str → Option Value} {f : Addr} {od an : Option Addr} {sl : Array (Option Value)} {oc kV dc pm cd ct : Value} (X : K.In h) (G : h.Ns mainGlobals mg) (a : PySem.W.nsIn K mainGlobals "_law_lines" = some (some (.ref f))) (l : K.lookup f = some ⟨oc, od, .func (PySem.W.fnOf "_law_lines" "_law_lines" (defArgs s_law_lines) (defBody s_law_lines) (defScope s_law_lines) .none kV dc pm an cd ct), sl⟩) (c : PySem.W.codeIn K cd "_law_lines" = true) (k : PySem.W.keepIn K (.ref f) = true) : Da K mg "_law_lines" "_law_lines" s_law_lines [] := ⟨f, _, [], PySem.W.mg_of X G a, (funD_of (st := s_law_lines) l c k), ((fun_mk (st := s_law_lines) l c k).binds (ps := []) fun _ _ _ _ _ _ us hl => match us, hl with | [], _ => rfl)⟩
theorem mk_d__law_wide_lines {K : PySem.W.Frag} {h : Heap} {mg : Str → Option Value} {f : Addr} {od an : Option Addr} {sl : Array (Option Value)} {oc kV dc pm cd ct : Value} (X : K.In h) (G : h.Ns mainGlobals mg) (a : PySem.W.nsIn K mainGlobals "_law_wide_lines" = some (some (.ref f))) (l : K.lookup f = some ⟨oc, od, .func (PySem.W.fnOf "_law_wide_lines" "_law_wide_lines" (defArgs s_law_wide_lines) (defBody s_law_wide_lines) (defScope s_law_wide_lines) .none kV dc pm an cd ct), sl⟩) (c : PySem.W.codeIn K cd "_law_wide_lines" = true) (k : PySem.W.keepIn K (.ref f) = true) : Da K mg "_law_wide_lines" "_law_wide_lines" s_law_wide_lines [] := ⟨f, _, [], PySem.W.mg_of X G a, (funD_of (st := s_law_wide_lines) l c k), ((fun_mk (st := s_law_wide_lines) l c k).binds (ps := []) fun _ _ _ _ _ _ us hl => match us, hl with | [], _ => rfl)⟩
theorem mk_d__law_deep {K : PySem.W.Frag} {h : Heap} {mg : Str → Option Value} {f : Addr} {od an : Option Addr} {sl : Array (Option Value)} {oc kV dc pm cd ct : Value} (X : K.In h) (G : h.Ns mainGlobals mg) (a : PySem.W.nsIn K mainGlobals "_law_deep" = some (some (.ref f))) (l : K.lookup f = some ⟨oc, od, .func (PySem.W.fnOf "_law_deep" "_law_deep" (defArgs s_law_deep) (defBody s_law_deep) (defScope s_law_deep) .none kV dc pm an cd ct), sl⟩) (c : PySem.W.codeIn K cd "_law_deep" = true) (k : PySem.W.keepIn K (.ref f) = true) : Da K mg "_law_deep" "_law_deep" s_law_deep ["many"] := ⟨f, _, [], PySem.W.mg_of X G a, (funD_of (st := s_law_deep) l c k), ((fun_mk (st := s_law_deep) l c k).binds (ps := ["many"]) fun _ _ _ _ _ _ us hl => match us, hl with | [_], _ => rfl)⟩
theorem mk_d_is_array_arrays {K : PySem.W.Frag} {h : Heap} {mg : Str → Option Value} {f : Addr} {od an : Option Addr} {sl : Array (Option Value)} {oc kV dc pm cd ct : Value} (X : K.In h) (G : h.Ns mainGlobals mg) (a : PySem.W.nsIn K mainGlobals "is_array_arrays" = some (some (.ref f))) (l : K.lookup f = some ⟨oc, od, .func (PySem.W.fnOf "is_array" "is_array" (defArgs s_is_array2) (defBody s_is_array2) (defScope s_is_array2) .none kV dc pm an cd ct), sl⟩) (c : PySem.W.codeIn K cd "is_array" = true) (k : PySem.W.keepIn K (.ref f) = true) : Da K mg "is_array_arrays" "is_array" s_is_array2 ["datum"] := ⟨f, _, [], PySem.W.mg_of X G a, (funD_of (st := s_is_array2) l c k), ((fun_mk (st := s_is_array2) l c k).binds (ps := ["datum"]) fun _ _ _ _ _ _ us hl => match us, hl with | [_], _ => rfl)⟩
theorem mk_d__law_spoilt_heads {K : PySem.W.Frag} {h : Heap} {mg : Str → Option Value} {f : Addr} {od an : Option Addr} {sl : Array (Option Value)} {oc kV dc pm cd ct : Value} (X : K.In h) (G : h.Ns mainGlobals mg) (a : PySem.W.nsIn K mainGlobals "_law_spoilt_heads" = some (some (.ref f))) (l : K.lookup f = some ⟨oc, od, .func (PySem.W.fnOf "_law_spoilt_heads" "_law_spoilt_heads" (defArgs s_law_spoilt_heads) (defBody s_law_spoilt_heads) (defScope s_law_spoilt_heads) .none kV dc pm an cd ct), sl⟩) (c : PySem.W.codeIn K cd "_law_spoilt_heads" = true) (k : PySem.W.keepIn K (.ref f) = true) : Da K mg "_law_spoilt_heads" "_law_spoilt_heads" s_law_spoilt_heads ["array"] := ⟨f, _, [], PySem.W.mg_of X G a, (funD_of (st := s_law_spoilt_heads) l c k), ((fun_mk (st := s_law_spoilt_heads) l c k).binds (ps := ["array"]) fun _ _ _ _ _ _ us hl => match us, hl with | [_], _ => rfl)⟩
theorem mk_d__law_spoilt_rows {K : PySem.W.Frag} {h : Heap} {mg : Str → Option Value} {f : Addr} {od an : Option Addr} {sl : Array (Option Value)} {oc kV dc pm cd ct : Value} (X : K.In h) (G : h.Ns mainGlobals mg) (a : PySem.W.nsIn K mainGlobals "_law_spoilt_rows" = some (some (.ref f))) (l : K.lookup f = some ⟨oc, od, .func (PySem.W.fnOf "_law_spoilt_rows" "_law_spoilt_rows" (defArgs s_law_spoilt_rows) (defBody s_law_spoilt_rows) (defScope s_law_spoilt_rows) .none kV dc pm an cd ct), sl⟩) (c : PySem.W.codeIn K cd "_law_spoilt_rows" = true) (k : PySem.W.keepIn K (.ref f) = true) : Da K mg "_law_spoilt_rows" "_law_spoilt_rows" s_law_spoilt_rows ["array"] := ⟨f, _, [], PySem.W.mg_of X G a, (funD_of (st := s_law_spoilt_rows) l c k), ((fun_mk (st := s_law_spoilt_rows) l c k).binds (ps := ["array"]) fun _ _ _ _ _ _ us hl => match us, hl with | [_], _ => rfl)⟩
theorem mk_d__law_spoilt_outs {K : PySem.W.Frag} {h : Heap} {mg : Str → Option Value} {f : Addr} {od an : Option Addr} {sl : Array (Option Value)} {oc kV dc pm cd ct : Value} (X : K.In h) (G : h.Ns mainGlobals mg) (a : PySem.W.nsIn K mainGlobals "_law_spoilt_outs" = some (some (.ref f))) (l : K.lookup f = some ⟨oc, od, .func (PySem.W.fnOf "_law_spoilt_outs" "_law_spoilt_outs" (defArgs s_law_spoilt_outs) (defBody s_law_spoilt_outs) (defScope s_law_spoilt_outs) .none kV dc pm an cd ct), sl⟩) (c : PySem.W.codeIn K cd "_law_spoilt_outs" = true) (k : PySem.W.keepIn K (.ref f) = true) : Da K mg "_law_spoilt_outs" "_law_spoilt_outs" s_law_spoilt_outs ["array"] := ⟨f, _, [], PySem.W.mg_of X G a, (funD_of (st := s_law_spoilt_outs) l c k), ((fun_mk (st := s_law_spoilt_outs) l c k).binds (ps := ["array"]) fun _ _ _ _ _ _ us hl => match us, hl with | [_], _ => rfl)⟩
theorem mk_d__law_one_of {K : PySem.W.Frag} {h : Heap} {mg : Str → Option Value} {f : Addr} {od an : Option Addr} {sl : Array (Option Value)} {oc kV dc pm cd ct : Value} (X : K.In h) (G : h.Ns mainGlobals mg) (a : PySem.W.nsIn K mainGlobals "_law_one_of" = some (some (.ref f))) (l : K.lookup f = some ⟨oc, od, .func (PySem.W.fnOf "_law_one_of" "_law_one_of" (defArgs s_law_one_of) (defBody s_law_one_of) (defScope s_law_one_of) .none kV dc pm an cd ct), sl⟩) (c : PySem.W.codeIn K cd "_law_one_of" = true) (k : PySem.W.keepIn K (.ref f) = true) : Da K mg "_law_one_of" "_law_one_of" s_law_one_of ["state", "items"] := ⟨f, _, [], PySem.W.mg_of X G a, (funD_of (st := s_law_one_of) l c k), ((fun_mk (st := s_law_one_of) l c k).binds (ps := ["state", "items"]) fun _ _ _ _ _ _ us hl => match us, hl with | [_, _], _ => rfl)⟩
theorem mk_d_read_array {K : PySem.W.Frag} {h : Heap} {mg : Str → Option Value} {f : Addr} {od an : Option Addr} {sl : Array (Option Value)} {oc kV dc pm cd ct : Value} (X : K.In h) (G : h.Ns mainGlobals mg) (a : PySem.W.nsIn K mainGlobals "read_array" = some (some (.ref f))) (l : K.lookup f = some ⟨oc, od, .func (PySem.W.fnOf "read_array" "read_array" (defArgs s_read_array) (defBody s_read_array) (defScope s_read_array) .none kV dc pm an cd ct), sl⟩) (c : PySem.W.codeIn K cd "read_array" = true) (k : PySem.W.keepIn K (.ref f) = true) : Da K mg "read_array" "read_array" s_read_array ["text"] := ⟨f, _, [], PySem.W.mg_of X G a, (funD_of (st := s_read_array) l c k), ((fun_mk (st := s_read_array) l c k).binds (ps := ["text"]) fun _ _ _ _ _ _ us hl => match us, hl with | [_], _ => rfl)⟩
theorem mk_d_is_head {K : PySem.W.Frag} {h : Heap} {mg : Str → Option Value} {f : Addr} {od an : Option Addr} {sl : Array (Option Value)} {oc kV dc pm cd ct : Value} (X : K.In h) (G : h.Ns mainGlobals mg) (a : PySem.W.nsIn K mainGlobals "is_head" = some (some (.ref f))) (l : K.lookup f = some ⟨oc, od, .func (PySem.W.fnOf "is_head" "is_head" (defArgs s_is_head) (defBody s_is_head) (defScope s_is_head) .none kV dc pm an cd ct), sl⟩) (c : PySem.W.codeIn K cd "is_head" = true) (k : PySem.W.keepIn K (.ref f) = true) : Da K mg "is_head" "is_head" s_is_head ["datum"] := ⟨f, _, [], PySem.W.mg_of X G a, (funD_of (st := s_is_head) l c k), ((fun_mk (st := s_is_head) l c k).binds (ps := ["datum"]) fun _ _ _ _ _ _ us hl => match us, hl with | [_], _ => rfl)⟩
theorem mk_d_is_tuple {K : PySem.W.Frag} {h : Heap} {mg : Str → Option Value} {f : Addr} {od an : Option Addr} {sl : Array (Option Value)} {oc kV dc pm cd ct : Value} (X : K.In h) (G : h.Ns mainGlobals mg) (a : PySem.W.nsIn K mainGlobals "is_tuple" = some (some (.ref f))) (l : K.lookup f = some ⟨oc, od, .func (PySem.W.fnOf "is_tuple" "is_tuple" (defArgs s_is_tuple) (defBody s_is_tuple) (defScope s_is_tuple) .none kV dc pm an cd ct), sl⟩) (c : PySem.W.codeIn K cd "is_tuple" = true) (k : PySem.W.keepIn K (.ref f) = true) : Da K mg "is_tuple" "is_tuple" s_is_tuple ["datum", "many"] := ⟨f, _, [], PySem.W.mg_of X G a, (funD_of (st := s_is_tuple) l c k), ((fun_mk (st := s_is_tuple) l c k).binds (ps := ["datum", "many"]) fun _ _ _ _ _ _ us hl => match us, hl with | [_, _], _ => rfl)⟩
theorem mk_d_is_word {K : PySem.W.Frag} {h : Heap} {mg : Str → Option Value} {f : Addr} {od an : Option Addr} {sl : Array (Option Value)} {oc kV dc pm cd ct : Value} (X : K.In h) (G : h.Ns mainGlobals mg) (a : PySem.W.nsIn K mainGlobals "is_word" = some (some (.ref f))) (l : K.lookup f = some ⟨oc, od, .func (PySem.W.fnOf "is_word" "is_word" (defArgs s_is_word) (defBody s_is_word) (defScope s_is_word) .none kV dc pm an cd ct), sl⟩) (c : PySem.W.codeIn K cd "is_word" = true) (k : PySem.W.keepIn K (.ref f) = true) : Da K mg "is_word" "is_word" s_is_word ["datum"] := ⟨f, _, [], PySem.W.mg_of X G a, (funD_of (st := s_is_word) l c k), ((fun_mk (st := s_is_word) l c k).binds (ps := ["datum"]) fun _ _ _ _ _ _ us hl => match us, hl with | [_], _ => rfl)⟩
theorem mk_n_Rows_init {C : Addr} {K : PySem.W.Frag} {h : Heap} {mg : Str → Option Value} {f : Addr} {od an : Option Addr} {sl : Array (Option Value)} {oc kV dc pm cd ct : Value} (X : K.In h) (G : h.Ns mainGlobals mg) (aC : PySem.W.nsIn K mainGlobals "Rows" = some (some (.ref C))) (mk : PySem.W.makesIn K C = true) (kc : PySem.W.keepIn K (.ref C) = true) (a : PySem.W.findIn K (.ref C) "__init__" = some (some (.ref f))) (i : PySem.W.isFn K (.ref f) = true) (l : K.lookup f = some ⟨oc, od, .func (PySem.W.fnOf "__init__" "Rows.__init__" (defArgs s_Rows_init) (defBody s_Rows_init) (defScope s_Rows_init) .none kV dc pm an cd ct), sl⟩) (c : PySem.W.codeIn K cd "Rows.__init__" = true) (k : PySem.W.keepIn K (.ref f) = true) : Nd K mg "Rows" "Rows.__init__" s_Rows_init ["self", "array"] := ⟨C, f, _, [], PySem.W.mg_of X G aC, ⟨mk, a, i, kc⟩, (funD_of (st := s_Rows_init) l c k), ((fun_mk (st := s_Rows_init) l c k).binds (ps := ["self", "array"]) fun _ _ _ _ _ _ us hl => match us, hl with | [_, _], _ => rfl)⟩
theorem mk_m_Rows_is_row_0 {C : Addr} {K : PySem.W.Frag} {h : Heap} {mg : Str → Option Value} {f : Addr} {od an : Option Addr} {sl : Array (Option Value)} {oc kV dc pm cd ct : Value} (X : K.In h) (G : h.Ns mainGlobals mg) (aC : PySem.W.nsIn K mainGlobals "Rows" = some (some (.ref C))) (cl : Cls K C) (a : PySem.W.findIn K (.ref C) "is_row" = some (some (.ref f))) (i : PySem.W.isFn K (.ref f) = true) (l : K.lookup f = some ⟨oc, od, .func (PySem.W.fnOf "is_row" "Rows.is_row" (defArgs s_Rows_is_row) (defBody s_Rows_is_row) (defScope s_Rows_is_row) .none kV dc pm an cd ct), sl⟩) (c : PySem.W.codeIn K cd "Rows.is_row" = true) (k : PySem.W.keepIn K (.ref f) = true) : Md K mg "Rows" "is_row" "Rows.is_row" s_Rows_is_row ["self", "row"] [] := by
  exact ⟨C, f, _, [], [], PySem.W.mg_of X G aC, cl, ⟨a, i, k⟩, (funD_of (st := s_Rows_is_row) l c k), ((fun_mk (st := s_Rows_is_row) l c k).binds (ps := ["self", "row"]) fun _ _ _ _ _ _ us hl => match us, hl with | [_, _], _ => rfl), .nil, rfl⟩
theorem mk_d_are_together {K : PySem.W.Frag} {h : Heap} {mg : Str → Option Value} {f : Addr} {od an : Option Addr} {sl : Array (Option Value)} {oc kV dc pm cd ct : Value} (X : K.In h) (G : h.Ns mainGlobals mg) (a : PySem.W.nsIn K mainGlobals "are_together" = some (some (.ref f))) (l : K.lookup f = some ⟨oc, od, .func (PySem.W.fnOf "are_together" "are_together" (defArgs s_are_together) (defBody s_are_together) (defScope s_are_together) .none kV dc pm an cd ct), sl⟩) (c : PySem.W.codeIn K cd "are_together" = true) (k : PySem.W.keepIn K (.ref f) = true) : Da K mg "are_together" "are_together" s_are_together ["names"] := ⟨f, _, [], PySem.W.mg_of X G a, (funD_of (st := s_are_together) l c k), ((fun_mk (st := s_are_together) l c k).binds (ps := ["names"]) fun _ _ _ _ _ _ us hl => match us, hl with | [_], _ => rfl)⟩
theorem mk_d_is_out {K : PySem.W.Frag} {h : Heap} {mg : Str → Option Value} {f : Addr} {od an : Option Addr} {sl : Array (Option Value)} {oc kV dc pm cd ct : Value} (X : K.In h) (G : h.Ns mainGlobals mg) (a : PySem.W.nsIn K mainGlobals "is_out" = some (some (.ref f))) (l : K.lookup f = some ⟨oc, od, .func (PySem.W.fnOf "is_out" "is_out" (defArgs s_is_out) (defBody s_is_out) (defScope s_is_out) .none kV dc pm an cd ct), sl⟩) (c : PySem.W.codeIn K cd "is_out" = true) (k : PySem.W.keepIn K (.ref f) = true) : Da K mg "is_out" "is_out" s_is_out ["datum", "sizes", "units", "places"] := ⟨f, _, [], PySem.W.mg_of X G a, (funD_of (st := s_is_out) l c k), ((fun_mk (st := s_is_out) l c k).binds (ps := ["datum", "sizes", "units", "places"]) fun _ _ _ _ _ _ us hl => match us, hl with | [_, _, _, _], _ => rfl)⟩
theorem mk_d_units_of {K : PySem.W.Frag} {h : Heap} {mg : Str → Option Value} {f : Addr} {od an : Option Addr} {sl : Array (Option Value)} {oc kV dc pm cd ct : Value} (X : K.In h) (G : h.Ns mainGlobals mg) (a : PySem.W.nsIn K mainGlobals "units_of" = some (some (.ref f))) (l : K.lookup f = some ⟨oc, od, .func (PySem.W.fnOf "units_of" "units_of" (defArgs s_units_of) (defBody s_units_of) (defScope s_units_of) .none kV dc pm an cd ct), sl⟩) (c : PySem.W.codeIn K cd "units_of" = true) (k : PySem.W.keepIn K (.ref f) = true) : Da K mg "units_of" "units_of" s_units_of ["array"] := ⟨f, _, [], PySem.W.mg_of X G a, (funD_of (st := s_units_of) l c k), ((fun_mk (st := s_units_of) l c k).binds (ps := ["array"]) fun _ _ _ _ _ _ us hl => match us, hl with | [_], _ => rfl)⟩
theorem mk_d__law_draw {K : PySem.W.Frag} {h : Heap} {mg : Str → Option Value} {f : Addr} {od an : Option Addr} {sl : Array (Option Value)} {oc kV dc pm cd ct : Value} (X : K.In h) (G : h.Ns mainGlobals mg) (a : PySem.W.nsIn K mainGlobals "_law_draw" = some (some (.ref f))) (l : K.lookup f = some ⟨oc, od, .func (PySem.W.fnOf "_law_draw" "_law_draw" (defArgs s_law_draw) (defBody s_law_draw) (defScope s_law_draw) .none kV dc pm an cd ct), sl⟩) (c : PySem.W.codeIn K cd "_law_draw" = true) (k : PySem.W.keepIn K (.ref f) = true) : Da K mg "_law_draw" "_law_draw" s_law_draw ["state", "most"] := ⟨f, _, [], PySem.W.mg_of X G a, (funD_of (st := s_law_draw) l c k), ((fun_mk (st := s_law_draw) l c k).binds (ps := ["state", "most"]) fun _ _ _ _ _ _ us hl => match us, hl with | [_, _], _ => rfl)⟩
theorem mk_n_Lines_init {C : Addr} {K : PySem.W.Frag} {h : Heap} {mg : Str → Option Value} {f : Addr} {od an : Option Addr} {sl : Array (Option Value)} {oc kV dc pm cd ct : Value} (X : K.In h) (G : h.Ns mainGlobals mg) (aC : PySem.W.nsIn K mainGlobals "Lines" = some (some (.ref C))) (mk : PySem.W.makesIn K C = true) (kc : PySem.W.keepIn K (.ref C) = true) (a : PySem.W.findIn K (.ref C) "__init__" = some (some (.ref f))) (i : PySem.W.isFn K (.ref f) = true) (l : K.lookup f = some ⟨oc, od, .func (PySem.W.fnOf "__init__" "Lines.__init__" (defArgs s_Lines_init) (defBody s_Lines_init) (defScope s_Lines_init) .none kV dc pm an cd ct), sl⟩) (c : PySem.W.codeIn K cd "Lines.__init__" = true) (k : PySem.W.keepIn K (.ref f) = true) : Nd K mg "Lines" "Lines.__init__" s_Lines_init ["self", "text"] := ⟨C, f, _, [], PySem.W.mg_of X G aC, ⟨mk, a, i, kc⟩, (funD_of (st := s_Lines_init) l c k), ((fun_mk (st := s_Lines_init) l c k).binds (ps := ["self", "text"]) fun _ _ _ _ _ _ us hl => match us, hl with | [_, _], _ => rfl)⟩
theorem mk_d_read_head {K : PySem.W.Frag} {h : Heap} {mg : Str → Option Value} {f : Addr} {od an : Option Addr} {sl : Array (Option Value)} {oc kV dc pm cd ct : Value} (X : K.In h) (G : h.Ns mainGlobals mg) (a : PySem.W.nsIn K mainGlobals "read_head" = some (some (.ref f))) (l : K.lookup f = some ⟨oc, od, .func (PySem.W.fnOf "read_head" "read_head" (defArgs s_read_head) (defBody s_read_head) (defScope s_read_head) .none kV dc pm an cd ct), sl⟩) (c : PySem.W.codeIn K cd "read_head" = true) (k : PySem.W.keepIn K (.ref f) = true) : Da K mg "read_head" "read_head" s_read_head ["lines", "word"] := ⟨f, _, [], PySem.W.mg_of X G a, (funD_of (st := s_read_head) l c k), ((fun_mk (st := s_read_head) l c k).binds (ps := ["lines", "word"]) fun _ _ _ _ _ _ us hl => match us, hl with | [_, _], _ => rfl)⟩
theorem mk_d_read_frame {K : PySem.W.Frag} {h : Heap} {mg : Str → Option Value} {f : Addr} {od an : Option Addr} {sl : Array (Option Value)} {oc kV dc pm cd ct : Value} (X : K.In h) (G : h.Ns mainGlobals mg) (a : PySem.W.nsIn K mainGlobals "read_frame" = some (some (.ref f))) (l : K.lookup f = some ⟨oc, od, .func (PySem.W.fnOf "read_frame" "read_frame" (defArgs s_read_frame) (defBody s_read_frame) (defScope s_read_frame) .none kV dc pm an cd ct), sl⟩) (c : PySem.W.codeIn K cd "read_frame" = true) (k : PySem.W.keepIn K (.ref f) = true) : Da K mg "read_frame" "read_frame" s_read_frame ["lines", "hand"] := ⟨f, _, [], PySem.W.mg_of X G a, (funD_of (st := s_read_frame) l c k), ((fun_mk (st := s_read_frame) l c k).binds (ps := ["lines", "hand"]) fun _ _ _ _ _ _ us hl => match us, hl with | [_, _], _ => rfl)⟩
theorem mk_m_Hand_next_0 {C : Addr} {K : PySem.W.Frag} {h : Heap} {mg : Str → Option Value} {f : Addr} {od an : Option Addr} {sl : Array (Option Value)} {oc kV dc pm cd ct : Value} {aD : Addr} {nD : Nat} {slD : Array (Option Value)} {tD0 : Tok} (X : K.In h) (G : h.Ns mainGlobals mg) (aC : PySem.W.nsIn K mainGlobals "Hand" = some (some (.ref C))) (cl : Cls K C) (a : PySem.W.findIn K (.ref C) "next" = some (some (.ref f))) (i : PySem.W.isFn K (.ref f) = true) (l : K.lookup f = some ⟨oc, od, .func (PySem.W.fnOf "next" "Hand.next" (defArgs s_Hand_next) (defBody s_Hand_next) (defScope s_Hand_next) (.ref aD) kV dc pm an cd ct), sl⟩) (c : PySem.W.codeIn K cd "Hand.next" = true) (k : PySem.W.keepIn K (.ref f) = true) (lD : K.lookup aD = some ⟨.type "tuple", none, .seq #[.int 0 tD0] nD, slD⟩) : Md K mg "Hand" "next" "Hand.next" s_Hand_next ["self", "further"] [] := by
  have F := (⟨⟨oc, od, .ref aD, kV, dc, pm, an, cd, ct, sl, rfl, l, c, .inr ⟨by simp, aD, _, _, nD, rfl, lD, rfl, (.cons ⟨_, rfl⟩ .nil)⟩, .inl rfl⟩, k⟩ : FunD K "next" "Hand.next" (defArgs s_Hand_next) (defBody s_Hand_next) (defScope s_Hand_next) [V.int 0] [] f _)
  obtain ⟨du, v, b⟩ := F.binds1 (ps := ["self", "further"]) 2 1 (by simp) (by decide) fun _ _ _ _ _ _ _ us its h1 h2 => match us, its, h1, h2 with | [_, _], [_], _, _ => ⟨_, rfl, rfl⟩
  exact ⟨C, f, _, du, _, PySem.W.mg_of X G aC, cl, ⟨a, i, k⟩, F, b, v, rfl⟩
theorem mk_m_Hand_next_1 {C : Addr} {K : PySem.W.Frag} {h : Heap} {mg : Str → Option Value} {f : Addr} {od an : Option Addr} {sl : Array (Option Value)} {oc kV dc pm cd ct : Value} {aD : Addr} {nD : Nat} {slD : Array (Option Value)} {tD0 : Tok} (X : K.In h) (G : h.Ns mainGlobals mg) (aC : PySem.W.nsIn K mainGlobals "Hand" = some (some (.ref C))) (cl : Cls K C) (a : PySem.W.findIn K (.ref C) "next" = some (some (.ref f))) (i : PySem.W.isFn K (.ref f) = true) (l : K.lookup f = some ⟨oc, od, .func (PySem.W.fnOf "next" "Hand.next" (defArgs s_Hand_next) (defBody s_Hand_next) (defScope s_Hand_next) (.ref aD) kV dc pm an cd ct), sl⟩) (c : PySem.W.codeIn K cd "Hand.next" = true) (k : PySem.W.keepIn K (.ref f) = true) (lD : K.lookup aD = some ⟨.type "tuple", none, .seq #[.int 0 tD0] nD, slD⟩) : Md K mg "Hand" "next" "Hand.next" s_Hand_next ["self", "further"] [.im (.int 0)] := by
  have F := (⟨⟨oc, od, .ref aD, kV, dc, pm, an, cd, ct, sl, rfl, l, c, .inr ⟨by simp, aD, _, _, nD, rfl, lD, rfl, (.cons ⟨_, rfl⟩ .nil)⟩, .inl rfl⟩, k⟩ : FunD K "next" "Hand.next" (defArgs s_Hand_next) (defBody s_Hand_next) (defScope s_Hand_next) [V.int 0] [] f _)
  obtain ⟨du, v, b⟩ := F.binds1 (ps := ["self", "further"]) 1 0 (by simp) (by decide) fun _ _ _ _ _ _ _ us its h1 h2 => match us, its, h1, h2 with | [_], [_], _, _ => ⟨_, rfl, rfl⟩
  exact ⟨C, f, _, du, _, PySem.W.mg_of X G aC, cl, ⟨a, i, k⟩, F, b, v, rfl⟩
theorem mk_d_row_of {K : PySem.W.Frag} {h : Heap} {mg : Str → Option Value} {f : Addr} {od an : Option Addr} {sl : Array (Option Value)} {oc kV dc pm cd ct : Value} (X : K.In h) (G : h.Ns mainGlobals mg) (a : PySem.W.nsIn K mainGlobals "row_of" = some (some (.ref f))) (l : K.lookup f = some ⟨oc, od, .func (PySem.W.fnOf "row_of" "row_of" (defArgs s_row_of) (defBody s_row_of) (defScope s_row_of) .none kV dc pm an cd ct), sl⟩) (c : PySem.W.codeIn K cd "row_of" = true) (k : PySem.W.keepIn K (.ref f) = true) : Da K mg "row_of" "row_of" s_row_of ["hand"] := ⟨f, _, [], PySem.W.mg_of X G a, (funD_of (st := s_row_of) l c k), ((fun_mk (st := s_row_of) l c k).binds (ps := ["hand"]) fun _ _ _ _ _ _ us hl => match us, hl with | [_], _ => rfl)⟩
theorem mk_m_Lines_ahead_0 {C : Addr} {K : PySem.W.Frag} {h : Heap} {mg : Str → Option Value} {f : Addr} {od an : Option Addr} {sl : Array (Option Value)} {oc kV dc pm cd ct : Value} (X : K.In h) (G : h.Ns mainGlobals mg) (aC : PySem.W.nsIn K mainGlobals "Lines" = some (some (.ref C))) (cl : Cls K C) (a : PySem.W.findIn K (.ref C) "ahead" = some (some (.ref f))) (i : PySem.W.isFn K (.ref f) = true) (l : K.lookup f = some ⟨oc, od, .func (PySem.W.fnOf "ahead" "Lines.ahead" (defArgs s_Lines_ahead) (defBody s_Lines_ahead) (defScope s_Lines_ahead) .none kV dc pm an cd ct), sl⟩) (c : PySem.W.codeIn K cd "Lines.ahead" = true) (k : PySem.W.keepIn K (.ref f) = true) : Md K mg "Lines" "ahead" "Lines.ahead" s_Lines_ahead ["self"] [] := by
  exact ⟨C, f, _, [], [], PySem.W.mg_of X G aC, cl, ⟨a, i, k⟩, (funD_of (st := s_Lines_ahead) l c k), ((fun_mk (st := s_Lines_ahead) l c k).binds (ps := ["self"]) fun _ _ _ _ _ _ us hl => match us, hl with | [_], _ => rfl), .nil, rfl⟩
theorem mk_d_read_block {K : PySem.W.Frag} {h : Heap} {mg : Str → Option Value} {f : Addr} {od an : Option Addr} {sl : Array (Option Value)} {oc kV dc pm cd ct : Value} (X : K.In h) (G : h.Ns mainGlobals mg) (a : PySem.W.nsIn K mainGlobals "read_block" = some (some (.ref f))) (l : K.lookup f = some ⟨oc, od, .func (PySem.W.fnOf "read_block" "read_block" (defArgs s_read_block) (defBody s_read_block) (defScope s_read_block) .none kV dc pm an cd ct), sl⟩) (c : PySem.W.codeIn K cd "read_block" = true) (k : PySem.W.keepIn K (.ref f) = true) : Da K mg "read_block" "read_block" s_read_block ["lines", "hand", "piece_of"] := ⟨f, _, [], PySem.W.mg_of X G a, (funD_of (st := s_read_block) l c k), ((fun_mk (st := s_read_block) l c k).binds (ps := ["lines", "hand", "piece_of"]) fun _ _ _ _ _ _ us hl => match us, hl with | [_, _, _], _ => rfl)⟩
theorem mk_d_read_makings {K : PySem.W.Frag} {h : Heap} {mg : Str → Option Value} {f : Addr} {od an : Option Addr} {sl : Array (Option Value)} {oc kV dc pm cd ct : Value} (X : K.In h) (G : h.Ns mainGlobals mg) (a : PySem.W.nsIn K mainGlobals "read_makings" = some (some (.ref f))) (l : K.lookup f = some ⟨oc, od, .func (PySem.W.fnOf "read_makings" "read_makings" (defArgs s_read_makings) (defBody s_read_makings) (defScope s_read_makings) .none kV dc pm an cd ct), sl⟩) (c : PySem.W.codeIn K cd "read_makings" = true) (k : PySem.W.keepIn K (.ref f) = true) : Da K mg "read_makings" "read_makings" s_read_makings ["lines", "hand"] := ⟨f, _, [], PySem.W.mg_of X G a, (funD_of (st := s_read_makings) l c k), ((fun_mk (st := s_read_makings) l c k).binds (ps := ["lines", "hand"]) fun _ _ _ _ _ _ us hl => match us, hl with | [_, _], _ => rfl)⟩
theorem mk_m_Lines_finish_0 {C : Addr} {K : PySem.W.Frag} {h : Heap} {mg : Str → Option Value} {f : Addr} {od an : Option Addr} {sl : Array (Option Value)} {oc kV dc pm cd ct : Value} (X : K.In h) (G : h.Ns mainGlobals mg) (aC : PySem.W.nsIn K mainGlobals "Lines" = some (some (.ref C))) (cl : Cls K C) (a : PySem.W.findIn K (.ref C) "finish" = some (some (.ref f))) (i : PySem.W.isFn K (.ref f) = true) (l : K.lookup f = some ⟨oc, od, .func (PySem.W.fnOf "finish" "Lines.finish" (defArgs s_Lines_finish) (defBody s_Lines_finish) (defScope s_Lines_finish) .none kV dc pm an cd ct), sl⟩) (c : PySem.W.codeIn K cd "Lines.finish" = true) (k : PySem.W.keepIn K (.ref f) = true) : Md K mg "Lines" "finish" "Lines.finish" s_Lines_finish ["self", "hand"] [] := by
  exact ⟨C, f, _, [], [], PySem.W.mg_of X G aC, cl, ⟨a, i, k⟩, (funD_of (st := s_Lines_finish) l c k), ((fun_mk (st := s_Lines_finish) l c k).binds (ps := ["self", "hand"]) fun _ _ _ _ _ _ us hl => match us, hl with | [_, _], _ => rfl), .nil, rfl⟩
theorem mk_d_is_set {K : PySem.W.Frag} {h : Heap} {mg : Str → Option Value} {f : Addr} {od an : Option Addr} {sl : Array (Option Value)} {oc kV dc pm cd ct : Value} (X : K.In h) (G : h.Ns mainGlobals mg) (a : PySem.W.nsIn K mainGlobals "is_set" = some (some (.ref f))) (l : K.lookup f = some ⟨oc, od, .func (PySem.W.fnOf "is_set" "is_set" (defArgs s_is_set) (defBody s_is_set) (defScope s_is_set) .none kV dc pm an cd ct), sl⟩) (c : PySem.W.codeIn K cd "is_set" = true) (k : PySem.W.keepIn K (.ref f) = true) : Da K mg "is_set" "is_set" s_is_set ["datum", "names"] := ⟨f, _, [], PySem.W.mg_of X G a, (funD_of (st := s_is_set) l c k), ((fun_mk (st := s_is_set) l c k).binds (ps := ["datum", "names"]) fun _ _ _ _ _ _ us hl => match us, hl with | [_, _], _ => rfl)⟩
theorem mk_d_are_words {K : PySem.W.Frag} {h : Heap} {mg : Str → Option Value} {f : Addr} {od an : Option Addr} {sl : Array (Option Value)} {oc kV dc pm cd ct : Value} (X : K.In h) (G : h.Ns mainGlobals mg) (a : PySem.W.nsIn K mainGlobals "are_words" = some (some (.ref f))) (l : K.lookup f = some ⟨oc, od, .func (PySem.W.fnOf "are_words" "are_words" (defArgs s_are_words) (defBody s_are_words) (defScope s_are_words) .none kV dc pm an cd ct), sl⟩) (c : PySem.W.codeIn K cd "are_words" = true) (k : PySem.W.keepIn K (.ref f) = true) : Da K mg "are_words" "are_words" s_are_words ["datum", "most"] := ⟨f, _, [], PySem.W.mg_of X G a, (funD_of (st := s_are_words) l c k), ((fun_mk (st := s_are_words) l c k).binds (ps := ["datum", "most"]) fun _ _ _ _ _ _ us hl => match us, hl with | [_, _], _ => rfl)⟩
theorem mk_d_is_array_sheets {K : PySem.W.Frag} {h : Heap} {mg : Str → Option Value} {f : Addr} {od an : Option Addr} {sl : Array (Option Value)} {oc kV dc pm cd ct : Value} (X : K.In h) (G : h.Ns mainGlobals mg) (a : PySem.W.nsIn K mainGlobals "is_array_sheets" = some (some (.ref f))) (l : K.lookup f = some ⟨oc, od, .func (PySem.W.fnOf "is_array" "is_array" (defArgs s_is_array) (defBody s_is_array) (defScope s_is_array) .none kV dc pm an cd ct), sl⟩) (c : PySem.W.codeIn K cd "is_array" = true) (k : PySem.W.keepIn K (.ref f) = true) : Da K mg "is_array_sheets" "is_array" s_is_array ["datum", "sizes"] := ⟨f, _, [], PySem.W.mg_of X G a, (funD_of (st := s_is_array) l c k), ((fun_mk (st := s_is_array) l c k).binds (ps := ["datum", "sizes"]) fun _ _ _ _ _ _ us hl => match us, hl with | [_, _], _ => rfl)⟩
theorem mk_d_is_box {K : PySem.W.Frag} {h : Heap} {mg : Str → Option Value} {f : Addr} {od an : Option Addr} {sl : Array (Option Value)} {oc kV dc pm cd ct : Value} (X : K.In h) (G : h.Ns mainGlobals mg) (a : PySem.W.nsIn K mainGlobals "is_box" = some (some (.ref f))) (l : K.lookup f = some ⟨oc, od, .func (PySem.W.fnOf "is_box" "is_box" (defArgs s_is_box) (defBody s_is_box) (defScope s_is_box) .none kV dc pm an cd ct), sl⟩) (c : PySem.W.codeIn K cd "is_box" = true) (k : PySem.W.keepIn K (.ref f) = true) : Da K mg "is_box" "is_box" s_is_box ["datum", "sizes"] := ⟨f, _, [], PySem.W.mg_of X G a, (funD_of (st := s_is_box) l c k), ((fun_mk (st := s_is_box) l c k).binds (ps := ["datum", "sizes"]) fun _ _ _ _ _ _ us hl => match us, hl with | [_, _], _ => rfl)⟩
theorem mk_d_cell_names {K : PySem.W.Frag} {h : Heap} {mg : Str → Option Value} {f : Addr} {od an : Option Addr} {sl : Array (Option Value)} {oc kV dc pm cd ct : Value} (X : K.In h) (G : h.Ns mainGlobals mg) (a : PySem.W.nsIn K mainGlobals "cell_names" = some (some (.ref f))) (l : K.lookup f = some ⟨oc, od, .func (PySem.W.fnOf "cell_names" "cell_names" (defArgs s_cell_names) (defBody s_cell_names) (defScope s_cell_names) .none kV dc pm an cd ct), sl⟩) (c : PySem.W.codeIn K cd "cell_names" = true) (k : PySem.W.keepIn K (.ref f) = true) : Da K mg "cell_names" "cell_names" s_cell_names ["sizes", "many"] := ⟨f, _, [], PySem.W.mg_of X G a, (funD_of (st := s_cell_names) l c k), ((fun_mk (st := s_cell_names) l c k).binds (ps := ["sizes", "many"]) fun _ _ _ _ _ _ us hl => match us, hl with | [_, _], _ => rfl)⟩
theorem mk_d_is_condition {K : PySem.W.Frag} {h : Heap} {mg : Str → Option Value} {f : Addr} {od an : Option Addr} {sl : Array (Option Value)} {oc kV dc pm cd ct : Value} (X : K.In h) (G : h.Ns mainGlobals mg) (a : PySem.W.nsIn K mainGlobals "is_condition" = some (some (.ref f))) (l : K.lookup f = some ⟨oc, od, .func (PySem.W.fnOf "is_condition" "is_condition" (defArgs s_is_condition) (defBody s_is_condition) (defScope s_is_condition) .none kV dc pm an cd ct), sl⟩) (c : PySem.W.codeIn K cd "is_condition" = true) (k : PySem.W.keepIn K (.ref f) = true) : Da K mg "is_condition" "is_condition" s_is_condition ["datum", "names"] := ⟨f, _, [], PySem.W.mg_of X G a, (funD_of (st := s_is_condition) l c k), ((fun_mk (st := s_is_condition) l c k).binds (ps := ["datum", "names"]) fun _ _ _ _ _ _ us hl => match us, hl with | [_, _], _ => rfl)⟩
theorem mk_m_Rows_is_expression_0 {C : Addr} {K : PySem.W.Frag} {h : Heap} {mg : Str → Option Value} {f : Addr} {od an : Option Addr} {sl : Array (Option Value)} {oc kV dc pm cd ct : Value} (X : K.In h) (G : h.Ns mainGlobals mg) (aC : PySem.W.nsIn K mainGlobals "Rows" = some (some (.ref C))) (cl : Cls K C) (a : PySem.W.findIn K (.ref C) "is_expression" = some (some (.ref f))) (i : PySem.W.isFn K (.ref f) = true) (l : K.lookup f = some ⟨oc, od, .func (PySem.W.fnOf "is_expression" "Rows.is_expression" (defArgs s_Rows_is_expression) (defBody s_Rows_is_expression) (defScope s_Rows_is_expression) .none kV dc pm an cd ct), sl⟩) (c : PySem.W.codeIn K cd "Rows.is_expression" = true) (k : PySem.W.keepIn K (.ref f) = true) : Md K mg "Rows" "is_expression" "Rows.is_expression" s_Rows_is_expression ["self", "datum", "deep"] [] := by
  exact ⟨C, f, _, [], [], PySem.W.mg_of X G aC, cl, ⟨a, i, k⟩, (funD_of (st := s_Rows_is_expression) l c k), ((fun_mk (st := s_Rows_is_expression) l c k).binds (ps := ["self", "datum", "deep"]) fun _ _ _ _ _ _ us hl => match us, hl with | [_, _, _], _ => rfl), .nil, rfl⟩
theorem mk_d_is_piece {K : PySem.W.Frag} {h : Heap} {mg : Str → Option Value} {f : Addr} {od an : Option Addr} {sl : Array (Option Value)} {oc kV dc pm cd ct : Value} (X : K.In h) (G : h.Ns mainGlobals mg) (a : PySem.W.nsIn K mainGlobals "is_piece" = some (some (.ref f))) (l : K.lookup f = some ⟨oc, od, .func (PySem.W.fnOf "is_piece" "is_piece" (defArgs s_is_piece) (defBody s_is_piece) (defScope s_is_piece) .none kV dc pm an cd ct), sl⟩) (c : PySem.W.codeIn K cd "is_piece" = true) (k : PySem.W.keepIn K (.ref f) = true) : Da K mg "is_piece" "is_piece" s_is_piece ["datum", "names", "units", "places"] := ⟨f, _, [], PySem.W.mg_of X G a, (funD_of (st := s_is_piece) l c k), ((fun_mk (st := s_is_piece) l c k).binds (ps := ["datum", "names", "units", "places"]) fun _ _ _ _ _ _ us hl => match us, hl with | [_, _, _, _], _ => rfl)⟩
theorem mk_m_Hand_must_0 {C : Addr} {K : PySem.W.Frag} {h : Heap} {mg : Str → Option Value} {f : Addr} {od an : Option Addr} {sl : Array (Option Value)} {oc kV dc pm cd ct : Value} (X : K.In h) (G : h.Ns mainGlobals mg) (aC : PySem.W.nsIn K mainGlobals "Hand" = some (some (.ref C))) (cl : Cls K C) (a : PySem.W.findIn K (.ref C) "must" = some (some (.ref f))) (i : PySem.W.isFn K (.ref f) = true) (l : K.lookup f = some ⟨oc, od, .func (PySem.W.fnOf "must" "Hand.must" (defArgs s_Hand_must) (defBody s_Hand_must) (defScope s_Hand_must) .none kV dc pm an cd ct), sl⟩) (c : PySem.W.codeIn K cd "Hand.must" = true) (k : PySem.W.keepIn K (.ref f) = true) : Md K mg "Hand" "must" "Hand.must" s_Hand_must ["self", "token"] [] := by
  exact ⟨C, f, _, [], [], PySem.W.mg_of X G aC, cl, ⟨a, i, k⟩, (funD_of (st := s_Hand_must) l c k), ((fun_mk (st := s_Hand_must) l c k).binds (ps := ["self", "token"]) fun _ _ _ _ _ _ us hl => match us, hl with | [_, _], _ => rfl), .nil, rfl⟩
theorem mk_m_Hand_name_0 {C : Addr} {K : PySem.W.Frag} {h : Heap} {mg : Str → Option Value} {f : Addr} {od an : Option Addr} {sl : Array (Option Value)} {oc kV dc pm cd ct : Value} (X : K.In h) (G : h.Ns mainGlobals mg) (aC : PySem.W.nsIn K mainGlobals "Hand" = some (some (.ref C))) (cl : Cls K C) (a : PySem.W.findIn K (.ref C) "name" = some (some (.ref f))) (i : PySem.W.isFn K (.ref f) = true) (l : K.lookup f = some ⟨oc, od, .func (PySem.W.fnOf "name" "Hand.name" (defArgs s_Hand_name) (defBody s_Hand_name) (defScope s_Hand_name) .none kV dc pm an cd ct), sl⟩) (c : PySem.W.codeIn K cd "Hand.name" = true) (k : PySem.W.keepIn K (.ref f) = true) : Md K mg "Hand" "name" "Hand.name" s_Hand_name ["self"] [] := by
  exact ⟨C, f, _, [], [], PySem.W.mg_of X G aC, cl, ⟨a, i, k⟩, (funD_of (st := s_Hand_name) l c k), ((fun_mk (st := s_Hand_name) l c k).binds (ps := ["self"]) fun _ _ _ _ _ _ us hl => match us, hl with | [_], _ => rfl), .nil, rfl⟩
theorem mk_m_Hand_names_0 {C : Addr} {K : PySem.W.Frag} {h : Heap} {mg : Str → Option Value} {f : Addr} {od an : Option Addr} {sl : Array (Option Value)} {oc kV dc pm cd ct : Value} (X : K.In h) (G : h.Ns mainGlobals mg) (aC : PySem.W.nsIn K mainGlobals "Hand" = some (some (.ref C))) (cl : Cls K C) (a : PySem.W.findIn K (.ref C) "names" = some (some (.ref f))) (i : PySem.W.isFn K (.ref f) = true) (l : K.lookup f = some ⟨oc, od, .func (PySem.W.fnOf "names" "Hand.names" (defArgs s_Hand_names) (defBody s_Hand_names) (defScope s_Hand_names) .none kV dc pm an cd ct), sl⟩) (c : PySem.W.codeIn K cd "Hand.names" = true) (k : PySem.W.keepIn K (.ref f) = true) : Md K mg "Hand" "names" "Hand.names" s_Hand_names ["self"] [] := by
  exact ⟨C, f, _, [], [], PySem.W.mg_of X G aC, cl, ⟨a, i, k⟩, (funD_of (st := s_Hand_names) l c k), ((fun_mk (st := s_Hand_names) l c k).binds (ps := ["self"]) fun _ _ _ _ _ _ us hl => match us, hl with | [_], _ => rfl), .nil, rfl⟩
theorem mk_m_Hand_end_0 {C : Addr} {K : PySem.W.Frag} {h : Heap} {mg : Str → Option Value} {f : Addr} {od an : Option Addr} {sl : Array (Option Value)} {oc kV dc pm cd ct : Value} (X : K.In h) (G : h.Ns mainGlobals mg) (aC : PySem.W.nsIn K mainGlobals "Hand" = some (some (.ref C))) (cl : Cls K C) (a : PySem.W.findIn K (.ref C) "end" = some (some (.ref f))) (i : PySem.W.isFn K (.ref f) = true) (l : K.lookup f = some ⟨oc, od, .func (PySem.W.fnOf "end" "Hand.end" (defArgs s_Hand_end) (defBody s_Hand_end) (defScope s_Hand_end) .none kV dc pm an cd ct), sl⟩) (c : PySem.W.codeIn K cd "Hand.end" = true) (k : PySem.W.keepIn K (.ref f) = true) : Md K mg "Hand" "end" "Hand.end" s_Hand_end ["self"] [] := by
  exact ⟨C, f, _, [], [], PySem.W.mg_of X G aC, cl, ⟨a, i, k⟩, (funD_of (st := s_Hand_end) l c k), ((fun_mk (st := s_Hand_end) l c k).binds (ps := ["self"]) fun _ _ _ _ _ _ us hl => match us, hl with | [_], _ => rfl), .nil, rfl⟩
theorem mk_m_Hand_go_0 {C : Addr} {K : PySem.W.Frag} {h : Heap} {mg : Str → Option Value} {f : Addr} {od an : Option Addr} {sl : Array (Option Value)} {oc kV dc pm cd ct : Value} (X : K.In h) (G : h.Ns mainGlobals mg) (aC : PySem.W.nsIn K mainGlobals "Hand" = some (some (.ref C))) (cl : Cls K C) (a : PySem.W.findIn K (.ref C) "go" = some (some (.ref f))) (i : PySem.W.isFn K (.ref f) = true) (l : K.lookup f = some ⟨oc, od, .func (PySem.W.fnOf "go" "Hand.go" (defArgs s_Hand_go) (defBody s_Hand_go) (defScope s_Hand_go) .none kV dc pm an cd ct), sl⟩) (c : PySem.W.codeIn K cd "Hand.go" = true) (k : PySem.W.keepIn K (.ref f) = true) : Md K mg "Hand" "go" "Hand.go" s_Hand_go ["self"] [] := by
  exact ⟨C, f, _, [], [], PySem.W.mg_of X G aC, cl, ⟨a, i, k⟩, (funD_of (st := s_Hand_go) l c k), ((fun_mk (st := s_Hand_go) l c k).binds (ps := ["self"]) fun _ _ _ _ _ _ us hl => match us, hl with | [_], _ => rfl), .nil, rfl⟩
theorem mk_d_condition_of {K : PySem.W.Frag} {h : Heap} {mg : Str → Option Value} {f : Addr} {od an : Option Addr} {sl : Array (Option Value)} {oc kV dc pm cd ct : Value} (X : K.In h) (G : h.Ns mainGlobals mg) (a : PySem.W.nsIn K mainGlobals "condition_of" = some (some (.ref f))) (l : K.lookup f = some ⟨oc, od, .func (PySem.W.fnOf "condition_of" "condition_of" (defArgs s_condition_of) (defBody s_condition_of) (defScope s_condition_of) .none kV dc pm an cd ct), sl⟩) (c : PySem.W.codeIn K cd "condition_of" = true) (k : PySem.W.keepIn K (.ref f) = true) : Da K mg "condition_of" "condition_of" s_condition_of ["hand"] := ⟨f, _, [], PySem.W.mg_of X G a, (funD_of (st := s_condition_of) l c k), ((fun_mk (st := s_condition_of) l c k).binds (ps := ["hand"]) fun _ _ _ _ _ _ us hl => match us, hl with | [_], _ => rfl)⟩
theorem mk_m_Hand_boxed_0 {C : Addr} {K : PySem.W.Frag} {h : Heap} {mg : Str → Option Value} {f : Addr} {od an : Option Addr} {sl : Array (Option Value)} {oc kV dc pm cd ct : Value} (X : K.In h) (G : h.Ns mainGlobals mg) (aC : PySem.W.nsIn K mainGlobals "Hand" = some (some (.ref C))) (cl : Cls K C) (a : PySem.W.findIn K (.ref C) "boxed" = some (some (.ref f))) (i : PySem.W.isFn K (.ref f) = true) (l : K.lookup f = some ⟨oc, od, .func (PySem.W.fnOf "boxed" "Hand.boxed" (defArgs s_Hand_boxed) (defBody s_Hand_boxed) (defScope s_Hand_boxed) .none kV dc pm an cd ct), sl⟩) (c : PySem.W.codeIn K cd "Hand.boxed" = true) (k : PySem.W.keepIn K (.ref f) = true) : Md K mg "Hand" "boxed" "Hand.boxed" s_Hand_boxed ["self", "reader"] [] := by
  exact ⟨C, f, _, [], [], PySem.W.mg_of X G aC, cl, ⟨a, i, k⟩, (funD_of (st := s_Hand_boxed) l c k), ((fun_mk (st := s_Hand_boxed) l c k).binds (ps := ["self", "reader"]) fun _ _ _ _ _ _ us hl => match us, hl with | [_, _], _ => rfl), .nil, rfl⟩
theorem mk_d_form_line {K : PySem.W.Frag} {h : Heap} {mg : Str → Option Value} {f : Addr} {od an : Option Addr} {sl : Array (Option Value)} {oc kV dc pm cd ct : Value} (X : K.In h) (G : h.Ns mainGlobals mg) (a : PySem.W.nsIn K mainGlobals "form_line" = some (some (.ref f))) (l : K.lookup f = some ⟨oc, od, .func (PySem.W.fnOf "form_line" "form_line" (defArgs s_form_line) (defBody s_form_line) (defScope s_form_line) .none kV dc pm an cd ct), sl⟩) (c : PySem.W.codeIn K cd "form_line" = true) (k : PySem.W.keepIn K (.ref f) = true) : Da K mg "form_line" "form_line" s_form_line ["hand", "word"] := ⟨f, _, [], PySem.W.mg_of X G a, (funD_of (st := s_form_line) l c k), ((fun_mk (st := s_form_line) l c k).binds (ps := ["hand", "word"]) fun _ _ _ _ _ _ us hl => match us, hl with | [_, _], _ => rfl)⟩
theorem mk_m_Hand_row_0 {C : Addr} {K : PySem.W.Frag} {h : Heap} {mg : Str → Option Value} {f : Addr} {od an : Option Addr} {sl : Array (Option Value)} {oc kV dc pm cd ct : Value} (X : K.In h) (G : h.Ns mainGlobals mg) (aC : PySem.W.nsIn K mainGlobals "Hand" = some (some (.ref C))) (cl : Cls K C) (a : PySem.W.findIn K (.ref C) "row" = some (some (.ref f))) (i : PySem.W.isFn K (.ref f) = true) (l : K.lookup f = some ⟨oc, od, .func (PySem.W.fnOf "row" "Hand.row" (defArgs s_Hand_row) (defBody s_Hand_row) (defScope s_Hand_row) .none kV dc pm an cd ct), sl⟩) (c : PySem.W.codeIn K cd "Hand.row" = true) (k : PySem.W.keepIn K (.ref f) = true) : Md K mg "Hand" "row" "Hand.row" s_Hand_row ["self", "reader"] [] := by
  exact ⟨C, f, _, [], [], PySem.W.mg_of X G aC, cl, ⟨a, i, k⟩, (funD_of (st := s_Hand_row) l c k), ((fun_mk (st := s_Hand_row) l c k).binds (ps := ["self", "reader"]) fun _ _ _ _ _ _ us hl => match us, hl with | [_, _], _ => rfl), .nil, rfl⟩
theorem mk_m_Hand_bad_0 {C : Addr} {K : PySem.W.Frag} {h : Heap} {mg : Str → Option Value} {f : Addr} {od an : Option Addr} {sl : Array (Option Value)} {oc kV dc pm cd ct : Value} (X : K.In h) (G : h.Ns mainGlobals mg) (aC : PySem.W.nsIn K mainGlobals "Hand" = some (some (.ref C))) (cl : Cls K C) (a : PySem.W.findIn K (.ref C) "bad" = some (some (.ref f))) (i : PySem.W.isFn K (.ref f) = true) (l : K.lookup f = some ⟨oc, od, .func (PySem.W.fnOf "bad" "Hand.bad" (defArgs s_Hand_bad) (defBody s_Hand_bad) (defScope s_Hand_bad) .none kV dc pm an cd ct), sl⟩) (c : PySem.W.codeIn K cd "Hand.bad" = true) (k : PySem.W.keepIn K (.ref f) = true) : Md K mg "Hand" "bad" "Hand.bad" s_Hand_bad ["self"] [] := by
  exact ⟨C, f, _, [], [], PySem.W.mg_of X G aC, cl, ⟨a, i, k⟩, (funD_of (st := s_Hand_bad) l c k), ((fun_mk (st := s_Hand_bad) l c k).binds (ps := ["self"]) fun _ _ _ _ _ _ us hl => match us, hl with | [_], _ => rfl), .nil, rfl⟩
theorem mk_m_Sums_sum_of_0 {C : Addr} {K : PySem.W.Frag} {h : Heap} {mg : Str → Option Value} {f : Addr} {od an : Option Addr} {sl : Array (Option Value)} {oc kV dc pm cd ct : Value} (X : K.In h) (G : h.Ns mainGlobals mg) (aC : PySem.W.nsIn K mainGlobals "Sums" = some (some (.ref C))) (cl : Cls K C) (a : PySem.W.findIn K (.ref C) "sum_of" = some (some (.ref f))) (i : PySem.W.isFn K (.ref f) = true) (l : K.lookup f = some ⟨oc, od, .func (PySem.W.fnOf "sum_of" "Sums.sum_of" (defArgs s_Sums_sum_of) (defBody s_Sums_sum_of) (defScope s_Sums_sum_of) .none kV dc pm an cd ct), sl⟩) (c : PySem.W.codeIn K cd "Sums.sum_of" = true) (k : PySem.W.keepIn K (.ref f) = true) : Md K mg "Sums" "sum_of" "Sums.sum_of" s_Sums_sum_of ["self", "hand"] [] := by
  exact ⟨C, f, _, [], [], PySem.W.mg_of X G aC, cl, ⟨a, i, k⟩, (funD_of (st := s_Sums_sum_of) l c k), ((fun_mk (st := s_Sums_sum_of) l c k).binds (ps := ["self", "hand"]) fun _ _ _ _ _ _ us hl => match us, hl with | [_, _], _ => rfl), .nil, rfl⟩
theorem mk_n_Sums_init {C : Addr} {K : PySem.W.Frag} {h : Heap} {mg : Str → Option Value} {f : Addr} {od an : Option Addr} {sl : Array (Option Value)} {oc kV dc pm cd ct : Value} (X : K.In h) (G : h.Ns mainGlobals mg) (aC : PySem.W.nsIn K mainGlobals "Sums" = some (some (.ref C))) (mk : PySem.W.makesIn K C = true) (kc : PySem.W.keepIn K (.ref C) = true) (a : PySem.W.findIn K (.ref C) "__init__" = some (some (.ref f))) (i : PySem.W.isFn K (.ref f) = true) (l : K.lookup f = some ⟨oc, od, .func (PySem.W.fnOf "__init__" "Sums.__init__" (defArgs s_Sums_init) (defBody s_Sums_init) (defScope s_Sums_init) .none kV dc pm an cd ct), sl⟩) (c : PySem.W.codeIn K cd "Sums.__init__" = true) (k : PySem.W.keepIn K (.ref f) = true) : Nd K mg "Sums" "Sums.__init__" s_Sums_init ["self", "kind", "ins"] := ⟨C, f, _, [], PySem.W.mg_of X G aC, ⟨mk, a, i, kc⟩, (funD_of (st := s_Sums_init) l c k), ((fun_mk (st := s_Sums_init) l c k).binds (ps := ["self", "kind", "ins"]) fun _ _ _ _ _ _ us hl => match us, hl with | [_, _, _], _ => rfl)⟩
theorem mk_m_Hand_may_0 {C : Addr} {K : PySem.W.Frag} {h : Heap} {mg : Str → Option Value} {f : Addr} {od an : Option Addr} {sl : Array (Option Value)} {oc kV dc pm cd ct : Value} (X : K.In h) (G : h.Ns mainGlobals mg) (aC : PySem.W.nsIn K mainGlobals "Hand" = some (some (.ref C))) (cl : Cls K C) (a : PySem.W.findIn K (.ref C) "may" = some (some (.ref f))) (i : PySem.W.isFn K (.ref f) = true) (l : K.lookup f = some ⟨oc, od, .func (PySem.W.fnOf "may" "Hand.may" (defArgs s_Hand_may) (defBody s_Hand_may) (defScope s_Hand_may) .none kV dc pm an cd ct), sl⟩) (c : PySem.W.codeIn K cd "Hand.may" = true) (k : PySem.W.keepIn K (.ref f) = true) : Md K mg "Hand" "may" "Hand.may" s_Hand_may ["self", "token"] [] := by
  exact ⟨C, f, _, [], [], PySem.W.mg_of X G aC, cl, ⟨a, i, k⟩, (funD_of (st := s_Hand_may) l c k), ((fun_mk (st := s_Hand_may) l c k).binds (ps := ["self", "token"]) fun _ _ _ _ _ _ us hl => match us, hl with | [_, _], _ => rfl), .nil, rfl⟩
theorem mk_d_guard_of {K : PySem.W.Frag} {h : Heap} {mg : Str → Option Value} {f : Addr} {od an : Option Addr} {sl : Array (Option Value)} {oc kV dc pm cd ct : Value} (X : K.In h) (G : h.Ns mainGlobals mg) (a : PySem.W.nsIn K mainGlobals "guard_of" = some (some (.ref f))) (l : K.lookup f = some ⟨oc, od, .func (PySem.W.fnOf "guard_of" "guard_of" (defArgs s_guard_of) (defBody s_guard_of) (defScope s_guard_of) .none kV dc pm an cd ct), sl⟩) (c : PySem.W.codeIn K cd "guard_of" = true) (k : PySem.W.keepIn K (.ref f) = true) : Da K mg "guard_of" "guard_of" s_guard_of ["hand"] := ⟨f, _, [], PySem.W.mg_of X G a, (funD_of (st := s_guard_of) l c k), ((fun_mk (st := s_guard_of) l c k).binds (ps := ["hand"]) fun _ _ _ _ _ _ us hl => match us, hl with | [_], _ => rfl)⟩
theorem mk_m_Lines_more_0 {C : Addr} {K : PySem.W.Frag} {h : Heap} {mg : Str → Option Value} {f : Addr} {od an : Option Addr} {sl : Array (Option Value)} {oc kV dc pm cd ct : Value} (X : K.In h) (G : h.Ns mainGlobals mg) (aC : PySem.W.nsIn K mainGlobals "Lines" = some (some (.ref C))) (cl : Cls K C) (a : PySem.W.findIn K (.ref C) "more" = some (some (.ref f))) (i : PySem.W.isFn K (.ref f) = true) (l : K.lookup f = some ⟨oc, od, .func (PySem.W.fnOf "more" "Lines.more" (defArgs s_Lines_more) (defBody s_Lines_more) (defScope s_Lines_more) .none kV dc pm an cd ct), sl⟩) (c : PySem.W.codeIn K cd "Lines.more" = true) (k : PySem.W.keepIn K (.ref f) = true) : Md K mg "Lines" "more" "Lines.more" s_Lines_more ["self"] [] := by
  exact ⟨C, f, _, [], [], PySem.W.mg_of X G aC, cl, ⟨a, i, k⟩, (funD_of (st := s_Lines_more) l c k), ((fun_mk (st := s_Lines_more) l c k).binds (ps := ["self"]) fun _ _ _ _ _ _ us hl => match us, hl with | [_], _ => rfl), .nil, rfl⟩
theorem mk_d_told_of {K : PySem.W.Frag} {h : Heap} {mg : Str → Option Value} {f : Addr} {od an : Option Addr} {sl : Array (Option Value)} {oc kV dc pm cd ct : Value} (X : K.In h) (G : h.Ns mainGlobals mg) (a : PySem.W.nsIn K mainGlobals "told_of" = some (some (.ref f))) (l : K.lookup f = some ⟨oc, od, .func (PySem.W.fnOf "told_of" "told_of" (defArgs s_told_of) (defBody s_told_of) (defScope s_told_of) .none kV dc pm an cd ct), sl⟩) (c : PySem.W.codeIn K cd "told_of" = true) (k : PySem.W.keepIn K (.ref f) = true) : Da K mg "told_of" "told_of" s_told_of ["hand"] := ⟨f, _, [], PySem.W.mg_of X G a, (funD_of (st := s_told_of) l c k), ((fun_mk (st := s_told_of) l c k).binds (ps := ["hand"]) fun _ _ _ _ _ _ us hl => match us, hl with | [_], _ => rfl)⟩
theorem mk_d_is_form {K : PySem.W.Frag} {h : Heap} {mg : Str → Option Value} {f : Addr} {od an : Option Addr} {sl : Array (Option Value)} {oc kV dc pm cd ct : Value} (X : K.In h) (G : h.Ns mainGlobals mg) (a : PySem.W.nsIn K mainGlobals "is_form" = some (some (.ref f))) (l : K.lookup f = some ⟨oc, od, .func (PySem.W.fnOf "is_form" "is_form" (defArgs s_is_form) (defBody s_is_form) (defScope s_is_form) .none kV dc pm an cd ct), sl⟩) (c : PySem.W.codeIn K cd "is_form" = true) (k : PySem.W.keepIn K (.ref f) = true) : Da K mg "is_form" "is_form" s_is_form ["datum", "names"] := ⟨f, _, [], PySem.W.mg_of X G a, (funD_of (st := s_is_form) l c k), ((fun_mk (st := s_is_form) l c k).binds (ps := ["datum", "names"]) fun _ _ _ _ _ _ us hl => match us, hl with | [_, _], _ => rfl)⟩
theorem mk_d_are_forms {K : PySem.W.Frag} {h : Heap} {mg : Str → Option Value} {f : Addr} {od an : Option Addr} {sl : Array (Option Value)} {oc kV dc pm cd ct : Value} (X : K.In h) (G : h.Ns mainGlobals mg) (a : PySem.W.nsIn K mainGlobals "are_forms" = some (some (.ref f))) (l : K.lookup f = some ⟨oc, od, .func (PySem.W.fnOf "are_forms" "are_forms" (defArgs s_are_forms) (defBody s_are_forms) (defScope s_are_forms) .none kV dc pm an cd ct), sl⟩) (c : PySem.W.codeIn K cd "are_forms" = true) (k : PySem.W.keepIn K (.ref f) = true) : Da K mg "are_forms" "are_forms" s_are_forms ["datum", "names", "many"] := ⟨f, _, [], PySem.W.mg_of X G a, (funD_of (st := s_are_forms) l c k), ((fun_mk (st := s_are_forms) l c k).binds (ps := ["datum", "names", "many"]) fun _ _ _ _ _ _ us hl => match us, hl with | [_, _, _], _ => rfl)⟩
theorem mk_d_place_names {K : PySem.W.Frag} {h : Heap} {mg : Str → Option Value} {f : Addr} {od an : Option Addr} {sl : Array (Option Value)} {oc kV dc pm cd ct : Value} (X : K.In h) (G : h.Ns mainGlobals mg) (a : PySem.W.nsIn K mainGlobals "place_names" = some (some (.ref f))) (l : K.lookup f = some ⟨oc, od, .func (PySem.W.fnOf "place_names" "place_names" (defArgs s_place_names) (defBody s_place_names) (defScope s_place_names) .none kV dc pm an cd ct), sl⟩) (c : PySem.W.codeIn K cd "place_names" = true) (k : PySem.W.keepIn K (.ref f) = true) : Da K mg "place_names" "place_names" s_place_names ["many"] := ⟨f, _, [], PySem.W.mg_of X G a, (funD_of (st := s_place_names) l c k), ((fun_mk (st := s_place_names) l c k).binds (ps := ["many"]) fun _ _ _ _ _ _ us hl => match us, hl with | [_], _ => rfl)⟩
theorem mk_d_is_integer {K : PySem.W.Frag} {h : Heap} {mg : Str → Option Value} {f : Addr} {od an : Option Addr} {sl : Array (Option Value)} {oc kV dc pm cd ct : Value} (X : K.In h) (G : h.Ns mainGlobals mg) (a : PySem.W.nsIn K mainGlobals "is_integer" = some (some (.ref f))) (l : K.lookup f = some ⟨oc, od, .func (PySem.W.fnOf "is_integer" "is_integer" (defArgs s_is_integer) (defBody s_is_integer) (defScope s_is_integer) .none kV dc pm an cd ct), sl⟩) (c : PySem.W.codeIn K cd "is_integer" = true) (k : PySem.W.keepIn K (.ref f) = true) : Da K mg "is_integer" "is_integer" s_is_integer ["datum"] := ⟨f, _, [], PySem.W.mg_of X G a, (funD_of (st := s_is_integer) l c k), ((fun_mk (st := s_is_integer) l c k).binds (ps := ["datum"]) fun _ _ _ _ _ _ us hl => match us, hl with | [_], _ => rfl)⟩
theorem mk_d_is_wire {K : PySem.W.Frag} {h : Heap} {mg : Str → Option Value} {f : Addr} {od an : Option Addr} {sl : Array (Option Value)} {oc kV dc pm cd ct : Value} (X : K.In h) (G : h.Ns mainGlobals mg) (a : PySem.W.nsIn K mainGlobals "is_wire" = some (some (.ref f))) (l : K.lookup f = some ⟨oc, od, .func (PySem.W.fnOf "is_wire" "is_wire" (defArgs s_is_wire) (defBody s_is_wire) (defScope s_is_wire) .none kV dc pm an cd ct), sl⟩) (c : PySem.W.codeIn K cd "is_wire" = true) (k : PySem.W.keepIn K (.ref f) = true) : Da K mg "is_wire" "is_wire" s_is_wire ["datum", "units", "places"] := ⟨f, _, [], PySem.W.mg_of X G a, (funD_of (st := s_is_wire) l c k), ((fun_mk (st := s_is_wire) l c k).binds (ps := ["datum", "units", "places"]) fun _ _ _ _ _ _ us hl => match us, hl with | [_, _, _], _ => rfl)⟩
theorem mk_d_is_rim {K : PySem.W.Frag} {h : Heap} {mg : Str → Option Value} {f : Addr} {od an : Option Addr} {sl : Array (Option Value)} {oc kV dc pm cd ct : Value} (X : K.In h) (G : h.Ns mainGlobals mg) (a : PySem.W.nsIn K mainGlobals "is_rim" = some (some (.ref f))) (l : K.lookup f = some ⟨oc, od, .func (PySem.W.fnOf "is_rim" "is_rim" (defArgs s_is_rim) (defBody s_is_rim) (defScope s_is_rim) .none kV dc pm an cd ct), sl⟩) (c : PySem.W.codeIn K cd "is_rim" = true) (k : PySem.W.keepIn K (.ref f) = true) : Da K mg "is_rim" "is_rim" s_is_rim ["datum", "names", "wide"] := ⟨f, _, [], PySem.W.mg_of X G a, (funD_of (st := s_is_rim) l c k), ((fun_mk (st := s_is_rim) l c k).binds (ps := ["datum", "names", "wide"]) fun _ _ _ _ _ _ us hl => match us, hl with | [_, _, _], _ => rfl)⟩
theorem mk_d_is_name_tokens {K : PySem.W.Frag} {h : Heap} {mg : Str → Option Value} {f : Addr} {od an : Option Addr} {sl : Array (Option Value)} {oc kV dc pm cd ct : Value} (X : K.In h) (G : h.Ns mainGlobals mg) (a : PySem.W.nsIn K mainGlobals "is_name_tokens" = some (some (.ref f))) (l : K.lookup f = some ⟨oc, od, .func (PySem.W.fnOf "is_name" "is_name" (defArgs s_is_name2) (defBody s_is_name2) (defScope s_is_name2) .none kV dc pm an cd ct), sl⟩) (c : PySem.W.codeIn K cd "is_name" = true) (k : PySem.W.keepIn K (.ref f) = true) : Da K mg "is_name_tokens" "is_name" s_is_name2 ["token"] := ⟨f, _, [], PySem.W.mg_of X G a, (funD_of (st := s_is_name2) l c k), ((fun_mk (st := s_is_name2) l c k).binds (ps := ["token"]) fun _ _ _ _ _ _ us hl => match us, hl with | [_], _ => rfl)⟩
theorem mk_d_compared {K : PySem.W.Frag} {h : Heap} {mg : Str → Option Value} {f : Addr} {od an : Option Addr} {sl : Array (Option Value)} {oc kV dc pm cd ct : Value} (X : K.In h) (G : h.Ns mainGlobals mg) (a : PySem.W.nsIn K mainGlobals "compared" = some (some (.ref f))) (l : K.lookup f = some ⟨oc, od, .func (PySem.W.fnOf "compared" "compared" (defArgs s_compared) (defBody s_compared) (defScope s_compared) .none kV dc pm an cd ct), sl⟩) (c : PySem.W.codeIn K cd "compared" = true) (k : PySem.W.keepIn K (.ref f) = true) : Da K mg "compared" "compared" s_compared ["hand"] := ⟨f, _, [], PySem.W.mg_of X G a, (funD_of (st := s_compared) l c k), ((fun_mk (st := s_compared) l c k).binds (ps := ["hand"]) fun _ _ _ _ _ _ us hl => match us, hl with | [_], _ => rfl)⟩
theorem mk_m_Hand_opened_0 {C : Addr} {K : PySem.W.Frag} {h : Heap} {mg : Str → Option Value} {f : Addr} {od an : Option Addr} {sl : Array (Option Value)} {oc kV dc pm cd ct : Value} (X : K.In h) (G : h.Ns mainGlobals mg) (aC : PySem.W.nsIn K mainGlobals "Hand" = some (some (.ref C))) (cl : Cls K C) (a : PySem.W.findIn K (.ref C) "opened" = some (some (.ref f))) (i : PySem.W.isFn K (.ref f) = true) (l : K.lookup f = some ⟨oc, od, .func (PySem.W.fnOf "opened" "Hand.opened" (defArgs s_Hand_opened) (defBody s_Hand_opened) (defScope s_Hand_opened) .none kV dc pm an cd ct), sl⟩) (c : PySem.W.codeIn K cd "Hand.opened" = true) (k : PySem.W.keepIn K (.ref f) = true) : Md K mg "Hand" "opened" "Hand.opened" s_Hand_opened ["self"] [] := by
  exact ⟨C, f, _, [], [], PySem.W.mg_of X G aC, cl, ⟨a, i, k⟩, (funD_of (st := s_Hand_opened) l c k), ((fun_mk (st := s_Hand_opened) l c k).binds (ps := ["self"]) fun _ _ _ _ _ _ us hl => match us, hl with | [_], _ => rfl), .nil, rfl⟩
theorem mk_m_Hand_shut_0 {C : Addr} {K : PySem.W.Frag} {h : Heap} {mg : Str → Option Value} {f : Addr} {od an : Option Addr} {sl : Array (Option Value)} {oc kV dc pm cd ct : Value} (X : K.In h) (G : h.Ns mainGlobals mg) (aC : PySem.W.nsIn K mainGlobals "Hand" = some (some (.ref C))) (cl : Cls K C) (a : PySem.W.findIn K (.ref C) "shut" = some (some (.ref f))) (i : PySem.W.isFn K (.ref f) = true) (l : K.lookup f = some ⟨oc, od, .func (PySem.W.fnOf "shut" "Hand.shut" (defArgs s_Hand_shut) (defBody s_Hand_shut) (defScope s_Hand_shut) .none kV dc pm an cd ct), sl⟩) (c : PySem.W.codeIn K cd "Hand.shut" = true) (k : PySem.W.keepIn K (.ref f) = true) : Md K mg "Hand" "shut" "Hand.shut" s_Hand_shut ["self", "token"] [] := by
  exact ⟨C, f, _, [], [], PySem.W.mg_of X G aC, cl, ⟨a, i, k⟩, (funD_of (st := s_Hand_shut) l c k), ((fun_mk (st := s_Hand_shut) l c k).binds (ps := ["self", "token"]) fun _ _ _ _ _ _ us hl => match us, hl with | [_, _], _ => rfl), .nil, rfl⟩
theorem mk_d_form_of {K : PySem.W.Frag} {h : Heap} {mg : Str → Option Value} {f : Addr} {od an : Option Addr} {sl : Array (Option Value)} {oc kV dc pm cd ct : Value} (X : K.In h) (G : h.Ns mainGlobals mg) (a : PySem.W.nsIn K mainGlobals "form_of" = some (some (.ref f))) (l : K.lookup f = some ⟨oc, od, .func (PySem.W.fnOf "form_of" "form_of" (defArgs s_form_of) (defBody s_form_of) (defScope s_form_of) .none kV dc pm an cd ct), sl⟩) (c : PySem.W.codeIn K cd "form_of" = true) (k : PySem.W.keepIn K (.ref f) = true) : Da K mg "form_of" "form_of" s_form_of ["hand"] := ⟨f, _, [], PySem.W.mg_of X G a, (funD_of (st := s_form_of) l c k), ((fun_mk (st := s_form_of) l c k).binds (ps := ["hand"]) fun _ _ _ _ _ _ us hl => match us, hl with | [_], _ => rfl)⟩
theorem mk_d_named {K : PySem.W.Frag} {h : Heap} {mg : Str → Option Value} {f : Addr} {od an : Option Addr} {sl : Array (Option Value)} {oc kV dc pm cd ct : Value} (X : K.In h) (G : h.Ns mainGlobals mg) (a : PySem.W.nsIn K mainGlobals "named" = some (some (.ref f))) (l : K.lookup f = some ⟨oc, od, .func (PySem.W.fnOf "named" "named" (defArgs s_named) (defBody s_named) (defScope s_named) .none kV dc pm an cd ct), sl⟩) (c : PySem.W.codeIn K cd "named" = true) (k : PySem.W.keepIn K (.ref f) = true) : Da K mg "named" "named" s_named ["hand"] := ⟨f, _, [], PySem.W.mg_of X G a, (funD_of (st := s_named) l c k), ((fun_mk (st := s_named) l c k).binds (ps := ["hand"]) fun _ _ _ _ _ _ us hl => match us, hl with | [_], _ => rfl)⟩
theorem mk_d_pair_of {K : PySem.W.Frag} {h : Heap} {mg : Str → Option Value} {f : Addr} {od an : Option Addr} {sl : Array (Option Value)} {oc kV dc pm cd ct : Value} (X : K.In h) (G : h.Ns mainGlobals mg) (a : PySem.W.nsIn K mainGlobals "pair_of" = some (some (.ref f))) (l : K.lookup f = some ⟨oc, od, .func (PySem.W.fnOf "pair_of" "pair_of" (defArgs s_pair_of) (defBody s_pair_of) (defScope s_pair_of) .none kV dc pm an cd ct), sl⟩) (c : PySem.W.codeIn K cd "pair_of" = true) (k : PySem.W.keepIn K (.ref f) = true) : Da K mg "pair_of" "pair_of" s_pair_of ["hand"] := ⟨f, _, [], PySem.W.mg_of X G a, (funD_of (st := s_pair_of) l c k), ((fun_mk (st := s_pair_of) l c k).binds (ps := ["hand"]) fun _ _ _ _ _ _ us hl => match us, hl with | [_], _ => rfl)⟩
theorem mk_d_signed_of {K : PySem.W.Frag} {h : Heap} {mg : Str → Option Value} {f : Addr} {od an : Option Addr} {sl : Array (Option Value)} {oc kV dc pm cd ct : Value} (X : K.In h) (G : h.Ns mainGlobals mg) (a : PySem.W.nsIn K mainGlobals "signed_of" = some (some (.ref f))) (l : K.lookup f = some ⟨oc, od, .func (PySem.W.fnOf "signed_of" "signed_of" (defArgs s_signed_of) (defBody s_signed_of) (defScope s_signed_of) .none kV dc pm an cd ct), sl⟩) (c : PySem.W.codeIn K cd "signed_of" = true) (k : PySem.W.keepIn K (.ref f) = true) : Da K mg "signed_of" "signed_of" s_signed_of ["hand"] := ⟨f, _, [], PySem.W.mg_of X G a, (funD_of (st := s_signed_of) l c k), ((fun_mk (st := s_signed_of) l c k).binds (ps := ["hand"]) fun _ _ _ _ _ _ us hl => match us, hl with | [_], _ => rfl)⟩
theorem mk_d_share_of {K : PySem.W.Frag} {h : Heap} {mg : Str → Option Value} {f : Addr} {od an : Option Addr} {sl : Array (Option Value)} {oc kV dc pm cd ct : Value} (X : K.In h) (G : h.Ns mainGlobals mg) (a : PySem.W.nsIn K mainGlobals "share_of" = some (some (.ref f))) (l : K.lookup f = some ⟨oc, od, .func (PySem.W.fnOf "share_of" "share_of" (defArgs s_share_of) (defBody s_share_of) (defScope s_share_of) .none kV dc pm an cd ct), sl⟩) (c : PySem.W.codeIn K cd "share_of" = true) (k : PySem.W.keepIn K (.ref f) = true) : Da K mg "share_of" "share_of" s_share_of ["hand"] := ⟨f, _, [], PySem.W.mg_of X G a, (funD_of (st := s_share_of) l c k), ((fun_mk (st := s_share_of) l c k).binds (ps := ["hand"]) fun _ _ _ _ _ _ us hl => match us, hl with | [_], _ => rfl)⟩
theorem mk_m_Sums_term_of_0 {C : Addr} {K : PySem.W.Frag} {h : Heap} {mg : Str → Option Value} {f : Addr} {od an : Option Addr} {sl : Array (Option Value)} {oc kV dc pm cd ct : Value} (X : K.In h) (G : h.Ns mainGlobals mg) (aC : PySem.W.nsIn K mainGlobals "Sums" = some (some (.ref C))) (cl : Cls K C) (a : PySem.W.findIn K (.ref C) "term_of" = some (some (.ref f))) (i : PySem.W.isFn K (.ref f) = true) (l : K.lookup f = some ⟨oc, od, .func (PySem.W.fnOf "term_of" "Sums.term_of" (defArgs s_Sums_term_of) (defBody s_Sums_term_of) (defScope s_Sums_term_of) .none kV dc pm an cd ct), sl⟩) (c : PySem.W.codeIn K cd "Sums.term_of" = true) (k : PySem.W.keepIn K (.ref f) = true) : Md K mg "Sums" "term_of" "Sums.term_of" s_Sums_term_of ["self", "hand"] [] := by
  exact ⟨C, f, _, [], [], PySem.W.mg_of X G aC, cl, ⟨a, i, k⟩, (funD_of (st := s_Sums_term_of) l c k), ((fun_mk (st := s_Sums_term_of) l c k).binds (ps := ["self", "hand"]) fun _ _ _ _ _ _ us hl => match us, hl with | [_, _], _ => rfl), .nil, rfl⟩
theorem mk_d_test_of {K : PySem.W.Frag} {h : Heap} {mg : Str → Option Value} {f : Addr} {od an : Option Addr} {sl : Array (Option Value)} {oc kV dc pm cd ct : Value} (X : K.In h) (G : h.Ns mainGlobals mg) (a : PySem.W.nsIn K mainGlobals "test_of" = some (some (.ref f))) (l : K.lookup f = some ⟨oc, od, .func (PySem.W.fnOf "test_of" "test_of" (defArgs s_test_of) (defBody s_test_of) (defScope s_test_of) .none kV dc pm an cd ct), sl⟩) (c : PySem.W.codeIn K cd "test_of" = true) (k : PySem.W.keepIn K (.ref f) = true) : Da K mg "test_of" "test_of" s_test_of ["hand"] := ⟨f, _, [], PySem.W.mg_of X G a, (funD_of (st := s_test_of) l c k), ((fun_mk (st := s_test_of) l c k).binds (ps := ["hand"]) fun _ _ _ _ _ _ us hl => match us, hl with | [_], _ => rfl)⟩
theorem mk_d_split_line {K : PySem.W.Frag} {h : Heap} {mg : Str → Option Value} {f : Addr} {od an : Option Addr} {sl : Array (Option Value)} {oc kV dc pm cd ct : Value} (X : K.In h) (G : h.Ns mainGlobals mg) (a : PySem.W.nsIn K mainGlobals "split_line" = some (some (.ref f))) (l : K.lookup f = some ⟨oc, od, .func (PySem.W.fnOf "split_line" "split_line" (defArgs s_split_line) (defBody s_split_line) (defScope s_split_line) .none kV dc pm an cd ct), sl⟩) (c : PySem.W.codeIn K cd "split_line" = true) (k : PySem.W.keepIn K (.ref f) = true) : Da K mg "split_line" "split_line" s_split_line ["line", "place"] := ⟨f, _, [], PySem.W.mg_of X G a, (funD_of (st := s_split_line) l c k), ((fun_mk (st := s_split_line) l c k).binds (ps := ["line", "place"]) fun _ _ _ _ _ _ us hl => match us, hl with | [_, _], _ => rfl)⟩
theorem mk_n_Hand_init {C : Addr} {K : PySem.W.Frag} {h : Heap} {mg : Str → Option Value} {f : Addr} {od an : Option Addr} {sl : Array (Option Value)} {oc kV dc pm cd ct : Value} (X : K.In h) (G : h.Ns mainGlobals mg) (aC : PySem.W.nsIn K mainGlobals "Hand" = some (some (.ref C))) (mk : PySem.W.makesIn K C = true) (kc : PySem.W.keepIn K (.ref C) = true) (a : PySem.W.findIn K (.ref C) "__init__" = some (some (.ref f))) (i : PySem.W.isFn K (.ref f) = true) (l : K.lookup f = some ⟨oc, od, .func (PySem.W.fnOf "__init__" "Hand.__init__" (defArgs s_Hand_init) (defBody s_Hand_init) (defScope s_Hand_init) .none kV dc pm an cd ct), sl⟩) (c : PySem.W.codeIn K cd "Hand.__init__" = true) (k : PySem.W.keepIn K (.ref f) = true) : Nd K mg "Hand" "Hand.__init__" s_Hand_init ["self", "tokens", "place"] := ⟨C, f, _, [], PySem.W.mg_of X G aC, ⟨mk, a, i, kc⟩, (funD_of (st := s_Hand_init) l c k), ((fun_mk (st := s_Hand_init) l c k).binds (ps := ["self", "tokens", "place"]) fun _ _ _ _ _ _ us hl => match us, hl with | [_, _, _], _ => rfl)⟩
theorem mk_d_forms_of {K : PySem.W.Frag} {h : Heap} {mg : Str → Option Value} {f : Addr} {od an : Option Addr} {sl : Array (Option Value)} {oc kV dc pm cd ct : Value} (X : K.In h) (G : h.Ns mainGlobals mg) (a : PySem.W.nsIn K mainGlobals "forms_of" = some (some (.ref f))) (l : K.lookup f = some ⟨oc, od, .func (PySem.W.fnOf "forms_of" "forms_of" (defArgs s_forms_of) (defBody s_forms_of) (defScope s_forms_of) .none kV dc pm an cd ct), sl⟩) (c : PySem.W.codeIn K cd "forms_of" = true) (k : PySem.W.keepIn K (.ref f) = true) : Da K mg "forms_of" "forms_of" s_forms_of ["hand"] := ⟨f, _, [], PySem.W.mg_of X G a, (funD_of (st := s_forms_of) l c k), ((fun_mk (st := s_forms_of) l c k).binds (ps := ["hand"]) fun _ _ _ _ _ _ us hl => match us, hl with | [_], _ => rfl)⟩
theorem mk_d_read_when {K : PySem.W.Frag} {h : Heap} {mg : Str → Option Value} {f : Addr} {od an : Option Addr} {sl : Array (Option Value)} {oc kV dc pm cd ct : Value} (X : K.In h) (G : h.Ns mainGlobals mg) (a : PySem.W.nsIn K mainGlobals "read_when" = some (some (.ref f))) (l : K.lookup f = some ⟨oc, od, .func (PySem.W.fnOf "read_when" "read_when" (defArgs s_read_when) (defBody s_read_when) (defScope s_read_when) .none kV dc pm an cd ct), sl⟩) (c : PySem.W.codeIn K cd "read_when" = true) (k : PySem.W.keepIn K (.ref f) = true) : Da K mg "read_when" "read_when" s_read_when ["hand"] := ⟨f, _, [], PySem.W.mg_of X G a, (funD_of (st := s_read_when) l c k), ((fun_mk (st := s_read_when) l c k).binds (ps := ["hand"]) fun _ _ _ _ _ _ us hl => match us, hl with | [_], _ => rfl)⟩
theorem mk_d_is_name_forms {K : PySem.W.Frag} {h : Heap} {mg : Str → Option Value} {f : Addr} {od an : Option Addr} {sl : Array (Option Value)} {oc kV dc pm cd ct : Value} (X : K.In h) (G : h.Ns mainGlobals mg) (a : PySem.W.nsIn K mainGlobals "is_name_forms" = some (some (.ref f))) (l : K.lookup f = some ⟨oc, od, .func (PySem.W.fnOf "is_name" "is_name" (defArgs s_is_name) (defBody s_is_name) (defScope s_is_name) .none kV dc pm an cd ct), sl⟩) (c : PySem.W.codeIn K cd "is_name" = true) (k : PySem.W.keepIn K (.ref f) = true) : Da K mg "is_name_forms" "is_name" s_is_name ["datum"] := ⟨f, _, [], PySem.W.mg_of X G a, (funD_of (st := s_is_name) l c k), ((fun_mk (st := s_is_name) l c k).binds (ps := ["datum"]) fun _ _ _ _ _ _ us hl => match us, hl with | [_], _ => rfl)⟩
theorem mk_d_are_integers {K : PySem.W.Frag} {h : Heap} {mg : Str → Option Value} {f : Addr} {od an : Option Addr} {sl : Array (Option Value)} {oc kV dc pm cd ct : Value} (X : K.In h) (G : h.Ns mainGlobals mg) (a : PySem.W.nsIn K mainGlobals "are_integers" = some (some (.ref f))) (l : K.lookup f = some ⟨oc, od, .func (PySem.W.fnOf "are_integers" "are_integers" (defArgs s_are_integers) (defBody s_are_integers) (defScope s_are_integers) .none kV dc pm an cd ct), sl⟩) (c : PySem.W.codeIn K cd "are_integers" = true) (k : PySem.W.keepIn K (.ref f) = true) : Da K mg "are_integers" "are_integers" s_are_integers ["datum", "many"] := ⟨f, _, [], PySem.W.mg_of X G a, (funD_of (st := s_are_integers) l c k), ((fun_mk (st := s_are_integers) l c k).binds (ps := ["datum", "many"]) fun _ _ _ _ _ _ us hl => match us, hl with | [_, _], _ => rfl)⟩
theorem mk_d_minus {K : PySem.W.Frag} {h : Heap} {mg : Str → Option Value} {f : Addr} {od an : Option Addr} {sl : Array (Option Value)} {oc kV dc pm cd ct : Value} (X : K.In h) (G : h.Ns mainGlobals mg) (a : PySem.W.nsIn K mainGlobals "minus" = some (some (.ref f))) (l : K.lookup f = some ⟨oc, od, .func (PySem.W.fnOf "minus" "minus" (defArgs s_minus) (defBody s_minus) (defScope s_minus) .none kV dc pm an cd ct), sl⟩) (c : PySem.W.codeIn K cd "minus" = true) (k : PySem.W.keepIn K (.ref f) = true) : Da K mg "minus" "minus" s_minus ["f", "g"] := ⟨f, _, [], PySem.W.mg_of X G a, (funD_of (st := s_minus) l c k), ((fun_mk (st := s_minus) l c k).binds (ps := ["f", "g"]) fun _ _ _ _ _ _ us hl => match us, hl with | [_, _], _ => rfl)⟩
theorem mk_d_part {K : PySem.W.Frag} {h : Heap} {mg : Str → Option Value} {f : Addr} {od an : Option Addr} {sl : Array (Option Value)} {oc kV dc pm cd ct : Value} (X : K.In h) (G : h.Ns mainGlobals mg) (a : PySem.W.nsIn K mainGlobals "part" = some (some (.ref f))) (l : K.lookup f = some ⟨oc, od, .func (PySem.W.fnOf "part" "part" (defArgs s_part) (defBody s_part) (defScope s_part) .none kV dc pm an cd ct), sl⟩) (c : PySem.W.codeIn K cd "part" = true) (k : PySem.W.keepIn K (.ref f) = true) : Da K mg "part" "part" s_part ["hand", "sign", "pairs"] := ⟨f, _, [], PySem.W.mg_of X G a, (funD_of (st := s_part) l c k), ((fun_mk (st := s_part) l c k).binds (ps := ["hand", "sign", "pairs"]) fun _ _ _ _ _ _ us hl => match us, hl with | [_, _, _], _ => rfl)⟩
theorem mk_d_form {K : PySem.W.Frag} {h : Heap} {mg : Str → Option Value} {f : Addr} {od an : Option Addr} {sl : Array (Option Value)} {oc kV dc pm cd ct : Value} (X : K.In h) (G : h.Ns mainGlobals mg) (a : PySem.W.nsIn K mainGlobals "form" = some (some (.ref f))) (l : K.lookup f = some ⟨oc, od, .func (PySem.W.fnOf "form" "form" (defArgs s_form) (defBody s_form) (defScope s_form) .none kV dc pm an cd ct), sl⟩) (c : PySem.W.codeIn K cd "form" = true) (k : PySem.W.keepIn K (.ref f) = true) : Da K mg "form" "form" s_form ["number", "pairs"] := ⟨f, _, [], PySem.W.mg_of X G a, (funD_of (st := s_form) l c k), ((fun_mk (st := s_form) l c k).binds (ps := ["number", "pairs"]) fun _ _ _ _ _ _ us hl => match us, hl with | [_, _], _ => rfl)⟩
theorem mk_m_Hand_signed_0 {C : Addr} {K : PySem.W.Frag} {h : Heap} {mg : Str → Option Value} {f : Addr} {od an : Option Addr} {sl : Array (Option Value)} {oc kV dc pm cd ct : Value} (X : K.In h) (G : h.Ns mainGlobals mg) (aC : PySem.W.nsIn K mainGlobals "Hand" = some (some (.ref C))) (cl : Cls K C) (a : PySem.W.findIn K (.ref C) "signed" = some (some (.ref f))) (i : PySem.W.isFn K (.ref f) = true) (l : K.lookup f = some ⟨oc, od, .func (PySem.W.fnOf "signed" "Hand.signed" (defArgs s_Hand_signed) (defBody s_Hand_signed) (defScope s_Hand_signed) .none kV dc pm an cd ct), sl⟩) (c : PySem.W.codeIn K cd "Hand.signed" = true) (k : PySem.W.keepIn K (.ref f) = true) : Md K mg "Hand" "signed" "Hand.signed" s_Hand_signed ["self"] [] := by
  exact ⟨C, f, _, [], [], PySem.W.mg_of X G aC, cl, ⟨a, i, k⟩, (funD_of (st := s_Hand_signed) l c k), ((fun_mk (st := s_Hand_signed) l c k).binds (ps := ["self"]) fun _ _ _ _ _ _ us hl => match us, hl with | [_], _ => rfl), .nil, rfl⟩
theorem mk_m_Hand_number_0 {C : Addr} {K : PySem.W.Frag} {h : Heap} {mg : Str → Option Value} {f : Addr} {od an : Option Addr} {sl : Array (Option Value)} {oc kV dc pm cd ct : Value} (X : K.In h) (G : h.Ns mainGlobals mg) (aC : PySem.W.nsIn K mainGlobals "Hand" = some (some (.ref C))) (cl : Cls K C) (a : PySem.W.findIn K (.ref C) "number" = some (some (.ref f))) (i : PySem.W.isFn K (.ref f) = true) (l : K.lookup f = some ⟨oc, od, .func (PySem.W.fnOf "number" "Hand.number" (defArgs s_Hand_number) (defBody s_Hand_number) (defScope s_Hand_number) .none kV dc pm an cd ct), sl⟩) (c : PySem.W.codeIn K cd "Hand.number" = true) (k : PySem.W.keepIn K (.ref f) = true) : Md K mg "Hand" "number" "Hand.number" s_Hand_number ["self"] [] := by
  exact ⟨C, f, _, [], [], PySem.W.mg_of X G aC, cl, ⟨a, i, k⟩, (funD_of (st := s_Hand_number) l c k), ((fun_mk (st := s_Hand_number) l c k).binds (ps := ["self"]) fun _ _ _ _ _ _ us hl => match us, hl with | [_], _ => rfl), .nil, rfl⟩
theorem mk_m_Sums_factor_of_0 {C : Addr} {K : PySem.W.Frag} {h : Heap} {mg : Str → Option Value} {f : Addr} {od an : Option Addr} {sl : Array (Option Value)} {oc kV dc pm cd ct : Value} (X : K.In h) (G : h.Ns mainGlobals mg) (aC : PySem.W.nsIn K mainGlobals "Sums" = some (some (.ref C))) (cl : Cls K C) (a : PySem.W.findIn K (.ref C) "factor_of" = some (some (.ref f))) (i : PySem.W.isFn K (.ref f) = true) (l : K.lookup f = some ⟨oc, od, .func (PySem.W.fnOf "factor_of" "Sums.factor_of" (defArgs s_Sums_factor_of) (defBody s_Sums_factor_of) (defScope s_Sums_factor_of) .none kV dc pm an cd ct), sl⟩) (c : PySem.W.codeIn K cd "Sums.factor_of" = true) (k : PySem.W.keepIn K (.ref f) = true) : Md K mg "Sums" "factor_of" "Sums.factor_of" s_Sums_factor_of ["self", "hand"] [] := by
  exact ⟨C, f, _, [], [], PySem.W.mg_of X G aC, cl, ⟨a, i, k⟩, (funD_of (st := s_Sums_factor_of) l c k), ((fun_mk (st := s_Sums_factor_of) l c k).binds (ps := ["self", "hand"]) fun _ _ _ _ _ _ us hl => match us, hl with | [_, _], _ => rfl), .nil, rfl⟩
theorem mk_d_is_number {K : PySem.W.Frag} {h : Heap} {mg : Str → Option Value} {f : Addr} {od an : Option Addr} {sl : Array (Option Value)} {oc kV dc pm cd ct : Value} (X : K.In h) (G : h.Ns mainGlobals mg) (a : PySem.W.nsIn K mainGlobals "is_number" = some (some (.ref f))) (l : K.lookup f = some ⟨oc, od, .func (PySem.W.fnOf "is_number" "is_number" (defArgs s_is_number) (defBody s_is_number) (defScope s_is_number) .none kV dc pm an cd ct), sl⟩) (c : PySem.W.codeIn K cd "is_number" = true) (k : PySem.W.keepIn K (.ref f) = true) : Da K mg "is_number" "is_number" s_is_number ["token"] := ⟨f, _, [], PySem.W.mg_of X G a, (funD_of (st := s_is_number) l c k), ((fun_mk (st := s_is_number) l c k).binds (ps := ["token"]) fun _ _ _ _ _ _ us hl => match us, hl with | [_], _ => rfl)⟩
theorem mk_d_head_of {K : PySem.W.Frag} {h : Heap} {mg : Str → Option Value} {f : Addr} {od an : Option Addr} {sl : Array (Option Value)} {oc kV dc pm cd ct : Value} (X : K.In h) (G : h.Ns mainGlobals mg) (a : PySem.W.nsIn K mainGlobals "head_of" = some (some (.ref f))) (l : K.lookup f = some ⟨oc, od, .func (PySem.W.fnOf "head_of" "head_of" (defArgs s_head_of) (defBody s_head_of) (defScope s_head_of) .none kV dc pm an cd ct), sl⟩) (c : PySem.W.codeIn K cd "head_of" = true) (k : PySem.W.keepIn K (.ref f) = true) : Da K mg "head_of" "head_of" s_head_of ["text"] := ⟨f, _, [], PySem.W.mg_of X G a, (funD_of (st := s_head_of) l c k), ((fun_mk (st := s_head_of) l c k).binds (ps := ["text"]) fun _ _ _ _ _ _ us hl => match us, hl with | [_], _ => rfl)⟩
theorem mk_d_plus {K : PySem.W.Frag} {h : Heap} {mg : Str → Option Value} {f : Addr} {od an : Option Addr} {sl : Array (Option Value)} {oc kV dc pm cd ct : Value} (X : K.In h) (G : h.Ns mainGlobals mg) (a : PySem.W.nsIn K mainGlobals "plus" = some (some (.ref f))) (l : K.lookup f = some ⟨oc, od, .func (PySem.W.fnOf "plus" "plus" (defArgs s_plus) (defBody s_plus) (defScope s_plus) .none kV dc pm an cd ct), sl⟩) (c : PySem.W.codeIn K cd "plus" = true) (k : PySem.W.keepIn K (.ref f) = true) : Da K mg "plus" "plus" s_plus ["f", "g"] := ⟨f, _, [], PySem.W.mg_of X G a, (funD_of (st := s_plus) l c k), ((fun_mk (st := s_plus) l c k).binds (ps := ["f", "g"]) fun _ _ _ _ _ _ us hl => match us, hl with | [_, _], _ => rfl)⟩
theorem mk_d_times {K : PySem.W.Frag} {h : Heap} {mg : Str → Option Value} {f : Addr} {od an : Option Addr} {sl : Array (Option Value)} {oc kV dc pm cd ct : Value} (X : K.In h) (G : h.Ns mainGlobals mg) (a : PySem.W.nsIn K mainGlobals "times" = some (some (.ref f))) (l : K.lookup f = some ⟨oc, od, .func (PySem.W.fnOf "times" "times" (defArgs s_times) (defBody s_times) (defScope s_times) .none kV dc pm an cd ct), sl⟩) (c : PySem.W.codeIn K cd "times" = true) (k : PySem.W.keepIn K (.ref f) = true) : Da K mg "times" "times" s_times ["n", "f"] := ⟨f, _, [], PySem.W.mg_of X G a, (funD_of (st := s_times) l c k), ((fun_mk (st := s_times) l c k).binds (ps := ["n", "f"]) fun _ _ _ _ _ _ us hl => match us, hl with | [_, _], _ => rfl)⟩
theorem mk_m_Sums_bracket_of_0 {C : Addr} {K : PySem.W.Frag} {h : Heap} {mg : Str → Option Value} {f : Addr} {od an : Option Addr} {sl : Array (Option Value)} {oc kV dc pm cd ct : Value} (X : K.In h) (G : h.Ns mainGlobals mg) (aC : PySem.W.nsIn K mainGlobals "Sums" = some (some (.ref C))) (cl : Cls K C) (a : PySem.W.findIn K (.ref C) "bracket_of" = some (some (.ref f))) (i : PySem.W.isFn K (.ref f) = true) (l : K.lookup f = some ⟨oc, od, .func (PySem.W.fnOf "bracket_of" "Sums.bracket_of" (defArgs s_Sums_bracket_of) (defBody s_Sums_bracket_of) (defScope s_Sums_bracket_of) .none kV dc pm an cd ct), sl⟩) (c : PySem.W.codeIn K cd "Sums.bracket_of" = true) (k : PySem.W.keepIn K (.ref f) = true) : Md K mg "Sums" "bracket_of" "Sums.bracket_of" s_Sums_bracket_of ["self", "hand"] [] := by
  exact ⟨C, f, _, [], [], PySem.W.mg_of X G aC, cl, ⟨a, i, k⟩, (funD_of (st := s_Sums_bracket_of) l c k), ((fun_mk (st := s_Sums_bracket_of) l c k).binds (ps := ["self", "hand"]) fun _ _ _ _ _ _ us hl => match us, hl with | [_, _], _ => rfl), .nil, rfl⟩
theorem mk_m_Sums_call_of_0 {C : Addr} {K : PySem.W.Frag} {h : Heap} {mg : Str → Option Value} {f : Addr} {od an : Option Addr} {sl : Array (Option Value)} {oc kV dc pm cd ct : Value} (X : K.In h) (G : h.Ns mainGlobals mg) (aC : PySem.W.nsIn K mainGlobals "Sums" = some (some (.ref C))) (cl : Cls K C) (a : PySem.W.findIn K (.ref C) "call_of" = some (some (.ref f))) (i : PySem.W.isFn K (.ref f) = true) (l : K.lookup f = some ⟨oc, od, .func (PySem.W.fnOf "call_of" "Sums.call_of" (defArgs s_Sums_call_of) (defBody s_Sums_call_of) (defScope s_Sums_call_of) .none kV dc pm an cd ct), sl⟩) (c : PySem.W.codeIn K cd "Sums.call_of" = true) (k : PySem.W.keepIn K (.ref f) = true) : Md K mg "Sums" "call_of" "Sums.call_of" s_Sums_call_of ["self", "hand"] [] := by
  exact ⟨C, f, _, [], [], PySem.W.mg_of X G aC, cl, ⟨a, i, k⟩, (funD_of (st := s_Sums_call_of) l c k), ((fun_mk (st := s_Sums_call_of) l c k).binds (ps := ["self", "hand"]) fun _ _ _ _ _ _ us hl => match us, hl with | [_, _], _ => rfl), .nil, rfl⟩
theorem mk_m_Hand_leaf_0 {C : Addr} {K : PySem.W.Frag} {h : Heap} {mg : Str → Option Value} {f : Addr} {od an : Option Addr} {sl : Array (Option Value)} {oc kV dc pm cd ct : Value} (X : K.In h) (G : h.Ns mainGlobals mg) (aC : PySem.W.nsIn K mainGlobals "Hand" = some (some (.ref C))) (cl : Cls K C) (a : PySem.W.findIn K (.ref C) "leaf" = some (some (.ref f))) (i : PySem.W.isFn K (.ref f) = true) (l : K.lookup f = some ⟨oc, od, .func (PySem.W.fnOf "leaf" "Hand.leaf" (defArgs s_Hand_leaf) (defBody s_Hand_leaf) (defScope s_Hand_leaf) .none kV dc pm an cd ct), sl⟩) (c : PySem.W.codeIn K cd "Hand.leaf" = true) (k : PySem.W.keepIn K (.ref f) = true) : Md K mg "Hand" "leaf" "Hand.leaf" s_Hand_leaf ["self"] [] := by
  exact ⟨C, f, _, [], [], PySem.W.mg_of X G aC, cl, ⟨a, i, k⟩, (funD_of (st := s_Hand_leaf) l c k), ((fun_mk (st := s_Hand_leaf) l c k).binds (ps := ["self"]) fun _ _ _ _ _ _ us hl => match us, hl with | [_], _ => rfl), .nil, rfl⟩
theorem mk_d_wire_of {K : PySem.W.Frag} {h : Heap} {mg : Str → Option Value} {f : Addr} {od an : Option Addr} {sl : Array (Option Value)} {oc kV dc pm cd ct : Value} (X : K.In h) (G : h.Ns mainGlobals mg) (a : PySem.W.nsIn K mainGlobals "wire_of" = some (some (.ref f))) (l : K.lookup f = some ⟨oc, od, .func (PySem.W.fnOf "wire_of" "wire_of" (defArgs s_wire_of) (defBody s_wire_of) (defScope s_wire_of) .none kV dc pm an cd ct), sl⟩) (c : PySem.W.codeIn K cd "wire_of" = true) (k : PySem.W.keepIn K (.ref f) = true) : Da K mg "wire_of" "wire_of" s_wire_of ["hand"] := ⟨f, _, [], PySem.W.mg_of X G a, (funD_of (st := s_wire_of) l c k), ((fun_mk (st := s_wire_of) l c k).binds (ps := ["hand"]) fun _ _ _ _ _ _ us hl => match us, hl with | [_], _ => rfl)⟩
theorem mk_m_Sums_word_of_0 {C : Addr} {K : PySem.W.Frag} {h : Heap} {mg : Str → Option Value} {f : Addr} {od an : Option Addr} {sl : Array (Option Value)} {oc kV dc pm cd ct : Value} (X : K.In h) (G : h.Ns mainGlobals mg) (aC : PySem.W.nsIn K mainGlobals "Sums" = some (some (.ref C))) (cl : Cls K C) (a : PySem.W.findIn K (.ref C) "word_of" = some (some (.ref f))) (i : PySem.W.isFn K (.ref f) = true) (l : K.lookup f = some ⟨oc, od, .func (PySem.W.fnOf "word_of" "Sums.word_of" (defArgs s_Sums_word_of) (defBody s_Sums_word_of) (defScope s_Sums_word_of) .none kV dc pm an cd ct), sl⟩) (c : PySem.W.codeIn K cd "Sums.word_of" = true) (k : PySem.W.keepIn K (.ref f) = true) : Md K mg "Sums" "word_of" "Sums.word_of" s_Sums_word_of ["self", "hand"] [] := by
  exact ⟨C, f, _, [], [], PySem.W.mg_of X G aC, cl, ⟨a, i, k⟩, (funD_of (st := s_Sums_word_of) l c k), ((fun_mk (st := s_Sums_word_of) l c k).binds (ps := ["self", "hand"]) fun _ _ _ _ _ _ us hl => match us, hl with | [_, _], _ => rfl), .nil, rfl⟩
theorem mk_d_run_length {K : PySem.W.Frag} {h : Heap} {mg : Str → Option Value} {f : Addr} {od an : Option Addr} {sl : Array (Option Value)} {oc kV dc pm cd ct : Value} (X : K.In h) (G : h.Ns mainGlobals mg) (a : PySem.W.nsIn K mainGlobals "run_length" = some (some (.ref f))) (l : K.lookup f = some ⟨oc, od, .func (PySem.W.fnOf "run_length" "run_length" (defArgs s_run_length) (defBody s_run_length) (defScope s_run_length) .none kV dc pm an cd ct), sl⟩) (c : PySem.W.codeIn K cd "run_length" = true) (k : PySem.W.keepIn K (.ref f) = true) : Da K mg "run_length" "run_length" s_run_length ["text", "signs"] := ⟨f, _, [], PySem.W.mg_of X G a, (funD_of (st := s_run_length) l c k), ((fun_mk (st := s_run_length) l c k).binds (ps := ["text", "signs"]) fun _ _ _ _ _ _ us hl => match us, hl with | [_, _], _ => rfl)⟩
theorem all_mk {l : PySem.W.OpenLaw} {w : World} {K : PySem.W.Frag} {h : Heap} {mg : Str → Option Value} {fa : Addr} (X : K.In h) (G : h.Ns mainGlobals mg) (hfa : mg "law" = some (.ref fa))
    {f0 f1 f2 f3 f4 f5 f6 f7 f8 f9 f10 f11 f12 f13 f14 f15 f16 f17 f18 f19 f20 f21 f22 f23 f24 f25 f26 f27 f28 f29 f30 f31 f32 f33 f34 f35 f36 f37 f38 f39 f40 f41 f42 f43 f44 f45 f46 f47 f48 f49 f50 f51 f52 f53 f54 f55 f56 f57 f58 f59 f60 f61 f62 f63 f64 f65 f66 f67 f68 f69 f70 f71 f72 f73 f74 f75 f76 f77 f78 f79 f80 f81 f82 f83 f84 f85 f86 f87 f88 f89 f90 f91 f92 : Addr}
    {od0 an0 od1 an1 od2 an2 od3 an3 od4 an4 od5 an5 od6 an6 od7 an7 od8 an8 od9 an9 od10 an10 od11 an11 od12 an12 od13 an13 od14 an14 od15 an15 od16 an16 od17 an17 od18 an18 od19 an19 od20 an20 od21 an21 od22 an22 od23 an23 od24 an24 od25 an25 od26 an26 od27 an27 od28 an28 od29 an29 od30 an30 od31 an31 od32 an32 od33 an33 od34 an34 od35 an35 od36 an36 od37 an37 od38 an38 od39 an39 od40 an40 od41 an41 od42 an42 od43 an43 od44 an44 od45 an45 od46 an46 od47 an47 od48 an48 od49 an49 od50 an50 od51 an51 od52 an52 od53 an53 od54 an54 od55 an55 od56 an56 od57 an57 od58 an58 od59 an59 od60 an60 od61 an61 od62 an62 od63 an63 od64 an64 od65 an65 od66 an66 od67 an67 od68 an68 od69 an69 od70 an70 od71 an71 od72 an72 od73 an73 od74 an74 od75 an75 od76 an76 od77 an77 od78 an78 od79 an79 od80 an80 od81 an81 od82 an82 od83 an83 od84 an84 od85 an85 od86 an86 od87 an87 od88 an88 od89 an89 od90 an90 od91 an91 od92 an92 : Option Addr} {sl0 sl1 sl2 sl3 sl4 sl5 sl6 sl7 sl8 sl9 sl10 sl11 sl12 sl13 sl14 sl15 sl16 sl17 sl18 sl19 sl20 sl21 sl22 sl23 sl24 sl25 sl26 sl27 sl28 sl29 sl30 sl31 sl32 sl33 sl34 sl35 sl36 sl37 sl38 sl39 sl40 sl41 sl42 sl43 sl44 sl45 sl46 sl47 sl48 sl49 sl50 sl51 sl52 sl53 sl54 sl55 sl56 sl57 sl58 sl59 sl60 sl61 sl62 sl63 sl64 sl65 sl66 sl67 sl68 sl69 sl70 sl71 sl72 sl73 sl74 sl75 sl76 sl77 sl78 sl79 sl80 sl81 sl82 sl83 sl84 sl85 sl86 sl87 sl88 sl89 sl90 sl91 sl92 : Array (Option Value)} {oc0 kV0 dc0 pm0 cd0 ct0 oc1 kV1 dc1 pm1 cd1 ct1 oc2 kV2 dc2 pm2 cd2 ct2 oc3 kV3 dc3 pm3 cd3 ct3 oc4 kV4 dc4 pm4 cd4 ct4 oc5 kV5 dc5 pm5 cd5 ct5 oc6 kV6 dc6 pm6 cd6 ct6 oc7 kV7 dc7 pm7 cd7 ct7 oc8 kV8 dc8 pm8 cd8 ct8 oc9 kV9 dc9 pm9 cd9 ct9 oc10 kV10 dc10 pm10 cd10 ct10 oc11 kV11 dc11 pm11 cd11 ct11 oc12 kV12 dc12 pm12 cd12 ct12 oc13 kV13 dc13 pm13 cd13 ct13 oc14 kV14 dc14 pm14 cd14 ct14 oc15 kV15 dc15 pm15 cd15 ct15 oc16 kV16 dc16 pm16 cd16 ct16 oc17 kV17 dc17 pm17 cd17 ct17 oc18 kV18 dc18 pm18 cd18 ct18 oc19 kV19 dc19 pm19 cd19 ct19 oc20 kV20 dc20 pm20 cd20 ct20 oc21 kV21 dc21 pm21 cd21 ct21 oc22 kV22 dc22 pm22 cd22 ct22 oc23 kV23 dc23 pm23 cd23 ct23 oc24 kV24 dc24 pm24 cd24 ct24 oc25 kV25 dc25 pm25 cd25 ct25 oc26 kV26 dc26 pm26 cd26 ct26 oc27 kV27 dc27 pm27 cd27 ct27 oc28 kV28 dc28 pm28 cd28 ct28 oc29 kV29 dc29 pm29 cd29 ct29 oc30 kV30 dc30 pm30 cd30 ct30 oc31 kV31 dc31 pm31 cd31 ct31 oc32 kV32 dc32 pm32 cd32 ct32 oc33 kV33 dc33 pm33 cd33 ct33 oc34 kV34 dc34 pm34 cd34 ct34 oc35 kV35 dc35 pm35 cd35 ct35 oc36 kV36 dc36 pm36 cd36 ct36 oc37 kV37 dc37 pm37 cd37 ct37 oc38 kV38 dc38 pm38 cd38 ct38 oc39 kV39 dc39 pm39 cd39 ct39 oc40 kV40 dc40 pm40 cd40 ct40 oc41 kV41 dc41 pm41 cd41 ct41 oc42 kV42 dc42 pm42 cd42 ct42 oc43 kV43 dc43 pm43 cd43 ct43 oc44 kV44 dc44 pm44 cd44 ct44 oc45 kV45 dc45 pm45 cd45 ct45 oc46 kV46 dc46 pm46 cd46 ct46 oc47 kV47 dc47 pm47 cd47 ct47 oc48 kV48 dc48 pm48 cd48 ct48 oc49 kV49 dc49 pm49 cd49 ct49 oc50 kV50 dc50 pm50 cd50 ct50 oc51 kV51 dc51 pm51 cd51 ct51 oc52 kV52 dc52 pm52 cd52 ct52 oc53 kV53 dc53 pm53 cd53 ct53 oc54 kV54 dc54 pm54 cd54 ct54 oc55 kV55 dc55 pm55 cd55 ct55 oc56 kV56 dc56 pm56 cd56 ct56 oc57 kV57 dc57 pm57 cd57 ct57 oc58 kV58 dc58 pm58 cd58 ct58 oc59 kV59 dc59 pm59 cd59 ct59 oc60 kV60 dc60 pm60 cd60 ct60 oc61 kV61 dc61 pm61 cd61 ct61 oc62 kV62 dc62 pm62 cd62 ct62 oc63 kV63 dc63 pm63 cd63 ct63 oc64 kV64 dc64 pm64 cd64 ct64 oc65 kV65 dc65 pm65 cd65 ct65 oc66 kV66 dc66 pm66 cd66 ct66 oc67 kV67 dc67 pm67 cd67 ct67 oc68 kV68 dc68 pm68 cd68 ct68 oc69 kV69 dc69 pm69 cd69 ct69 oc70 kV70 dc70 pm70 cd70 ct70 oc71 kV71 dc71 pm71 cd71 ct71 oc72 kV72 dc72 pm72 cd72 ct72 oc73 kV73 dc73 pm73 cd73 ct73 oc74 kV74 dc74 pm74 cd74 ct74 oc75 kV75 dc75 pm75 cd75 ct75 oc76 kV76 dc76 pm76 cd76 ct76 oc77 kV77 dc77 pm77 cd77 ct77 oc78 kV78 dc78 pm78 cd78 ct78 oc79 kV79 dc79 pm79 cd79 ct79 oc80 kV80 dc80 pm80 cd80 ct80 oc81 kV81 dc81 pm81 cd81 ct81 oc82 kV82 dc82 pm82 cd82 ct82 oc83 kV83 dc83 pm83 cd83 ct83 oc84 kV84 dc84 pm84 cd84 ct84 oc85 kV85 dc85 pm85 cd85 ct85 oc86 kV86 dc86 pm86 cd86 ct86 oc87 kV87 dc87 pm87 cd87 ct87 oc88 kV88 dc88 pm88 cd88 ct88 oc89 kV89 dc89 pm89 cd89 ct89 oc90 kV90 dc90 pm90 cd90 ct90 oc91 kV91 dc91 pm91 cd91 ct91 oc92 kV92 dc92 pm92 cd92 ct92 : Value}
    {C_Rows : Addr}
    (aC_Rows : PySem.W.nsIn K mainGlobals "Rows" = some (some (.ref C_Rows)))
    (pg_Rows : PySem.W.plainGet K C_Rows Str.empty = true)
    (hd_Rows : PySem.W.hasDictIn K C_Rows = true)
    (po_Rows : PySem.W.plainOver K C_Rows = true)
    (sa_Rows : PySem.W.findIn K (.ref C_Rows) "__setattr__" = some (some (.builtin "object.__setattr__")))
    (mk_Rows : PySem.W.makesIn K C_Rows = true)
    (kc_Rows : PySem.W.keepIn K (.ref C_Rows) = true)
    {C_Hand : Addr}
    (aC_Hand : PySem.W.nsIn K mainGlobals "Hand" = some (some (.ref C_Hand)))
    (pg_Hand : PySem.W.plainGet K C_Hand Str.empty = true)
    (hd_Hand : PySem.W.hasDictIn K C_Hand = true)
    (po_Hand : PySem.W.plainOver K C_Hand = true)
    (sa_Hand : PySem.W.findIn K (.ref C_Hand) "__setattr__" = some (some (.builtin "object.__setattr__")))
    (mk_Hand : PySem.W.makesIn K C_Hand = true)
    (kc_Hand : PySem.W.keepIn K (.ref C_Hand) = true)
    {C_Lines : Addr}
    (aC_Lines : PySem.W.nsIn K mainGlobals "Lines" = some (some (.ref C_Lines)))
    (pg_Lines : PySem.W.plainGet K C_Lines Str.empty = true)
    (hd_Lines : PySem.W.hasDictIn K C_Lines = true)
    (po_Lines : PySem.W.plainOver K C_Lines = true)
    (sa_Lines : PySem.W.findIn K (.ref C_Lines) "__setattr__" = some (some (.builtin "object.__setattr__")))
    (mk_Lines : PySem.W.makesIn K C_Lines = true)
    (kc_Lines : PySem.W.keepIn K (.ref C_Lines) = true)
    {C_Sums : Addr}
    (aC_Sums : PySem.W.nsIn K mainGlobals "Sums" = some (some (.ref C_Sums)))
    (pg_Sums : PySem.W.plainGet K C_Sums Str.empty = true)
    (hd_Sums : PySem.W.hasDictIn K C_Sums = true)
    (po_Sums : PySem.W.plainOver K C_Sums = true)
    (sa_Sums : PySem.W.findIn K (.ref C_Sums) "__setattr__" = some (some (.builtin "object.__setattr__")))
    (mk_Sums : PySem.W.makesIn K C_Sums = true)
    (kc_Sums : PySem.W.keepIn K (.ref C_Sums) = true)
    (nf_Hand_at : PySem.W.findIn K (.ref C_Hand) "at" = some none)
    (nf_Hand_deep : PySem.W.findIn K (.ref C_Hand) "deep" = some none)
    (nf_Hand_leaves : PySem.W.findIn K (.ref C_Hand) "leaves" = some none)
    (nf_Hand_place : PySem.W.findIn K (.ref C_Hand) "place" = some none)
    (nf_Hand_tokens : PySem.W.findIn K (.ref C_Hand) "tokens" = some none)
    (nf_Lines_at : PySem.W.findIn K (.ref C_Lines) "at" = some none)
    (nf_Lines_lines : PySem.W.findIn K (.ref C_Lines) "lines" = some none)
    (nf_Rows_names : PySem.W.findIn K (.ref C_Rows) "names" = some none)
    (nf_Rows_places : PySem.W.findIn K (.ref C_Rows) "places" = some none)
    (nf_Rows_units : PySem.W.findIn K (.ref C_Rows) "units" = some none)
    (nf_Rows_wide : PySem.W.findIn K (.ref C_Rows) "wide" = some none)
    (nf_Sums_ins : PySem.W.findIn K (.ref C_Sums) "ins" = some none)
    (nf_Sums_kind : PySem.W.findIn K (.ref C_Sums) "kind" = some none)
    (a0_0 : PySem.W.nsIn K mainGlobals "law" = some (some (.ref f0)))
    (l0 : K.lookup f0 = some ⟨oc0, od0, .func (PySem.W.fnOf "law" "law" (defArgs s_law) (defBody s_law) (defScope s_law) .none kV0 dc0 pm0 an0 cd0 ct0), sl0⟩)
    (c0 : PySem.W.codeIn K cd0 "law" = true)
    (k0 : PySem.W.keepIn K (.ref f0) = true)
    (a1_0 : PySem.W.nsIn K mainGlobals "_law_start" = some (some (.ref f1)))
    (l1 : K.lookup f1 = some ⟨oc1, od1, .func (PySem.W.fnOf "_law_start" "_law_start" (defArgs s_law_start) (defBody s_law_start) (defScope s_law_start) .none kV1 dc1 pm1 an1 cd1 ct1), sl1⟩)
    (c1 : PySem.W.codeIn K cd1 "_law_start" = true)
    (k1 : PySem.W.keepIn K (.ref f1) = true)
    (a2_0 : PySem.W.nsIn K mainGlobals "_law_array" = some (some (.ref f2)))
    (l2 : K.lookup f2 = some ⟨oc2, od2, .func (PySem.W.fnOf "_law_array" "_law_array" (defArgs s_law_array) (defBody s_law_array) (defScope s_law_array) .none kV2 dc2 pm2 an2 cd2 ct2), sl2⟩)
    (c2 : PySem.W.codeIn K cd2 "_law_array" = true)
    (k2 : PySem.W.keepIn K (.ref f2) = true)
    (a3_0 : PySem.W.nsIn K mainGlobals "_law_lines" = some (some (.ref f3)))
    (l3 : K.lookup f3 = some ⟨oc3, od3, .func (PySem.W.fnOf "_law_lines" "_law_lines" (defArgs s_law_lines) (defBody s_law_lines) (defScope s_law_lines) .none kV3 dc3 pm3 an3 cd3 ct3), sl3⟩)
    (c3 : PySem.W.codeIn K cd3 "_law_lines" = true)
    (k3 : PySem.W.keepIn K (.ref f3) = true)
    (a4_0 : PySem.W.nsIn K mainGlobals "_law_wide_lines" = some (some (.ref f4)))
    (l4 : K.lookup f4 = some ⟨oc4, od4, .func (PySem.W.fnOf "_law_wide_lines" "_law_wide_lines" (defArgs s_law_wide_lines) (defBody s_law_wide_lines) (defScope s_law_wide_lines) .none kV4 dc4 pm4 an4 cd4 ct4), sl4⟩)
    (c4 : PySem.W.codeIn K cd4 "_law_wide_lines" = true)
    (k4 : PySem.W.keepIn K (.ref f4) = true)
    (a5_0 : PySem.W.nsIn K mainGlobals "_law_deep" = some (some (.ref f5)))
    (l5 : K.lookup f5 = some ⟨oc5, od5, .func (PySem.W.fnOf "_law_deep" "_law_deep" (defArgs s_law_deep) (defBody s_law_deep) (defScope s_law_deep) .none kV5 dc5 pm5 an5 cd5 ct5), sl5⟩)
    (c5 : PySem.W.codeIn K cd5 "_law_deep" = true)
    (k5 : PySem.W.keepIn K (.ref f5) = true)
    (a6_0 : PySem.W.nsIn K mainGlobals "is_array_arrays" = some (some (.ref f6)))
    (l6 : K.lookup f6 = some ⟨oc6, od6, .func (PySem.W.fnOf "is_array" "is_array" (defArgs s_is_array2) (defBody s_is_array2) (defScope s_is_array2) .none kV6 dc6 pm6 an6 cd6 ct6), sl6⟩)
    (c6 : PySem.W.codeIn K cd6 "is_array" = true)
    (k6 : PySem.W.keepIn K (.ref f6) = true)
    (a7_0 : PySem.W.nsIn K mainGlobals "_law_spoilt_heads" = some (some (.ref f7)))
    (l7 : K.lookup f7 = some ⟨oc7, od7, .func (PySem.W.fnOf "_law_spoilt_heads" "_law_spoilt_heads" (defArgs s_law_spoilt_heads) (defBody s_law_spoilt_heads) (defScope s_law_spoilt_heads) .none kV7 dc7 pm7 an7 cd7 ct7), sl7⟩)
    (c7 : PySem.W.codeIn K cd7 "_law_spoilt_heads" = true)
    (k7 : PySem.W.keepIn K (.ref f7) = true)
    (a8_0 : PySem.W.nsIn K mainGlobals "_law_spoilt_rows" = some (some (.ref f8)))
    (l8 : K.lookup f8 = some ⟨oc8, od8, .func (PySem.W.fnOf "_law_spoilt_rows" "_law_spoilt_rows" (defArgs s_law_spoilt_rows) (defBody s_law_spoilt_rows) (defScope s_law_spoilt_rows) .none kV8 dc8 pm8 an8 cd8 ct8), sl8⟩)
    (c8 : PySem.W.codeIn K cd8 "_law_spoilt_rows" = true)
    (k8 : PySem.W.keepIn K (.ref f8) = true)
    (a9_0 : PySem.W.nsIn K mainGlobals "_law_spoilt_outs" = some (some (.ref f9)))
    (l9 : K.lookup f9 = some ⟨oc9, od9, .func (PySem.W.fnOf "_law_spoilt_outs" "_law_spoilt_outs" (defArgs s_law_spoilt_outs) (defBody s_law_spoilt_outs) (defScope s_law_spoilt_outs) .none kV9 dc9 pm9 an9 cd9 ct9), sl9⟩)
    (c9 : PySem.W.codeIn K cd9 "_law_spoilt_outs" = true)
    (k9 : PySem.W.keepIn K (.ref f9) = true)
    (a10_0 : PySem.W.nsIn K mainGlobals "_law_one_of" = some (some (.ref f10)))
    (l10 : K.lookup f10 = some ⟨oc10, od10, .func (PySem.W.fnOf "_law_one_of" "_law_one_of" (defArgs s_law_one_of) (defBody s_law_one_of) (defScope s_law_one_of) .none kV10 dc10 pm10 an10 cd10 ct10), sl10⟩)
    (c10 : PySem.W.codeIn K cd10 "_law_one_of" = true)
    (k10 : PySem.W.keepIn K (.ref f10) = true)
    (a11_0 : PySem.W.nsIn K mainGlobals "read_array" = some (some (.ref f11)))
    (l11 : K.lookup f11 = some ⟨oc11, od11, .func (PySem.W.fnOf "read_array" "read_array" (defArgs s_read_array) (defBody s_read_array) (defScope s_read_array) .none kV11 dc11 pm11 an11 cd11 ct11), sl11⟩)
    (c11 : PySem.W.codeIn K cd11 "read_array" = true)
    (k11 : PySem.W.keepIn K (.ref f11) = true)
    (a12_0 : PySem.W.nsIn K mainGlobals "is_head" = some (some (.ref f12)))
    (l12 : K.lookup f12 = some ⟨oc12, od12, .func (PySem.W.fnOf "is_head" "is_head" (defArgs s_is_head) (defBody s_is_head) (defScope s_is_head) .none kV12 dc12 pm12 an12 cd12 ct12), sl12⟩)
    (c12 : PySem.W.codeIn K cd12 "is_head" = true)
    (k12 : PySem.W.keepIn K (.ref f12) = true)
    (a13_0 : PySem.W.nsIn K mainGlobals "is_tuple" = some (some (.ref f13)))
    (l13 : K.lookup f13 = some ⟨oc13, od13, .func (PySem.W.fnOf "is_tuple" "is_tuple" (defArgs s_is_tuple) (defBody s_is_tuple) (defScope s_is_tuple) .none kV13 dc13 pm13 an13 cd13 ct13), sl13⟩)
    (c13 : PySem.W.codeIn K cd13 "is_tuple" = true)
    (k13 : PySem.W.keepIn K (.ref f13) = true)
    (a14_0 : PySem.W.nsIn K mainGlobals "is_word" = some (some (.ref f14)))
    (l14 : K.lookup f14 = some ⟨oc14, od14, .func (PySem.W.fnOf "is_word" "is_word" (defArgs s_is_word) (defBody s_is_word) (defScope s_is_word) .none kV14 dc14 pm14 an14 cd14 ct14), sl14⟩)
    (c14 : PySem.W.codeIn K cd14 "is_word" = true)
    (k14 : PySem.W.keepIn K (.ref f14) = true)
    (a15 : PySem.W.findIn K (.ref C_Rows) "__init__" = some (some (.ref f15)))
    (l15 : K.lookup f15 = some ⟨oc15, od15, .func (PySem.W.fnOf "__init__" "Rows.__init__" (defArgs s_Rows_init) (defBody s_Rows_init) (defScope s_Rows_init) .none kV15 dc15 pm15 an15 cd15 ct15), sl15⟩)
    (c15 : PySem.W.codeIn K cd15 "Rows.__init__" = true)
    (k15 : PySem.W.keepIn K (.ref f15) = true)
    (i15 : PySem.W.isFn K (.ref f15) = true)
    (a16 : PySem.W.findIn K (.ref C_Rows) "is_row" = some (some (.ref f16)))
    (l16 : K.lookup f16 = some ⟨oc16, od16, .func (PySem.W.fnOf "is_row" "Rows.is_row" (defArgs s_Rows_is_row) (defBody s_Rows_is_row) (defScope s_Rows_is_row) .none kV16 dc16 pm16 an16 cd16 ct16), sl16⟩)
    (c16 : PySem.W.codeIn K cd16 "Rows.is_row" = true)
    (k16 : PySem.W.keepIn K (.ref f16) = true)
    (i16 : PySem.W.isFn K (.ref f16) = true)
    (a17_0 : PySem.W.nsIn K mainGlobals "are_together" = some (some (.ref f17)))
    (l17 : K.lookup f17 = some ⟨oc17, od17, .func (PySem.W.fnOf "are_together" "are_together" (defArgs s_are_together) (defBody s_are_together) (defScope s_are_together) .none kV17 dc17 pm17 an17 cd17 ct17), sl17⟩)
    (c17 : PySem.W.codeIn K cd17 "are_together" = true)
    (k17 : PySem.W.keepIn K (.ref f17) = true)
    (a18_0 : PySem.W.nsIn K mainGlobals "is_out" = some (some (.ref f18)))
    (l18 : K.lookup f18 = some ⟨oc18, od18, .func (PySem.W.fnOf "is_out" "is_out" (defArgs s_is_out) (defBody s_is_out) (defScope s_is_out) .none kV18 dc18 pm18 an18 cd18 ct18), sl18⟩)
    (c18 : PySem.W.codeIn K cd18 "is_out" = true)
    (k18 : PySem.W.keepIn K (.ref f18) = true)
    (a19_0 : PySem.W.nsIn K mainGlobals "units_of" = some (some (.ref f19)))
    (l19 : K.lookup f19 = some ⟨oc19, od19, .func (PySem.W.fnOf "units_of" "units_of" (defArgs s_units_of) (defBody s_units_of) (defScope s_units_of) .none kV19 dc19 pm19 an19 cd19 ct19), sl19⟩)
    (c19 : PySem.W.codeIn K cd19 "units_of" = true)
    (k19 : PySem.W.keepIn K (.ref f19) = true)
    (a20_0 : PySem.W.nsIn K mainGlobals "_law_draw" = some (some (.ref f20)))
    (l20 : K.lookup f20 = some ⟨oc20, od20, .func (PySem.W.fnOf "_law_draw" "_law_draw" (defArgs s_law_draw) (defBody s_law_draw) (defScope s_law_draw) .none kV20 dc20 pm20 an20 cd20 ct20), sl20⟩)
    (c20 : PySem.W.codeIn K cd20 "_law_draw" = true)
    (k20 : PySem.W.keepIn K (.ref f20) = true)
    (a21 : PySem.W.findIn K (.ref C_Lines) "__init__" = some (some (.ref f21)))
    (l21 : K.lookup f21 = some ⟨oc21, od21, .func (PySem.W.fnOf "__init__" "Lines.__init__" (defArgs s_Lines_init) (defBody s_Lines_init) (defScope s_Lines_init) .none kV21 dc21 pm21 an21 cd21 ct21), sl21⟩)
    (c21 : PySem.W.codeIn K cd21 "Lines.__init__" = true)
    (k21 : PySem.W.keepIn K (.ref f21) = true)
    (i21 : PySem.W.isFn K (.ref f21) = true)
    (a22_0 : PySem.W.nsIn K mainGlobals "read_head" = some (some (.ref f22)))
    (l22 : K.lookup f22 = some ⟨oc22, od22, .func (PySem.W.fnOf "read_head" "read_head" (defArgs s_read_head) (defBody s_read_head) (defScope s_read_head) .none kV22 dc22 pm22 an22 cd22 ct22), sl22⟩)
    (c22 : PySem.W.codeIn K cd22 "read_head" = true)
    (k22 : PySem.W.keepIn K (.ref f22) = true)
    (a23_0 : PySem.W.nsIn K mainGlobals "read_frame" = some (some (.ref f23)))
    (l23 : K.lookup f23 = some ⟨oc23, od23, .func (PySem.W.fnOf "read_frame" "read_frame" (defArgs s_read_frame) (defBody s_read_frame) (defScope s_read_frame) .none kV23 dc23 pm23 an23 cd23 ct23), sl23⟩)
    (c23 : PySem.W.codeIn K cd23 "read_frame" = true)
    (k23 : PySem.W.keepIn K (.ref f23) = true)
    (a24 : PySem.W.findIn K (.ref C_Hand) "next" = some (some (.ref f24)))
    {aD24 : Addr} {nD24 : Nat} {slD24 : Array (Option Value)} {tD24_0 : Tok}
    (l24 : K.lookup f24 = some ⟨oc24, od24, .func (PySem.W.fnOf "next" "Hand.next" (defArgs s_Hand_next) (defBody s_Hand_next) (defScope s_Hand_next) (.ref aD24) kV24 dc24 pm24 an24 cd24 ct24), sl24⟩)
    (c24 : PySem.W.codeIn K cd24 "Hand.next" = true)
    (k24 : PySem.W.keepIn K (.ref f24) = true)
    (i24 : PySem.W.isFn K (.ref f24) = true)
    (lD24 : K.lookup aD24 = some ⟨.type "tuple", none, .seq #[.int 0 tD24_0] nD24, slD24⟩)
    (a25_0 : PySem.W.nsIn K mainGlobals "row_of" = some (some (.ref f25)))
    (l25 : K.lookup f25 = some ⟨oc25, od25, .func (PySem.W.fnOf "row_of" "row_of" (defArgs s_row_of) (defBody s_row_of) (defScope s_row_of) .none kV25 dc25 pm25 an25 cd25 ct25), sl25⟩)
    (c25 : PySem.W.codeIn K cd25 "row_of" = true)
    (k25 : PySem.W.keepIn K (.ref f25) = true)
    (a26 : PySem.W.findIn K (.ref C_Lines) "ahead" = some (some (.ref f26)))
    (l26 : K.lookup f26 = some ⟨oc26, od26, .func (PySem.W.fnOf "ahead" "Lines.ahead" (defArgs s_Lines_ahead) (defBody s_Lines_ahead) (defScope s_Lines_ahead) .none kV26 dc26 pm26 an26 cd26 ct26), sl26⟩)
    (c26 : PySem.W.codeIn K cd26 "Lines.ahead" = true)
    (k26 : PySem.W.keepIn K (.ref f26) = true)
    (i26 : PySem.W.isFn K (.ref f26) = true)
    (a27_0 : PySem.W.nsIn K mainGlobals "read_block" = some (some (.ref f27)))
    (l27 : K.lookup f27 = some ⟨oc27, od27, .func (PySem.W.fnOf "read_block" "read_block" (defArgs s_read_block) (defBody s_read_block) (defScope s_read_block) .none kV27 dc27 pm27 an27 cd27 ct27), sl27⟩)
    (c27 : PySem.W.codeIn K cd27 "read_block" = true)
    (k27 : PySem.W.keepIn K (.ref f27) = true)
    (a28_0 : PySem.W.nsIn K mainGlobals "read_makings" = some (some (.ref f28)))
    (l28 : K.lookup f28 = some ⟨oc28, od28, .func (PySem.W.fnOf "read_makings" "read_makings" (defArgs s_read_makings) (defBody s_read_makings) (defScope s_read_makings) .none kV28 dc28 pm28 an28 cd28 ct28), sl28⟩)
    (c28 : PySem.W.codeIn K cd28 "read_makings" = true)
    (k28 : PySem.W.keepIn K (.ref f28) = true)
    (a29 : PySem.W.findIn K (.ref C_Lines) "finish" = some (some (.ref f29)))
    (l29 : K.lookup f29 = some ⟨oc29, od29, .func (PySem.W.fnOf "finish" "Lines.finish" (defArgs s_Lines_finish) (defBody s_Lines_finish) (defScope s_Lines_finish) .none kV29 dc29 pm29 an29 cd29 ct29), sl29⟩)
    (c29 : PySem.W.codeIn K cd29 "Lines.finish" = true)
    (k29 : PySem.W.keepIn K (.ref f29) = true)
    (i29 : PySem.W.isFn K (.ref f29) = true)
    (a30_0 : PySem.W.nsIn K mainGlobals "is_set" = some (some (.ref f30)))
    (l30 : K.lookup f30 = some ⟨oc30, od30, .func (PySem.W.fnOf "is_set" "is_set" (defArgs s_is_set) (defBody s_is_set) (defScope s_is_set) .none kV30 dc30 pm30 an30 cd30 ct30), sl30⟩)
    (c30 : PySem.W.codeIn K cd30 "is_set" = true)
    (k30 : PySem.W.keepIn K (.ref f30) = true)
    (a31_0 : PySem.W.nsIn K mainGlobals "are_words" = some (some (.ref f31)))
    (l31 : K.lookup f31 = some ⟨oc31, od31, .func (PySem.W.fnOf "are_words" "are_words" (defArgs s_are_words) (defBody s_are_words) (defScope s_are_words) .none kV31 dc31 pm31 an31 cd31 ct31), sl31⟩)
    (c31 : PySem.W.codeIn K cd31 "are_words" = true)
    (k31 : PySem.W.keepIn K (.ref f31) = true)
    (a32_0 : PySem.W.nsIn K mainGlobals "is_array_sheets" = some (some (.ref f32)))
    (l32 : K.lookup f32 = some ⟨oc32, od32, .func (PySem.W.fnOf "is_array" "is_array" (defArgs s_is_array) (defBody s_is_array) (defScope s_is_array) .none kV32 dc32 pm32 an32 cd32 ct32), sl32⟩)
    (c32 : PySem.W.codeIn K cd32 "is_array" = true)
    (k32 : PySem.W.keepIn K (.ref f32) = true)
    (a33_0 : PySem.W.nsIn K mainGlobals "is_box" = some (some (.ref f33)))
    (l33 : K.lookup f33 = some ⟨oc33, od33, .func (PySem.W.fnOf "is_box" "is_box" (defArgs s_is_box) (defBody s_is_box) (defScope s_is_box) .none kV33 dc33 pm33 an33 cd33 ct33), sl33⟩)
    (c33 : PySem.W.codeIn K cd33 "is_box" = true)
    (k33 : PySem.W.keepIn K (.ref f33) = true)
    (a34_0 : PySem.W.nsIn K mainGlobals "cell_names" = some (some (.ref f34)))
    (l34 : K.lookup f34 = some ⟨oc34, od34, .func (PySem.W.fnOf "cell_names" "cell_names" (defArgs s_cell_names) (defBody s_cell_names) (defScope s_cell_names) .none kV34 dc34 pm34 an34 cd34 ct34), sl34⟩)
    (c34 : PySem.W.codeIn K cd34 "cell_names" = true)
    (k34 : PySem.W.keepIn K (.ref f34) = true)
    (a35_0 : PySem.W.nsIn K mainGlobals "is_condition" = some (some (.ref f35)))
    (l35 : K.lookup f35 = some ⟨oc35, od35, .func (PySem.W.fnOf "is_condition" "is_condition" (defArgs s_is_condition) (defBody s_is_condition) (defScope s_is_condition) .none kV35 dc35 pm35 an35 cd35 ct35), sl35⟩)
    (c35 : PySem.W.codeIn K cd35 "is_condition" = true)
    (k35 : PySem.W.keepIn K (.ref f35) = true)
    (a36 : PySem.W.findIn K (.ref C_Rows) "is_expression" = some (some (.ref f36)))
    (l36 : K.lookup f36 = some ⟨oc36, od36, .func (PySem.W.fnOf "is_expression" "Rows.is_expression" (defArgs s_Rows_is_expression) (defBody s_Rows_is_expression) (defScope s_Rows_is_expression) .none kV36 dc36 pm36 an36 cd36 ct36), sl36⟩)
    (c36 : PySem.W.codeIn K cd36 "Rows.is_expression" = true)
    (k36 : PySem.W.keepIn K (.ref f36) = true)
    (i36 : PySem.W.isFn K (.ref f36) = true)
    (a37_0 : PySem.W.nsIn K mainGlobals "is_piece" = some (some (.ref f37)))
    (l37 : K.lookup f37 = some ⟨oc37, od37, .func (PySem.W.fnOf "is_piece" "is_piece" (defArgs s_is_piece) (defBody s_is_piece) (defScope s_is_piece) .none kV37 dc37 pm37 an37 cd37 ct37), sl37⟩)
    (c37 : PySem.W.codeIn K cd37 "is_piece" = true)
    (k37 : PySem.W.keepIn K (.ref f37) = true)
    (a38 : PySem.W.findIn K (.ref C_Hand) "must" = some (some (.ref f38)))
    (l38 : K.lookup f38 = some ⟨oc38, od38, .func (PySem.W.fnOf "must" "Hand.must" (defArgs s_Hand_must) (defBody s_Hand_must) (defScope s_Hand_must) .none kV38 dc38 pm38 an38 cd38 ct38), sl38⟩)
    (c38 : PySem.W.codeIn K cd38 "Hand.must" = true)
    (k38 : PySem.W.keepIn K (.ref f38) = true)
    (i38 : PySem.W.isFn K (.ref f38) = true)
    (a39 : PySem.W.findIn K (.ref C_Hand) "name" = some (some (.ref f39)))
    (l39 : K.lookup f39 = some ⟨oc39, od39, .func (PySem.W.fnOf "name" "Hand.name" (defArgs s_Hand_name) (defBody s_Hand_name) (defScope s_Hand_name) .none kV39 dc39 pm39 an39 cd39 ct39), sl39⟩)
    (c39 : PySem.W.codeIn K cd39 "Hand.name" = true)
    (k39 : PySem.W.keepIn K (.ref f39) = true)
    (i39 : PySem.W.isFn K (.ref f39) = true)
    (a40 : PySem.W.findIn K (.ref C_Hand) "names" = some (some (.ref f40)))
    (l40 : K.lookup f40 = some ⟨oc40, od40, .func (PySem.W.fnOf "names" "Hand.names" (defArgs s_Hand_names) (defBody s_Hand_names) (defScope s_Hand_names) .none kV40 dc40 pm40 an40 cd40 ct40), sl40⟩)
    (c40 : PySem.W.codeIn K cd40 "Hand.names" = true)
    (k40 : PySem.W.keepIn K (.ref f40) = true)
    (i40 : PySem.W.isFn K (.ref f40) = true)
    (a41 : PySem.W.findIn K (.ref C_Hand) "end" = some (some (.ref f41)))
    (l41 : K.lookup f41 = some ⟨oc41, od41, .func (PySem.W.fnOf "end" "Hand.end" (defArgs s_Hand_end) (defBody s_Hand_end) (defScope s_Hand_end) .none kV41 dc41 pm41 an41 cd41 ct41), sl41⟩)
    (c41 : PySem.W.codeIn K cd41 "Hand.end" = true)
    (k41 : PySem.W.keepIn K (.ref f41) = true)
    (i41 : PySem.W.isFn K (.ref f41) = true)
    (a42 : PySem.W.findIn K (.ref C_Hand) "go" = some (some (.ref f42)))
    (l42 : K.lookup f42 = some ⟨oc42, od42, .func (PySem.W.fnOf "go" "Hand.go" (defArgs s_Hand_go) (defBody s_Hand_go) (defScope s_Hand_go) .none kV42 dc42 pm42 an42 cd42 ct42), sl42⟩)
    (c42 : PySem.W.codeIn K cd42 "Hand.go" = true)
    (k42 : PySem.W.keepIn K (.ref f42) = true)
    (i42 : PySem.W.isFn K (.ref f42) = true)
    (a43_0 : PySem.W.nsIn K mainGlobals "condition_of" = some (some (.ref f43)))
    (l43 : K.lookup f43 = some ⟨oc43, od43, .func (PySem.W.fnOf "condition_of" "condition_of" (defArgs s_condition_of) (defBody s_condition_of) (defScope s_condition_of) .none kV43 dc43 pm43 an43 cd43 ct43), sl43⟩)
    (c43 : PySem.W.codeIn K cd43 "condition_of" = true)
    (k43 : PySem.W.keepIn K (.ref f43) = true)
    (a44 : PySem.W.findIn K (.ref C_Hand) "boxed" = some (some (.ref f44)))
    (l44 : K.lookup f44 = some ⟨oc44, od44, .func (PySem.W.fnOf "boxed" "Hand.boxed" (defArgs s_Hand_boxed) (defBody s_Hand_boxed) (defScope s_Hand_boxed) .none kV44 dc44 pm44 an44 cd44 ct44), sl44⟩)
    (c44 : PySem.W.codeIn K cd44 "Hand.boxed" = true)
    (k44 : PySem.W.keepIn K (.ref f44) = true)
    (i44 : PySem.W.isFn K (.ref f44) = true)
    (a45_0 : PySem.W.nsIn K mainGlobals "form_line" = some (some (.ref f45)))
    (l45 : K.lookup f45 = some ⟨oc45, od45, .func (PySem.W.fnOf "form_line" "form_line" (defArgs s_form_line) (defBody s_form_line) (defScope s_form_line) .none kV45 dc45 pm45 an45 cd45 ct45), sl45⟩)
    (c45 : PySem.W.codeIn K cd45 "form_line" = true)
    (k45 : PySem.W.keepIn K (.ref f45) = true)
    (a46 : PySem.W.findIn K (.ref C_Hand) "row" = some (some (.ref f46)))
    (l46 : K.lookup f46 = some ⟨oc46, od46, .func (PySem.W.fnOf "row" "Hand.row" (defArgs s_Hand_row) (defBody s_Hand_row) (defScope s_Hand_row) .none kV46 dc46 pm46 an46 cd46 ct46), sl46⟩)
    (c46 : PySem.W.codeIn K cd46 "Hand.row" = true)
    (k46 : PySem.W.keepIn K (.ref f46) = true)
    (i46 : PySem.W.isFn K (.ref f46) = true)
    (a47 : PySem.W.findIn K (.ref C_Hand) "bad" = some (some (.ref f47)))
    (l47 : K.lookup f47 = some ⟨oc47, od47, .func (PySem.W.fnOf "bad" "Hand.bad" (defArgs s_Hand_bad) (defBody s_Hand_bad) (defScope s_Hand_bad) .none kV47 dc47 pm47 an47 cd47 ct47), sl47⟩)
    (c47 : PySem.W.codeIn K cd47 "Hand.bad" = true)
    (k47 : PySem.W.keepIn K (.ref f47) = true)
    (i47 : PySem.W.isFn K (.ref f47) = true)
    (a48 : PySem.W.findIn K (.ref C_Sums) "sum_of" = some (some (.ref f48)))
    (l48 : K.lookup f48 = some ⟨oc48, od48, .func (PySem.W.fnOf "sum_of" "Sums.sum_of" (defArgs s_Sums_sum_of) (defBody s_Sums_sum_of) (defScope s_Sums_sum_of) .none kV48 dc48 pm48 an48 cd48 ct48), sl48⟩)
    (c48 : PySem.W.codeIn K cd48 "Sums.sum_of" = true)
    (k48 : PySem.W.keepIn K (.ref f48) = true)
    (i48 : PySem.W.isFn K (.ref f48) = true)
    (a49 : PySem.W.findIn K (.ref C_Sums) "__init__" = some (some (.ref f49)))
    (l49 : K.lookup f49 = some ⟨oc49, od49, .func (PySem.W.fnOf "__init__" "Sums.__init__" (defArgs s_Sums_init) (defBody s_Sums_init) (defScope s_Sums_init) .none kV49 dc49 pm49 an49 cd49 ct49), sl49⟩)
    (c49 : PySem.W.codeIn K cd49 "Sums.__init__" = true)
    (k49 : PySem.W.keepIn K (.ref f49) = true)
    (i49 : PySem.W.isFn K (.ref f49) = true)
    (a50 : PySem.W.findIn K (.ref C_Hand) "may" = some (some (.ref f50)))
    (l50 : K.lookup f50 = some ⟨oc50, od50, .func (PySem.W.fnOf "may" "Hand.may" (defArgs s_Hand_may) (defBody s_Hand_may) (defScope s_Hand_may) .none kV50 dc50 pm50 an50 cd50 ct50), sl50⟩)
    (c50 : PySem.W.codeIn K cd50 "Hand.may" = true)
    (k50 : PySem.W.keepIn K (.ref f50) = true)
    (i50 : PySem.W.isFn K (.ref f50) = true)
    (a51_0 : PySem.W.nsIn K mainGlobals "guard_of" = some (some (.ref f51)))
    (l51 : K.lookup f51 = some ⟨oc51, od51, .func (PySem.W.fnOf "guard_of" "guard_of" (defArgs s_guard_of) (defBody s_guard_of) (defScope s_guard_of) .none kV51 dc51 pm51 an51 cd51 ct51), sl51⟩)
    (c51 : PySem.W.codeIn K cd51 "guard_of" = true)
    (k51 : PySem.W.keepIn K (.ref f51) = true)
    (a52 : PySem.W.findIn K (.ref C_Lines) "more" = some (some (.ref f52)))
    (l52 : K.lookup f52 = some ⟨oc52, od52, .func (PySem.W.fnOf "more" "Lines.more" (defArgs s_Lines_more) (defBody s_Lines_more) (defScope s_Lines_more) .none kV52 dc52 pm52 an52 cd52 ct52), sl52⟩)
    (c52 : PySem.W.codeIn K cd52 "Lines.more" = true)
    (k52 : PySem.W.keepIn K (.ref f52) = true)
    (i52 : PySem.W.isFn K (.ref f52) = true)
    (a53_0 : PySem.W.nsIn K mainGlobals "told_of" = some (some (.ref f53)))
    (l53 : K.lookup f53 = some ⟨oc53, od53, .func (PySem.W.fnOf "told_of" "told_of" (defArgs s_told_of) (defBody s_told_of) (defScope s_told_of) .none kV53 dc53 pm53 an53 cd53 ct53), sl53⟩)
    (c53 : PySem.W.codeIn K cd53 "told_of" = true)
    (k53 : PySem.W.keepIn K (.ref f53) = true)
    (a54_0 : PySem.W.nsIn K mainGlobals "is_form" = some (some (.ref f54)))
    (l54 : K.lookup f54 = some ⟨oc54, od54, .func (PySem.W.fnOf "is_form" "is_form" (defArgs s_is_form) (defBody s_is_form) (defScope s_is_form) .none kV54 dc54 pm54 an54 cd54 ct54), sl54⟩)
    (c54 : PySem.W.codeIn K cd54 "is_form" = true)
    (k54 : PySem.W.keepIn K (.ref f54) = true)
    (a55_0 : PySem.W.nsIn K mainGlobals "are_forms" = some (some (.ref f55)))
    (l55 : K.lookup f55 = some ⟨oc55, od55, .func (PySem.W.fnOf "are_forms" "are_forms" (defArgs s_are_forms) (defBody s_are_forms) (defScope s_are_forms) .none kV55 dc55 pm55 an55 cd55 ct55), sl55⟩)
    (c55 : PySem.W.codeIn K cd55 "are_forms" = true)
    (k55 : PySem.W.keepIn K (.ref f55) = true)
    (a56_0 : PySem.W.nsIn K mainGlobals "place_names" = some (some (.ref f56)))
    (l56 : K.lookup f56 = some ⟨oc56, od56, .func (PySem.W.fnOf "place_names" "place_names" (defArgs s_place_names) (defBody s_place_names) (defScope s_place_names) .none kV56 dc56 pm56 an56 cd56 ct56), sl56⟩)
    (c56 : PySem.W.codeIn K cd56 "place_names" = true)
    (k56 : PySem.W.keepIn K (.ref f56) = true)
    (a57_0 : PySem.W.nsIn K mainGlobals "is_integer" = some (some (.ref f57)))
    (l57 : K.lookup f57 = some ⟨oc57, od57, .func (PySem.W.fnOf "is_integer" "is_integer" (defArgs s_is_integer) (defBody s_is_integer) (defScope s_is_integer) .none kV57 dc57 pm57 an57 cd57 ct57), sl57⟩)
    (c57 : PySem.W.codeIn K cd57 "is_integer" = true)
    (k57 : PySem.W.keepIn K (.ref f57) = true)
    (a58_0 : PySem.W.nsIn K mainGlobals "is_wire" = some (some (.ref f58)))
    (l58 : K.lookup f58 = some ⟨oc58, od58, .func (PySem.W.fnOf "is_wire" "is_wire" (defArgs s_is_wire) (defBody s_is_wire) (defScope s_is_wire) .none kV58 dc58 pm58 an58 cd58 ct58), sl58⟩)
    (c58 : PySem.W.codeIn K cd58 "is_wire" = true)
    (k58 : PySem.W.keepIn K (.ref f58) = true)
    (a59_0 : PySem.W.nsIn K mainGlobals "is_rim" = some (some (.ref f59)))
    (l59 : K.lookup f59 = some ⟨oc59, od59, .func (PySem.W.fnOf "is_rim" "is_rim" (defArgs s_is_rim) (defBody s_is_rim) (defScope s_is_rim) .none kV59 dc59 pm59 an59 cd59 ct59), sl59⟩)
    (c59 : PySem.W.codeIn K cd59 "is_rim" = true)
    (k59 : PySem.W.keepIn K (.ref f59) = true)
    (a60_0 : PySem.W.nsIn K mainGlobals "is_name_tokens" = some (some (.ref f60)))
    (l60 : K.lookup f60 = some ⟨oc60, od60, .func (PySem.W.fnOf "is_name" "is_name" (defArgs s_is_name2) (defBody s_is_name2) (defScope s_is_name2) .none kV60 dc60 pm60 an60 cd60 ct60), sl60⟩)
    (c60 : PySem.W.codeIn K cd60 "is_name" = true)
    (k60 : PySem.W.keepIn K (.ref f60) = true)
    (a61_0 : PySem.W.nsIn K mainGlobals "compared" = some (some (.ref f61)))
    (l61 : K.lookup f61 = some ⟨oc61, od61, .func (PySem.W.fnOf "compared" "compared" (defArgs s_compared) (defBody s_compared) (defScope s_compared) .none kV61 dc61 pm61 an61 cd61 ct61), sl61⟩)
    (c61 : PySem.W.codeIn K cd61 "compared" = true)
    (k61 : PySem.W.keepIn K (.ref f61) = true)
    (a62 : PySem.W.findIn K (.ref C_Hand) "opened" = some (some (.ref f62)))
    (l62 : K.lookup f62 = some ⟨oc62, od62, .func (PySem.W.fnOf "opened" "Hand.opened" (defArgs s_Hand_opened) (defBody s_Hand_opened) (defScope s_Hand_opened) .none kV62 dc62 pm62 an62 cd62 ct62), sl62⟩)
    (c62 : PySem.W.codeIn K cd62 "Hand.opened" = true)
    (k62 : PySem.W.keepIn K (.ref f62) = true)
    (i62 : PySem.W.isFn K (.ref f62) = true)
    (a63 : PySem.W.findIn K (.ref C_Hand) "shut" = some (some (.ref f63)))
    (l63 : K.lookup f63 = some ⟨oc63, od63, .func (PySem.W.fnOf "shut" "Hand.shut" (defArgs s_Hand_shut) (defBody s_Hand_shut) (defScope s_Hand_shut) .none kV63 dc63 pm63 an63 cd63 ct63), sl63⟩)
    (c63 : PySem.W.codeIn K cd63 "Hand.shut" = true)
    (k63 : PySem.W.keepIn K (.ref f63) = true)
    (i63 : PySem.W.isFn K (.ref f63) = true)
    (a64_0 : PySem.W.nsIn K mainGlobals "form_of" = some (some (.ref f64)))
    (l64 : K.lookup f64 = some ⟨oc64, od64, .func (PySem.W.fnOf "form_of" "form_of" (defArgs s_form_of) (defBody s_form_of) (defScope s_form_of) .none kV64 dc64 pm64 an64 cd64 ct64), sl64⟩)
    (c64 : PySem.W.codeIn K cd64 "form_of" = true)
    (k64 : PySem.W.keepIn K (.ref f64) = true)
    (a65_0 : PySem.W.nsIn K mainGlobals "named" = some (some (.ref f65)))
    (l65 : K.lookup f65 = some ⟨oc65, od65, .func (PySem.W.fnOf "named" "named" (defArgs s_named) (defBody s_named) (defScope s_named) .none kV65 dc65 pm65 an65 cd65 ct65), sl65⟩)
    (c65 : PySem.W.codeIn K cd65 "named" = true)
    (k65 : PySem.W.keepIn K (.ref f65) = true)
    (a66_0 : PySem.W.nsIn K mainGlobals "pair_of" = some (some (.ref f66)))
    (l66 : K.lookup f66 = some ⟨oc66, od66, .func (PySem.W.fnOf "pair_of" "pair_of" (defArgs s_pair_of) (defBody s_pair_of) (defScope s_pair_of) .none kV66 dc66 pm66 an66 cd66 ct66), sl66⟩)
    (c66 : PySem.W.codeIn K cd66 "pair_of" = true)
    (k66 : PySem.W.keepIn K (.ref f66) = true)
    (a67_0 : PySem.W.nsIn K mainGlobals "signed_of" = some (some (.ref f67)))
    (l67 : K.lookup f67 = some ⟨oc67, od67, .func (PySem.W.fnOf "signed_of" "signed_of" (defArgs s_signed_of) (defBody s_signed_of) (defScope s_signed_of) .none kV67 dc67 pm67 an67 cd67 ct67), sl67⟩)
    (c67 : PySem.W.codeIn K cd67 "signed_of" = true)
    (k67 : PySem.W.keepIn K (.ref f67) = true)
    (a68_0 : PySem.W.nsIn K mainGlobals "share_of" = some (some (.ref f68)))
    (l68 : K.lookup f68 = some ⟨oc68, od68, .func (PySem.W.fnOf "share_of" "share_of" (defArgs s_share_of) (defBody s_share_of) (defScope s_share_of) .none kV68 dc68 pm68 an68 cd68 ct68), sl68⟩)
    (c68 : PySem.W.codeIn K cd68 "share_of" = true)
    (k68 : PySem.W.keepIn K (.ref f68) = true)
    (a69 : PySem.W.findIn K (.ref C_Sums) "term_of" = some (some (.ref f69)))
    (l69 : K.lookup f69 = some ⟨oc69, od69, .func (PySem.W.fnOf "term_of" "Sums.term_of" (defArgs s_Sums_term_of) (defBody s_Sums_term_of) (defScope s_Sums_term_of) .none kV69 dc69 pm69 an69 cd69 ct69), sl69⟩)
    (c69 : PySem.W.codeIn K cd69 "Sums.term_of" = true)
    (k69 : PySem.W.keepIn K (.ref f69) = true)
    (i69 : PySem.W.isFn K (.ref f69) = true)
    (a70_0 : PySem.W.nsIn K mainGlobals "test_of" = some (some (.ref f70)))
    (l70 : K.lookup f70 = some ⟨oc70, od70, .func (PySem.W.fnOf "test_of" "test_of" (defArgs s_test_of) (defBody s_test_of) (defScope s_test_of) .none kV70 dc70 pm70 an70 cd70 ct70), sl70⟩)
    (c70 : PySem.W.codeIn K cd70 "test_of" = true)
    (k70 : PySem.W.keepIn K (.ref f70) = true)
    (a71_0 : PySem.W.nsIn K mainGlobals "split_line" = some (some (.ref f71)))
    (l71 : K.lookup f71 = some ⟨oc71, od71, .func (PySem.W.fnOf "split_line" "split_line" (defArgs s_split_line) (defBody s_split_line) (defScope s_split_line) .none kV71 dc71 pm71 an71 cd71 ct71), sl71⟩)
    (c71 : PySem.W.codeIn K cd71 "split_line" = true)
    (k71 : PySem.W.keepIn K (.ref f71) = true)
    (a72 : PySem.W.findIn K (.ref C_Hand) "__init__" = some (some (.ref f72)))
    (l72 : K.lookup f72 = some ⟨oc72, od72, .func (PySem.W.fnOf "__init__" "Hand.__init__" (defArgs s_Hand_init) (defBody s_Hand_init) (defScope s_Hand_init) .none kV72 dc72 pm72 an72 cd72 ct72), sl72⟩)
    (c72 : PySem.W.codeIn K cd72 "Hand.__init__" = true)
    (k72 : PySem.W.keepIn K (.ref f72) = true)
    (i72 : PySem.W.isFn K (.ref f72) = true)
    (a73_0 : PySem.W.nsIn K mainGlobals "forms_of" = some (some (.ref f73)))
    (l73 : K.lookup f73 = some ⟨oc73, od73, .func (PySem.W.fnOf "forms_of" "forms_of" (defArgs s_forms_of) (defBody s_forms_of) (defScope s_forms_of) .none kV73 dc73 pm73 an73 cd73 ct73), sl73⟩)
    (c73 : PySem.W.codeIn K cd73 "forms_of" = true)
    (k73 : PySem.W.keepIn K (.ref f73) = true)
    (a74_0 : PySem.W.nsIn K mainGlobals "read_when" = some (some (.ref f74)))
    (l74 : K.lookup f74 = some ⟨oc74, od74, .func (PySem.W.fnOf "read_when" "read_when" (defArgs s_read_when) (defBody s_read_when) (defScope s_read_when) .none kV74 dc74 pm74 an74 cd74 ct74), sl74⟩)
    (c74 : PySem.W.codeIn K cd74 "read_when" = true)
    (k74 : PySem.W.keepIn K (.ref f74) = true)
    (a75_0 : PySem.W.nsIn K mainGlobals "is_name_forms" = some (some (.ref f75)))
    (l75 : K.lookup f75 = some ⟨oc75, od75, .func (PySem.W.fnOf "is_name" "is_name" (defArgs s_is_name) (defBody s_is_name) (defScope s_is_name) .none kV75 dc75 pm75 an75 cd75 ct75), sl75⟩)
    (c75 : PySem.W.codeIn K cd75 "is_name" = true)
    (k75 : PySem.W.keepIn K (.ref f75) = true)
    (a76_0 : PySem.W.nsIn K mainGlobals "are_integers" = some (some (.ref f76)))
    (l76 : K.lookup f76 = some ⟨oc76, od76, .func (PySem.W.fnOf "are_integers" "are_integers" (defArgs s_are_integers) (defBody s_are_integers) (defScope s_are_integers) .none kV76 dc76 pm76 an76 cd76 ct76), sl76⟩)
    (c76 : PySem.W.codeIn K cd76 "are_integers" = true)
    (k76 : PySem.W.keepIn K (.ref f76) = true)
    (a77_0 : PySem.W.nsIn K mainGlobals "minus" = some (some (.ref f77)))
    (l77 : K.lookup f77 = some ⟨oc77, od77, .func (PySem.W.fnOf "minus" "minus" (defArgs s_minus) (defBody s_minus) (defScope s_minus) .none kV77 dc77 pm77 an77 cd77 ct77), sl77⟩)
    (c77 : PySem.W.codeIn K cd77 "minus" = true)
    (k77 : PySem.W.keepIn K (.ref f77) = true)
    (a78_0 : PySem.W.nsIn K mainGlobals "part" = some (some (.ref f78)))
    (l78 : K.lookup f78 = some ⟨oc78, od78, .func (PySem.W.fnOf "part" "part" (defArgs s_part) (defBody s_part) (defScope s_part) .none kV78 dc78 pm78 an78 cd78 ct78), sl78⟩)
    (c78 : PySem.W.codeIn K cd78 "part" = true)
    (k78 : PySem.W.keepIn K (.ref f78) = true)
    (a79_0 : PySem.W.nsIn K mainGlobals "form" = some (some (.ref f79)))
    (l79 : K.lookup f79 = some ⟨oc79, od79, .func (PySem.W.fnOf "form" "form" (defArgs s_form) (defBody s_form) (defScope s_form) .none kV79 dc79 pm79 an79 cd79 ct79), sl79⟩)
    (c79 : PySem.W.codeIn K cd79 "form" = true)
    (k79 : PySem.W.keepIn K (.ref f79) = true)
    (a80 : PySem.W.findIn K (.ref C_Hand) "signed" = some (some (.ref f80)))
    (l80 : K.lookup f80 = some ⟨oc80, od80, .func (PySem.W.fnOf "signed" "Hand.signed" (defArgs s_Hand_signed) (defBody s_Hand_signed) (defScope s_Hand_signed) .none kV80 dc80 pm80 an80 cd80 ct80), sl80⟩)
    (c80 : PySem.W.codeIn K cd80 "Hand.signed" = true)
    (k80 : PySem.W.keepIn K (.ref f80) = true)
    (i80 : PySem.W.isFn K (.ref f80) = true)
    (a81 : PySem.W.findIn K (.ref C_Hand) "number" = some (some (.ref f81)))
    (l81 : K.lookup f81 = some ⟨oc81, od81, .func (PySem.W.fnOf "number" "Hand.number" (defArgs s_Hand_number) (defBody s_Hand_number) (defScope s_Hand_number) .none kV81 dc81 pm81 an81 cd81 ct81), sl81⟩)
    (c81 : PySem.W.codeIn K cd81 "Hand.number" = true)
    (k81 : PySem.W.keepIn K (.ref f81) = true)
    (i81 : PySem.W.isFn K (.ref f81) = true)
    (a82 : PySem.W.findIn K (.ref C_Sums) "factor_of" = some (some (.ref f82)))
    (l82 : K.lookup f82 = some ⟨oc82, od82, .func (PySem.W.fnOf "factor_of" "Sums.factor_of" (defArgs s_Sums_factor_of) (defBody s_Sums_factor_of) (defScope s_Sums_factor_of) .none kV82 dc82 pm82 an82 cd82 ct82), sl82⟩)
    (c82 : PySem.W.codeIn K cd82 "Sums.factor_of" = true)
    (k82 : PySem.W.keepIn K (.ref f82) = true)
    (i82 : PySem.W.isFn K (.ref f82) = true)
    (a83_0 : PySem.W.nsIn K mainGlobals "is_number" = some (some (.ref f83)))
    (l83 : K.lookup f83 = some ⟨oc83, od83, .func (PySem.W.fnOf "is_number" "is_number" (defArgs s_is_number) (defBody s_is_number) (defScope s_is_number) .none kV83 dc83 pm83 an83 cd83 ct83), sl83⟩)
    (c83 : PySem.W.codeIn K cd83 "is_number" = true)
    (k83 : PySem.W.keepIn K (.ref f83) = true)
    (a84_0 : PySem.W.nsIn K mainGlobals "head_of" = some (some (.ref f84)))
    (l84 : K.lookup f84 = some ⟨oc84, od84, .func (PySem.W.fnOf "head_of" "head_of" (defArgs s_head_of) (defBody s_head_of) (defScope s_head_of) .none kV84 dc84 pm84 an84 cd84 ct84), sl84⟩)
    (c84 : PySem.W.codeIn K cd84 "head_of" = true)
    (k84 : PySem.W.keepIn K (.ref f84) = true)
    (a85_0 : PySem.W.nsIn K mainGlobals "plus" = some (some (.ref f85)))
    (l85 : K.lookup f85 = some ⟨oc85, od85, .func (PySem.W.fnOf "plus" "plus" (defArgs s_plus) (defBody s_plus) (defScope s_plus) .none kV85 dc85 pm85 an85 cd85 ct85), sl85⟩)
    (c85 : PySem.W.codeIn K cd85 "plus" = true)
    (k85 : PySem.W.keepIn K (.ref f85) = true)
    (a86_0 : PySem.W.nsIn K mainGlobals "times" = some (some (.ref f86)))
    (l86 : K.lookup f86 = some ⟨oc86, od86, .func (PySem.W.fnOf "times" "times" (defArgs s_times) (defBody s_times) (defScope s_times) .none kV86 dc86 pm86 an86 cd86 ct86), sl86⟩)
    (c86 : PySem.W.codeIn K cd86 "times" = true)
    (k86 : PySem.W.keepIn K (.ref f86) = true)
    (a87 : PySem.W.findIn K (.ref C_Sums) "bracket_of" = some (some (.ref f87)))
    (l87 : K.lookup f87 = some ⟨oc87, od87, .func (PySem.W.fnOf "bracket_of" "Sums.bracket_of" (defArgs s_Sums_bracket_of) (defBody s_Sums_bracket_of) (defScope s_Sums_bracket_of) .none kV87 dc87 pm87 an87 cd87 ct87), sl87⟩)
    (c87 : PySem.W.codeIn K cd87 "Sums.bracket_of" = true)
    (k87 : PySem.W.keepIn K (.ref f87) = true)
    (i87 : PySem.W.isFn K (.ref f87) = true)
    (a88 : PySem.W.findIn K (.ref C_Sums) "call_of" = some (some (.ref f88)))
    (l88 : K.lookup f88 = some ⟨oc88, od88, .func (PySem.W.fnOf "call_of" "Sums.call_of" (defArgs s_Sums_call_of) (defBody s_Sums_call_of) (defScope s_Sums_call_of) .none kV88 dc88 pm88 an88 cd88 ct88), sl88⟩)
    (c88 : PySem.W.codeIn K cd88 "Sums.call_of" = true)
    (k88 : PySem.W.keepIn K (.ref f88) = true)
    (i88 : PySem.W.isFn K (.ref f88) = true)
    (a89 : PySem.W.findIn K (.ref C_Hand) "leaf" = some (some (.ref f89)))
    (l89 : K.lookup f89 = some ⟨oc89, od89, .func (PySem.W.fnOf "leaf" "Hand.leaf" (defArgs s_Hand_leaf) (defBody s_Hand_leaf) (defScope s_Hand_leaf) .none kV89 dc89 pm89 an89 cd89 ct89), sl89⟩)
    (c89 : PySem.W.codeIn K cd89 "Hand.leaf" = true)
    (k89 : PySem.W.keepIn K (.ref f89) = true)
    (i89 : PySem.W.isFn K (.ref f89) = true)
    (a90_0 : PySem.W.nsIn K mainGlobals "wire_of" = some (some (.ref f90)))
    (l90 : K.lookup f90 = some ⟨oc90, od90, .func (PySem.W.fnOf "wire_of" "wire_of" (defArgs s_wire_of) (defBody s_wire_of) (defScope s_wire_of) .none kV90 dc90 pm90 an90 cd90 ct90), sl90⟩)
    (c90 : PySem.W.codeIn K cd90 "wire_of" = true)
    (k90 : PySem.W.keepIn K (.ref f90) = true)
    (a91 : PySem.W.findIn K (.ref C_Sums) "word_of" = some (some (.ref f91)))
    (l91 : K.lookup f91 = some ⟨oc91, od91, .func (PySem.W.fnOf "word_of" "Sums.word_of" (defArgs s_Sums_word_of) (defBody s_Sums_word_of) (defScope s_Sums_word_of) .none kV91 dc91 pm91 an91 cd91 ct91), sl91⟩)
    (c91 : PySem.W.codeIn K cd91 "Sums.word_of" = true)
    (k91 : PySem.W.keepIn K (.ref f91) = true)
    (i91 : PySem.W.isFn K (.ref f91) = true)
    (a92_0 : PySem.W.nsIn K mainGlobals "run_length" = some (some (.ref f92)))
    (l92 : K.lookup f92 = some ⟨oc92, od92, .func (PySem.W.fnOf "run_length" "run_length" (defArgs s_run_length) (defBody s_run_length) (defScope s_run_length) .none kV92 dc92 pm92 an92 cd92 ct92), sl92⟩)
    (c92 : PySem.W.codeIn K cd92 "run_length" = true)
    (k92 : PySem.W.keepIn K (.ref f92) = true)
    (z_abs : PySem.W.nsIn K mainGlobals "abs" = some none)
    (z_all : PySem.W.nsIn K mainGlobals "all" = some none)
    (z_any : PySem.W.nsIn K mainGlobals "any" = some none)
    (z_bool : PySem.W.nsIn K mainGlobals "bool" = some none)
    (z_dict : PySem.W.nsIn K mainGlobals "dict" = some none)
    (z_int : PySem.W.nsIn K mainGlobals "int" = some none)
    (z_isinstance : PySem.W.nsIn K mainGlobals "isinstance" = some none)
    (z_len : PySem.W.nsIn K mainGlobals "len" = some none)
    (z_list : PySem.W.nsIn K mainGlobals "list" = some none)
    (z_range : PySem.W.nsIn K mainGlobals "range" = some none)
    (z_set : PySem.W.nsIn K mainGlobals "set" = some none)
    (z_sorted : PySem.W.nsIn K mainGlobals "sorted" = some none)
    (z_str : PySem.W.nsIn K mainGlobals "str" = some none)
    (z_tuple : PySem.W.nsIn K mainGlobals "tuple" = some none)
    {t_MOST_SIZES : Tok}
    (g_MOST_SIZES : PySem.W.nsIn K mainGlobals "MOST_SIZES" = some (some (.int 3 t_MOST_SIZES)))
    {t_LETTERS : Tok}
    (g_LETTERS : PySem.W.nsIn K mainGlobals "LETTERS" = some (some (.str "abcdefghijklmnopqrstuvwxyz" t_LETTERS)))
    {t_MOST_SIGNS_forms : Tok}
    (g_MOST_SIGNS_forms : PySem.W.nsIn K mainGlobals "MOST_SIGNS_forms" = some (some (.int 12 t_MOST_SIGNS_forms)))
    {t_SIGNS_forms : Tok}
    (g_SIGNS_forms : PySem.W.nsIn K mainGlobals "SIGNS_forms" = some (some (.str "abcdefghijklmnopqrstuvwxyz0123456789" t_SIGNS_forms)))
    {t_DEEP : Tok}
    (g_DEEP : PySem.W.nsIn K mainGlobals "DEEP" = some (some (.int 20 t_DEEP)))
    {t_MOST_INDEXES : Tok}
    (g_MOST_INDEXES : PySem.W.nsIn K mainGlobals "MOST_INDEXES" = some (some (.int 3 t_MOST_INDEXES)))
    {t_ARRAY : Tok}
    (g_ARRAY : PySem.W.nsIn K mainGlobals "ARRAY" = some (some (.str "array" t_ARRAY)))
    {tG7_0 tG7_1 tG7_2 : Tok} {aG7 : Addr} {nG7 : Nat} {slG7 : Array (Option Value)}
    (g_RESERVED_sheets : PySem.W.nsIn K mainGlobals "RESERVED_sheets" = some (some (.ref aG7)))
    (lG7 : K.lookup aG7 = some ⟨.type "tuple", none, .seq #[.str "beat" tG7_0, .str "place0" tG7_1, .str "place1" tG7_2] nG7, slG7⟩)
    {t_MOST_PLACES : Tok}
    (g_MOST_PLACES : PySem.W.nsIn K mainGlobals "MOST_PLACES" = some (some (.int 2 t_MOST_PLACES)))
    {t_BEAT : Tok}
    (g_BEAT : PySem.W.nsIn K mainGlobals "BEAT" = some (some (.str "beat" t_BEAT)))
    {t_LEAST : Tok}
    (g_LEAST : PySem.W.nsIn K mainGlobals "LEAST" = some (some (.str "least" t_LEAST)))
    {t_DIVIDES : Tok}
    (g_DIVIDES : PySem.W.nsIn K mainGlobals "DIVIDES" = some (some (.str "divides" t_DIVIDES)))
    {tG12_0 tG12_1 tG12_2 tG12_3 tG12_4 tG12_5 : Tok} {aG12 : Addr} {nG12 : Nat} {slG12 : Array (Option Value)}
    (g_OPERATIONS : PySem.W.nsIn K mainGlobals "OPERATIONS" = some (some (.ref aG12)))
    (lG12 : K.lookup aG12 = some ⟨.type "tuple", none, .seq #[.str "plus" tG12_0, .str "minus" tG12_1, .str "times" tG12_2, .str "least" tG12_3, .str "most" tG12_4, .str "alike" tG12_5] nG12, slG12⟩)
    {t_NUMBER : Tok}
    (g_NUMBER : PySem.W.nsIn K mainGlobals "NUMBER" = some (some (.str "number" t_NUMBER)))
    {t_WIRE : Tok}
    (g_WIRE : PySem.W.nsIn K mainGlobals "WIRE" = some (some (.str "wire" t_WIRE)))
    {t_RIM : Tok}
    (g_RIM : PySem.W.nsIn K mainGlobals "RIM" = some (some (.str "rim" t_RIM)))
    {t_PLACE : Tok}
    (g_PLACE : PySem.W.nsIn K mainGlobals "PLACE" = some (some (.str "place" t_PLACE)))
    {tG17_0 tG17_1 tG17_2 tG17_3 tG17_4 tG17_5 tG17_6 tG17_7 tG17_8 tG17_9 tG17_10 tG17_11 tG17_12 tG17_13 tG17_14 tG17_15 tG17_16 tG17_17 tG17_18 tG17_19 tG17_20 tG17_21 tG17_22 tG17_23 tG17_24 tG17_25 tG17_26 tG17_27 tG17_28 tG17_29 tG17_30 tG17_31 tG17_32 tG17_33 tG17_34 : Tok} {aG17 : Addr} {nG17 : Nat} {slG17 : Array (Option Value)}
    (g_RESERVED_tokens : PySem.W.nsIn K mainGlobals "RESERVED_tokens" = some (some (.ref aG17)))
    (lG17 : K.lookup aG17 = some ⟨.type "tuple", none, .seq #[.str "sheet" tG17_0, .str "given" tG17_1, .str "in" tG17_2, .str "unit" tG17_3, .str "where" tG17_4, .str "give" tG17_5, .str "when" tG17_6, .str "out" tG17_7, .str "end" tG17_8, .str "to" tG17_9, .str "least" tG17_10, .str "most" tG17_11, .str "alike" tG17_12, .str "and" tG17_13, .str "laying" tG17_14, .str "of" tG17_15, .str "at" tG17_16, .str "first" tG17_17, .str "last" tG17_18, .str "box" tG17_19, .str "array" tG17_20, .str "row" tG17_21, .str "wire" tG17_22, .str "div" tG17_23, .str "divides" tG17_24, .str "stretch" tG17_25, .str "shift" tG17_26, .str "turn" tG17_27, .str "fold" tG17_28, .str "by" tG17_29, .str "chips" tG17_30, .str "more" tG17_31, .str "heal" tG17_32, .str "jobs" tG17_33, .str "after" tG17_34] nG17, slG17⟩)
    {t_SMALL : Tok}
    (g_SMALL : PySem.W.nsIn K mainGlobals "SMALL" = some (some (.str "abcdefghijklmnopqrstuvwxyz" t_SMALL)))
    {tG19_0 : Tok} {aG19 aG19_1 : Addr} {nG19 nG19_1 : Nat} {slG19 slG19_1 : Array (Option Value)}
    (g_ONE : PySem.W.nsIn K mainGlobals "ONE" = some (some (.ref aG19)))
    (lG19 : K.lookup aG19 = some ⟨.type "tuple", none, .seq #[.int 1 tG19_0, .ref aG19_1] nG19, slG19⟩)
    (lG19_1 : K.lookup aG19_1 = some ⟨.type "tuple", none, .seq #[] nG19_1, slG19_1⟩)
    {t_MOST_DEEP : Tok}
    (g_MOST_DEEP : PySem.W.nsIn K mainGlobals "MOST_DEEP" = some (some (.int 30 t_MOST_DEEP)))
    {tG21_0 tG21_1 tG21_2 : Tok} {aG21 : Addr} {nG21 : Nat} {slG21 : Array (Option Value)}
    (g_CALLS : PySem.W.nsIn K mainGlobals "CALLS" = some (some (.ref aG21)))
    (lG21 : K.lookup aG21 = some ⟨.type "tuple", none, .seq #[.str "least" tG21_0, .str "most" tG21_1, .str "alike" tG21_2] nG21, slG21⟩)
    {t_MOST_DIGITS : Tok}
    (g_MOST_DIGITS : PySem.W.nsIn K mainGlobals "MOST_DIGITS" = some (some (.int 6 t_MOST_DIGITS)))
    {t_DIGITS : Tok}
    (g_DIGITS : PySem.W.nsIn K mainGlobals "DIGITS" = some (some (.str "0123456789" t_DIGITS)))
    {t_MOST_SIGNS_tokens : Tok}
    (g_MOST_SIGNS_tokens : PySem.W.nsIn K mainGlobals "MOST_SIGNS_tokens" = some (some (.int 12 t_MOST_SIGNS_tokens)))
    {tG25_0 tG25_1 tG25_2 tG25_3 tG25_4 tG25_5 tG25_6 tG25_7 tG25_8 tG25_9 tG25_10 tG25_11 tG25_12 : Tok} {aG25 : Addr} {nG25 : Nat} {slG25 : Array (Option Value)}
    (g_SIGNS_tokens : PySem.W.nsIn K mainGlobals "SIGNS_tokens" = some (some (.ref aG25)))
    (lG25 : K.lookup aG25 = some ⟨.type "tuple", none, .seq #[.str "<=" tG25_0, .str ">=" tG25_1, .str "==" tG25_2, .str "<" tG25_3, .str ">" tG25_4, .str "+" tG25_5, .str "-" tG25_6, .str "*" tG25_7, .str "(" tG25_8, .str ")" tG25_9, .str "[" tG25_10, .str "]" tG25_11, .str "," tG25_12] nG25, slG25⟩)
    {tG26_0 : Tok} {aG26 aG26_1 : Addr} {nG26 nG26_1 : Nat} {slG26 slG26_1 : Array (Option Value)}
    (g_ZERO : PySem.W.nsIn K mainGlobals "ZERO" = some (some (.ref aG26)))
    (lG26 : K.lookup aG26 = some ⟨.type "tuple", none, .seq #[.int 0 tG26_0, .ref aG26_1] nG26, slG26⟩)
    (lG26_1 : K.lookup aG26_1 = some ⟨.type "tuple", none, .seq #[] nG26_1, slG26_1⟩)
    {t_MOST_LEAVES : Tok}
    (g_MOST_LEAVES : PySem.W.nsIn K mainGlobals "MOST_LEAVES" = some (some (.int 100 t_MOST_LEAVES)))
    {d_MAKINGS : Addr} {es_MAKINGS : Array DictEntry} {n_MAKINGS : Nat}
    (aK_MAKINGS : PySem.W.nsIn K mainGlobals "MAKINGS" = some (some (.ref d_MAKINGS)))
    (lK_MAKINGS : K.lookup d_MAKINGS = some ⟨.type "dict", none, .dict es_MAKINGS n_MAKINGS, #[]⟩)
    (kK_MAKINGS : PySem.W.KeysLit w.params es_MAKINGS.toList)
    (sK_MAKINGS : (d_MAKINGS == sysModules) = false)
    (nK_MAKINGS_0 : PySem.W.nsIn K d_MAKINGS "end" = some none)
    {d_JOINING : Addr} {es_JOINING : Array DictEntry} {n_JOINING : Nat} {ty_JOINING_0 : Tok}
    (aK_JOINING : PySem.W.nsIn K mainGlobals "JOINING" = some (some (.ref d_JOINING)))
    (lK_JOINING : K.lookup d_JOINING = some ⟨.type "dict", none, .dict es_JOINING n_JOINING, #[]⟩)
    (kK_JOINING : PySem.W.KeysLit w.params es_JOINING.toList)
    (sK_JOINING : (d_JOINING == sysModules) = false)
    (yK_JOINING_0 : PySem.W.nsIn K d_JOINING "+" = some (some (.str "plus" ty_JOINING_0)))
    (nK_JOINING_0 : PySem.W.nsIn K d_JOINING "" = some none)
    (nK_JOINING_1 : PySem.W.nsIn K d_JOINING "when" = some none)
    (nK_JOINING_2 : PySem.W.nsIn K d_JOINING ")" = some none)
    (nK_JOINING_3 : PySem.W.nsIn K d_JOINING "," = some none) :
    ∃ fd : FuncData, (∀ (s : Shared) (v : Value), BindsTo s fd ⟨[v], []⟩ [("script", v)]) ∧ ∀ base : Heap, K.In base → base.Ns mainGlobals mg → FnOk l.prog w K mg base CX0 37 fa fd ["script"] (spLaw K) := by
  have e := hfa.symm.trans (PySem.W.mg_of X G a0_0)
  cases e
  obtain ⟨fd, FL, bL⟩ := mk_law l0 c0 k0
  have B : Ev w K mg := { m_abs := PySem.W.mg_none_of X G z_abs, m_all := PySem.W.mg_none_of X G z_all, m_any := PySem.W.mg_none_of X G z_any, m_bool := PySem.W.mg_none_of X G z_bool, m_dict := PySem.W.mg_none_of X G z_dict, m_int := PySem.W.mg_none_of X G z_int, m_isinstance := PySem.W.mg_none_of X G z_isinstance, m_len := PySem.W.mg_none_of X G z_len, m_list := PySem.W.mg_none_of X G z_list, m_range := PySem.W.mg_none_of X G z_range, m_set := PySem.W.mg_none_of X G z_set, m_sorted := PySem.W.mg_none_of X G z_sorted, m_str := PySem.W.mg_none_of X G z_str, m_tuple := PySem.W.mg_none_of X G z_tuple, g_MOST_SIZES := ⟨_, PySem.W.mg_of X G g_MOST_SIZES⟩, g_LETTERS := ⟨_, PySem.W.mg_of X G g_LETTERS⟩, g_MOST_SIGNS_forms := ⟨_, PySem.W.mg_of X G g_MOST_SIGNS_forms⟩, g_SIGNS_forms := ⟨_, PySem.W.mg_of X G g_SIGNS_forms⟩, g_DEEP := ⟨_, PySem.W.mg_of X G g_DEEP⟩, g_MOST_INDEXES := ⟨_, PySem.W.mg_of X G g_MOST_INDEXES⟩, g_ARRAY := ⟨_, PySem.W.mg_of X G g_ARRAY⟩, g_RESERVED_sheets := mk_g_RESERVED_sheets X G g_RESERVED_sheets lG7, g_MOST_PLACES := ⟨_, PySem.W.mg_of X G g_MOST_PLACES⟩, g_BEAT := ⟨_, PySem.W.mg_of X G g_BEAT⟩, g_LEAST := ⟨_, PySem.W.mg_of X G g_LEAST⟩, g_DIVIDES := ⟨_, PySem.W.mg_of X G g_DIVIDES⟩, g_OPERATIONS := mk_g_OPERATIONS X G g_OPERATIONS lG12, g_NUMBER := ⟨_, PySem.W.mg_of X G g_NUMBER⟩, g_WIRE := ⟨_, PySem.W.mg_of X G g_WIRE⟩, g_RIM := ⟨_, PySem.W.mg_of X G g_RIM⟩, g_PLACE := ⟨_, PySem.W.mg_of X G g_PLACE⟩, g_RESERVED_tokens := mk_g_RESERVED_tokens X G g_RESERVED_tokens lG17, g_SMALL := ⟨_, PySem.W.mg_of X G g_SMALL⟩, g_ONE := mk_g_ONE X G g_ONE lG19 lG19_1, g_MOST_DEEP := ⟨_, PySem.W.mg_of X G g_MOST_DEEP⟩, g_CALLS := mk_g_CALLS X G g_CALLS lG21, g_MOST_DIGITS := ⟨_, PySem.W.mg_of X G g_MOST_DIGITS⟩, g_DIGITS := ⟨_, PySem.W.mg_of X G g_DIGITS⟩, g_MOST_SIGNS_tokens := ⟨_, PySem.W.mg_of X G g_MOST_SIGNS_tokens⟩, g_SIGNS_tokens := mk_g_SIGNS_tokens X G g_SIGNS_tokens lG25, g_ZERO := mk_g_ZERO X G g_ZERO lG26 lG26_1, g_MOST_LEAVES := ⟨_, PySem.W.mg_of X G g_MOST_LEAVES⟩, k_MAKINGS := mk_k_MAKINGS X G aK_MAKINGS lK_MAKINGS kK_MAKINGS sK_MAKINGS nK_MAKINGS_0, k_JOINING := mk_k_JOINING X G aK_JOINING lK_JOINING kK_JOINING sK_JOINING yK_JOINING_0 nK_JOINING_0 nK_JOINING_1 nK_JOINING_2 nK_JOINING_3, f_Hand_at := ⟨C_Hand, PySem.W.mg_of X G aC_Hand, ⟨pg_Hand, hd_Hand, po_Hand, sa_Hand⟩, nf_Hand_at⟩, f_Hand_deep := ⟨C_Hand, PySem.W.mg_of X G aC_Hand, ⟨pg_Hand, hd_Hand, po_Hand, sa_Hand⟩, nf_Hand_deep⟩, f_Hand_leaves := ⟨C_Hand, PySem.W.mg_of X G aC_Hand, ⟨pg_Hand, hd_Hand, po_Hand, sa_Hand⟩, nf_Hand_leaves⟩, f_Hand_place := ⟨C_Hand, PySem.W.mg_of X G aC_Hand, ⟨pg_Hand, hd_Hand, po_Hand, sa_Hand⟩, nf_Hand_place⟩, f_Hand_tokens := ⟨C_Hand, PySem.W.mg_of X G aC_Hand, ⟨pg_Hand, hd_Hand, po_Hand, sa_Hand⟩, nf_Hand_tokens⟩, f_Lines_at := ⟨C_Lines, PySem.W.mg_of X G aC_Lines, ⟨pg_Lines, hd_Lines, po_Lines, sa_Lines⟩, nf_Lines_at⟩, f_Lines_lines := ⟨C_Lines, PySem.W.mg_of X G aC_Lines, ⟨pg_Lines, hd_Lines, po_Lines, sa_Lines⟩, nf_Lines_lines⟩, f_Rows_names := ⟨C_Rows, PySem.W.mg_of X G aC_Rows, ⟨pg_Rows, hd_Rows, po_Rows, sa_Rows⟩, nf_Rows_names⟩, f_Rows_places := ⟨C_Rows, PySem.W.mg_of X G aC_Rows, ⟨pg_Rows, hd_Rows, po_Rows, sa_Rows⟩, nf_Rows_places⟩, f_Rows_units := ⟨C_Rows, PySem.W.mg_of X G aC_Rows, ⟨pg_Rows, hd_Rows, po_Rows, sa_Rows⟩, nf_Rows_units⟩, f_Rows_wide := ⟨C_Rows, PySem.W.mg_of X G aC_Rows, ⟨pg_Rows, hd_Rows, po_Rows, sa_Rows⟩, nf_Rows_wide⟩, f_Sums_ins := ⟨C_Sums, PySem.W.mg_of X G aC_Sums, ⟨pg_Sums, hd_Sums, po_Sums, sa_Sums⟩, nf_Sums_ins⟩, f_Sums_kind := ⟨C_Sums, PySem.W.mg_of X G aC_Sums, ⟨pg_Sums, hd_Sums, po_Sums, sa_Sums⟩, nf_Sums_kind⟩ }
  have W : Ds K mg := { d__law_start := mk_d__law_start X G a1_0 l1 c1 k1, d__law_array := mk_d__law_array X G a2_0 l2 c2 k2, d__law_lines := mk_d__law_lines X G a3_0 l3 c3 k3, d__law_wide_lines := mk_d__law_wide_lines X G a4_0 l4 c4 k4, d__law_deep := mk_d__law_deep X G a5_0 l5 c5 k5, d_is_array_arrays := mk_d_is_array_arrays X G a6_0 l6 c6 k6, d__law_spoilt_heads := mk_d__law_spoilt_heads X G a7_0 l7 c7 k7, d__law_spoilt_rows := mk_d__law_spoilt_rows X G a8_0 l8 c8 k8, d__law_spoilt_outs := mk_d__law_spoilt_outs X G a9_0 l9 c9 k9, d__law_one_of := mk_d__law_one_of X G a10_0 l10 c10 k10, d_read_array := mk_d_read_array X G a11_0 l11 c11 k11, d_is_head := mk_d_is_head X G a12_0 l12 c12 k12, d_is_tuple := mk_d_is_tuple X G a13_0 l13 c13 k13, d_is_word := mk_d_is_word X G a14_0 l14 c14 k14, n_Rows_init := mk_n_Rows_init X G aC_Rows mk_Rows kc_Rows a15 i15 l15 c15 k15, m_Rows_is_row_0 := mk_m_Rows_is_row_0 X G aC_Rows ⟨pg_Rows, hd_Rows, po_Rows, sa_Rows⟩ a16 i16 l16 c16 k16, d_are_together := mk_d_are_together X G a17_0 l17 c17 k17, d_is_out := mk_d_is_out X G a18_0 l18 c18 k18, d_units_of := mk_d_units_of X G a19_0 l19 c19 k19, d__law_draw := mk_d__law_draw X G a20_0 l20 c20 k20, n_Lines_init := mk_n_Lines_init X G aC_Lines mk_Lines kc_Lines a21 i21 l21 c21 k21, d_read_head := mk_d_read_head X G a22_0 l22 c22 k22, d_read_frame := mk_d_read_frame X G a23_0 l23 c23 k23, m_Hand_next_0 := mk_m_Hand_next_0 X G aC_Hand ⟨pg_Hand, hd_Hand, po_Hand, sa_Hand⟩ a24 i24 l24 c24 k24 lD24, m_Hand_next_1 := mk_m_Hand_next_1 X G aC_Hand ⟨pg_Hand, hd_Hand, po_Hand, sa_Hand⟩ a24 i24 l24 c24 k24 lD24, d_row_of := mk_d_row_of X G a25_0 l25 c25 k25, m_Lines_ahead_0 := mk_m_Lines_ahead_0 X G aC_Lines ⟨pg_Lines, hd_Lines, po_Lines, sa_Lines⟩ a26 i26 l26 c26 k26, d_read_block := mk_d_read_block X G a27_0 l27 c27 k27, d_read_makings := mk_d_read_makings X G a28_0 l28 c28 k28, m_Lines_finish_0 := mk_m_Lines_finish_0 X G aC_Lines ⟨pg_Lines, hd_Lines, po_Lines, sa_Lines⟩ a29 i29 l29 c29 k29, d_is_set := mk_d_is_set X G a30_0 l30 c30 k30, d_are_words := mk_d_are_words X G a31_0 l31 c31 k31, d_is_array_sheets := mk_d_is_array_sheets X G a32_0 l32 c32 k32, d_is_box := mk_d_is_box X G a33_0 l33 c33 k33, d_cell_names := mk_d_cell_names X G a34_0 l34 c34 k34, d_is_condition := mk_d_is_condition X G a35_0 l35 c35 k35, m_Rows_is_expression_0 := mk_m_Rows_is_expression_0 X G aC_Rows ⟨pg_Rows, hd_Rows, po_Rows, sa_Rows⟩ a36 i36 l36 c36 k36, d_is_piece := mk_d_is_piece X G a37_0 l37 c37 k37, m_Hand_must_0 := mk_m_Hand_must_0 X G aC_Hand ⟨pg_Hand, hd_Hand, po_Hand, sa_Hand⟩ a38 i38 l38 c38 k38, m_Hand_name_0 := mk_m_Hand_name_0 X G aC_Hand ⟨pg_Hand, hd_Hand, po_Hand, sa_Hand⟩ a39 i39 l39 c39 k39, m_Hand_names_0 := mk_m_Hand_names_0 X G aC_Hand ⟨pg_Hand, hd_Hand, po_Hand, sa_Hand⟩ a40 i40 l40 c40 k40, m_Hand_end_0 := mk_m_Hand_end_0 X G aC_Hand ⟨pg_Hand, hd_Hand, po_Hand, sa_Hand⟩ a41 i41 l41 c41 k41, m_Hand_go_0 := mk_m_Hand_go_0 X G aC_Hand ⟨pg_Hand, hd_Hand, po_Hand, sa_Hand⟩ a42 i42 l42 c42 k42, d_condition_of := mk_d_condition_of X G a43_0 l43 c43 k43, m_Hand_boxed_0 := mk_m_Hand_boxed_0 X G aC_Hand ⟨pg_Hand, hd_Hand, po_Hand, sa_Hand⟩ a44 i44 l44 c44 k44, d_form_line := mk_d_form_line X G a45_0 l45 c45 k45, m_Hand_row_0 := mk_m_Hand_row_0 X G aC_Hand ⟨pg_Hand, hd_Hand, po_Hand, sa_Hand⟩ a46 i46 l46 c46 k46, m_Hand_bad_0 := mk_m_Hand_bad_0 X G aC_Hand ⟨pg_Hand, hd_Hand, po_Hand, sa_Hand⟩ a47 i47 l47 c47 k47, m_Sums_sum_of_0 := mk_m_Sums_sum_of_0 X G aC_Sums ⟨pg_Sums, hd_Sums, po_Sums, sa_Sums⟩ a48 i48 l48 c48 k48, n_Sums_init := mk_n_Sums_init X G aC_Sums mk_Sums kc_Sums a49 i49 l49 c49 k49, m_Hand_may_0 := mk_m_Hand_may_0 X G aC_Hand ⟨pg_Hand, hd_Hand, po_Hand, sa_Hand⟩ a50 i50 l50 c50 k50, d_guard_of := mk_d_guard_of X G a51_0 l51 c51 k51, m_Lines_more_0 := mk_m_Lines_more_0 X G aC_Lines ⟨pg_Lines, hd_Lines, po_Lines, sa_Lines⟩ a52 i52 l52 c52 k52, d_told_of := mk_d_told_of X G a53_0 l53 c53 k53, d_is_form := mk_d_is_form X G a54_0 l54 c54 k54, d_are_forms := mk_d_are_forms X G a55_0 l55 c55 k55, d_place_names := mk_d_place_names X G a56_0 l56 c56 k56, d_is_integer := mk_d_is_integer X G a57_0 l57 c57 k57, d_is_wire := mk_d_is_wire X G a58_0 l58 c58 k58, d_is_rim := mk_d_is_rim X G a59_0 l59 c59 k59, d_is_name_tokens := mk_d_is_name_tokens X G a60_0 l60 c60 k60, d_compared := mk_d_compared X G a61_0 l61 c61 k61, m_Hand_opened_0 := mk_m_Hand_opened_0 X G aC_Hand ⟨pg_Hand, hd_Hand, po_Hand, sa_Hand⟩ a62 i62 l62 c62 k62, m_Hand_shut_0 := mk_m_Hand_shut_0 X G aC_Hand ⟨pg_Hand, hd_Hand, po_Hand, sa_Hand⟩ a63 i63 l63 c63 k63, d_form_of := mk_d_form_of X G a64_0 l64 c64 k64, d_named := mk_d_named X G a65_0 l65 c65 k65, d_pair_of := mk_d_pair_of X G a66_0 l66 c66 k66, d_signed_of := mk_d_signed_of X G a67_0 l67 c67 k67, d_share_of := mk_d_share_of X G a68_0 l68 c68 k68, m_Sums_term_of_0 := mk_m_Sums_term_of_0 X G aC_Sums ⟨pg_Sums, hd_Sums, po_Sums, sa_Sums⟩ a69 i69 l69 c69 k69, d_test_of := mk_d_test_of X G a70_0 l70 c70 k70, d_split_line := mk_d_split_line X G a71_0 l71 c71 k71, n_Hand_init := mk_n_Hand_init X G aC_Hand mk_Hand kc_Hand a72 i72 l72 c72 k72, d_forms_of := mk_d_forms_of X G a73_0 l73 c73 k73, d_read_when := mk_d_read_when X G a74_0 l74 c74 k74, d_is_name_forms := mk_d_is_name_forms X G a75_0 l75 c75 k75, d_are_integers := mk_d_are_integers X G a76_0 l76 c76 k76, d_minus := mk_d_minus X G a77_0 l77 c77 k77, d_part := mk_d_part X G a78_0 l78 c78 k78, d_form := mk_d_form X G a79_0 l79 c79 k79, m_Hand_signed_0 := mk_m_Hand_signed_0 X G aC_Hand ⟨pg_Hand, hd_Hand, po_Hand, sa_Hand⟩ a80 i80 l80 c80 k80, m_Hand_number_0 := mk_m_Hand_number_0 X G aC_Hand ⟨pg_Hand, hd_Hand, po_Hand, sa_Hand⟩ a81 i81 l81 c81 k81, m_Sums_factor_of_0 := mk_m_Sums_factor_of_0 X G aC_Sums ⟨pg_Sums, hd_Sums, po_Sums, sa_Sums⟩ a82 i82 l82 c82 k82, d_is_number := mk_d_is_number X G a83_0 l83 c83 k83, d_head_of := mk_d_head_of X G a84_0 l84 c84 k84, d_plus := mk_d_plus X G a85_0 l85 c85 k85, d_times := mk_d_times X G a86_0 l86 c86 k86, m_Sums_bracket_of_0 := mk_m_Sums_bracket_of_0 X G aC_Sums ⟨pg_Sums, hd_Sums, po_Sums, sa_Sums⟩ a87 i87 l87 c87 k87, m_Sums_call_of_0 := mk_m_Sums_call_of_0 X G aC_Sums ⟨pg_Sums, hd_Sums, po_Sums, sa_Sums⟩ a88 i88 l88 c88 k88, m_Hand_leaf_0 := mk_m_Hand_leaf_0 X G aC_Hand ⟨pg_Hand, hd_Hand, po_Hand, sa_Hand⟩ a89 i89 l89 c89 k89, d_wire_of := mk_d_wire_of X G a90_0 l90 c90 k90, m_Sums_word_of_0 := mk_m_Sums_word_of_0 X G aC_Sums ⟨pg_Sums, hd_Sums, po_Sums, sa_Sums⟩ a91 i91 l91 c91 k91, d_run_length := mk_d_run_length X G a92_0 l92 c92 k92 }
  exact ⟨fd, bL, fun base _ _ => law_fn rfl law_yes fun a ns => fn_law B W FL⟩
end L36

open PySem PySem.W PyProof.Rows
set_option maxHeartbeats 0 in
theorem PySem.Challenge.cw_cellsinstep_k36_what_is_an_array_holds : PySem.Challenge.rw_cellsinstep_k36_what_is_an_array.Holds := by
  w_on; o_law; k_head; (case hw => w_witness2)
  k_fill
  refine L2.walk_of (l := PySem.Challenge.rw_cellsinstep_k36_what_is_an_array) (n := 63) (k := 37) (x := "script") (CX := fun _ => L2.CX0) (sp := fun w => PL.spLaw _) rfl (by decide) rfl ⟨rfl, by decide, by decide⟩ (fun w h Y => PySem.W.kIn_of Y) ?F (fun _ _ a ns hl _ hS => ⟨a, ns, rfl, hS, hl, fun _ => rfl⟩) (fun _ _ _ _ _ h => h)
  case F =>
    intro w mg fa h KX G hmg
    refine' L36.all_mk KX G hmg ?aC_Rows ?pg_Rows ?hd_Rows ?po_Rows ?sa_Rows ?mk_Rows ?kc_Rows ?aC_Hand ?pg_Hand ?hd_Hand ?po_Hand ?sa_Hand ?mk_Hand ?kc_Hand ?aC_Lines ?pg_Lines ?hd_Lines ?po_Lines ?sa_Lines ?mk_Lines ?kc_Lines ?aC_Sums ?pg_Sums ?hd_Sums ?po_Sums ?sa_Sums ?mk_Sums ?kc_Sums ?nf_Hand_at ?nf_Hand_deep ?nf_Hand_leaves ?nf_Hand_place ?nf_Hand_tokens ?nf_Lines_at ?nf_Lines_lines ?nf_Rows_names ?nf_Rows_places ?nf_Rows_units ?nf_Rows_wide ?nf_Sums_ins ?nf_Sums_kind ?a0_0 ?l0 ?c0 ?k0 ?a1_0 ?l1 ?c1 ?k1 ?a2_0 ?l2 ?c2 ?k2 ?a3_0 ?l3 ?c3 ?k3 ?a4_0 ?l4 ?c4 ?k4 ?a5_0 ?l5 ?c5 ?k5 ?a6_0 ?l6 ?c6 ?k6 ?a7_0 ?l7 ?c7 ?k7 ?a8_0 ?l8 ?c8 ?k8 ?a9_0 ?l9 ?c9 ?k9 ?a10_0 ?l10 ?c10 ?k10 ?a11_0 ?l11 ?c11 ?k11 ?a12_0 ?l12 ?c12 ?k12 ?a13_0 ?l13 ?c13 ?k13 ?a14_0 ?l14 ?c14 ?k14 ?a15 ?l15 ?c15 ?k15 ?i15 ?a16 ?l16 ?c16 ?k16 ?i16 ?a17_0 ?l17 ?c17 ?k17 ?a18_0 ?l18 ?c18 ?k18 ?a19_0 ?l19 ?c19 ?k19 ?a20_0 ?l20 ?c20 ?k20 ?a21 ?l21 ?c21 ?k21 ?i21 ?a22_0 ?l22 ?c22 ?k22 ?a23_0 ?l23 ?c23 ?k23 ?a24 ?l24 ?c24 ?k24 ?i24 ?lD24 ?a25_0 ?l25 ?c25 ?k25 ?a26 ?l26 ?c26 ?k26 ?i26 ?a27_0 ?l27 ?c27 ?k27 ?a28_0 ?l28 ?c28 ?k28 ?a29 ?l29 ?c29 ?k29 ?i29 ?a30_0 ?l30 ?c30 ?k30 ?a31_0 ?l31 ?c31 ?k31 ?a32_0 ?l32 ?c32 ?k32 ?a33_0 ?l33 ?c33 ?k33 ?a34_0 ?l34 ?c34 ?k34 ?a35_0 ?l35 ?c35 ?k35 ?a36 ?l36 ?c36 ?k36 ?i36 ?a37_0 ?l37 ?c37 ?k37 ?a38 ?l38 ?c38 ?k38 ?i38 ?a39 ?l39 ?c39 ?k39 ?i39 ?a40 ?l40 ?c40 ?k40 ?i40 ?a41 ?l41 ?c41 ?k41 ?i41 ?a42 ?l42 ?c42 ?k42 ?i42 ?a43_0 ?l43 ?c43 ?k43 ?a44 ?l44 ?c44 ?k44 ?i44 ?a45_0 ?l45 ?c45 ?k45 ?a46 ?l46 ?c46 ?k46 ?i46 ?a47 ?l47 ?c47 ?k47 ?i47 ?a48 ?l48 ?c48 ?k48 ?i48 ?a49 ?l49 ?c49 ?k49 ?i49 ?a50 ?l50 ?c50 ?k50 ?i50 ?a51_0 ?l51 ?c51 ?k51 ?a52 ?l52 ?c52 ?k52 ?i52 ?a53_0 ?l53 ?c53 ?k53 ?a54_0 ?l54 ?c54 ?k54 ?a55_0 ?l55 ?c55 ?k55 ?a56_0 ?l56 ?c56 ?k56 ?a57_0 ?l57 ?c57 ?k57 ?a58_0 ?l58 ?c58 ?k58 ?a59_0 ?l59 ?c59 ?k59 ?a60_0 ?l60 ?c60 ?k60 ?a61_0 ?l61 ?c61 ?k61 ?a62 ?l62 ?c62 ?k62 ?i62 ?a63 ?l63 ?c63 ?k63 ?i63 ?a64_0 ?l64 ?c64 ?k64 ?a65_0 ?l65 ?c65 ?k65 ?a66_0 ?l66 ?c66 ?k66 ?a67_0 ?l67 ?c67 ?k67 ?a68_0 ?l68 ?c68 ?k68 ?a69 ?l69 ?c69 ?k69 ?i69 ?a70_0 ?l70 ?c70 ?k70 ?a71_0 ?l71 ?c71 ?k71 ?a72 ?l72 ?c72 ?k72 ?i72 ?a73_0 ?l73 ?c73 ?k73 ?a74_0 ?l74 ?c74 ?k74 ?a75_0 ?l75 ?c75 ?k75 ?a76_0 ?l76 ?c76 ?k76 ?a77_0 ?l77 ?c77 ?k77 ?a78_0 ?l78 ?c78 ?k78 ?a79_0 ?l79 ?c79 ?k79 ?a80 ?l80 ?c80 ?k80 ?i80 ?a81 ?l81 ?c81 ?k81 ?i81 ?a82 ?l82 ?c82 ?k82 ?i82 ?a83_0 ?l83 ?c83 ?k83 ?a84_0 ?l84 ?c84 ?k84 ?a85_0 ?l85 ?c85 ?k85 ?a86_0 ?l86 ?c86 ?k86 ?a87 ?l87 ?c87 ?k87 ?i87 ?a88 ?l88 ?c88 ?k88 ?i88 ?a89 ?l89 ?c89 ?k89 ?i89 ?a90_0 ?l90 ?c90 ?k90 ?a91 ?l91 ?c91 ?k91 ?i91 ?a92_0 ?l92 ?c92 ?k92 ?z_abs ?z_all ?z_any ?z_bool ?z_dict ?z_int ?z_isinstance ?z_len ?z_list ?z_range ?z_set ?z_sorted ?z_str ?z_tuple ?g_MOST_SIZES ?g_LETTERS ?g_MOST_SIGNS_forms ?g_SIGNS_forms ?g_DEEP ?g_MOST_INDEXES ?g_ARRAY ?g_RESERVED_sheets ?lG7 ?g_MOST_PLACES ?g_BEAT ?g_LEAST ?g_DIVIDES ?g_OPERATIONS ?lG12 ?g_NUMBER ?g_WIRE ?g_RIM ?g_PLACE ?g_RESERVED_tokens ?lG17 ?g_SMALL ?g_ONE ?lG19 ?lG19_1 ?g_MOST_DEEP ?g_CALLS ?lG21 ?g_MOST_DIGITS ?g_DIGITS ?g_MOST_SIGNS_tokens ?g_SIGNS_tokens ?lG25 ?g_ZERO ?lG26 ?lG26_1 ?g_MOST_LEAVES ?aK_MAKINGS ?lK_MAKINGS ?kK_MAKINGS ?sK_MAKINGS ?nK_MAKINGS_0 ?aK_JOINING ?lK_JOINING ?kK_JOINING ?sK_JOINING ?yK_JOINING_0 ?nK_JOINING_0 ?nK_JOINING_1 ?nK_JOINING_2 ?nK_JOINING_3
    (case aC_Rows => k_is)
    (case pg_Rows => k_is)
    (case hd_Rows => k_is)
    (case po_Rows => k_is)
    (case sa_Rows => k_is)
    (case mk_Rows => k_is)
    (case kc_Rows => k_is)
    (case aC_Hand => k_is)
    (case pg_Hand => k_is)
    (case hd_Hand => k_is)
    (case po_Hand => k_is)
    (case sa_Hand => k_is)
    (case mk_Hand => k_is)
    (case kc_Hand => k_is)
    (case aC_Lines => k_is)
    (case pg_Lines => k_is)
    (case hd_Lines => k_is)
    (case po_Lines => k_is)
    (case sa_Lines => k_is)
    (case mk_Lines => k_is)
    (case kc_Lines => k_is)
    (case aC_Sums => k_is)
    (case pg_Sums => k_is)
    (case hd_Sums => k_is)
    (case po_Sums => k_is)
    (case sa_Sums => k_is)
    (case mk_Sums => k_is)
    (case kc_Sums => k_is)
    (case nf_Hand_at => k_is)
    (case nf_Hand_deep => k_is)
    (case nf_Hand_leaves => k_is)
    (case nf_Hand_place => k_is)
    (case nf_Hand_tokens => k_is)
    (case nf_Lines_at => k_is)
    (case nf_Lines_lines => k_is)
    (case nf_Rows_names => k_is)
    (case nf_Rows_places => k_is)
    (case nf_Rows_units => k_is)
    (case nf_Rows_wide => k_is)
    (case nf_Sums_ins => k_is)
    (case nf_Sums_kind => k_is)
    (case a0_0 => k_is)
    (case l0 => k_is)
    (case c0 => k_is)
    (case k0 => k_is)
    (case a1_0 => k_is)
    (case l1 => k_is)
    (case c1 => k_is)
    (case k1 => k_is)
    (case a2_0 => k_is)
    (case l2 => k_is)
    (case c2 => k_is)
    (case k2 => k_is)
    (case a3_0 => k_is)
    (case l3 => k_is)
    (case c3 => k_is)
    (case k3 => k_is)
    (case a4_0 => k_is)
    (case l4 => k_is)
    (case c4 => k_is)
    (case k4 => k_is)
    (case a5_0 => k_is)
    (case l5 => k_is)
    (case c5 => k_is)
    (case k5 => k_is)
    (case a6_0 => k_is)
    (case l6 => k_is)
    (case c6 => k_is)
    (case k6 => k_is)
    (case a7_0 => k_is)
    (case l7 => k_is)
    (case c7 => k_is)
    (case k7 => k_is)
    (case a8_0 => k_is)
    (case l8 => k_is)
    (case c8 => k_is)
    (case k8 => k_is)
    (case a9_0 => k_is)
    (case l9 => k_is)
    (case c9 => k_is)
    (case k9 => k_is)
    (case a10_0 => k_is)
    (case l10 => k_is)
    (case c10 => k_is)
    (case k10 => k_is)
    (case a11_0 => k_is)
    (case l11 => k_is)
    (case c11 => k_is)
    (case k11 => k_is)
    (case a12_0 => k_is)
    (case l12 => k_is)
    (case c12 => k_is)
    (case k12 => k_is)
    (case a13_0 => k_is)
    (case l13 => k_is)
    (case c13 => k_is)
    (case k13 => k_is)
    (case a14_0 => k_is)
    (case l14 => k_is)
    (case c14 => k_is)
    (case k14 => k_is)
    (case a15 => k_is)
    (case l15 => k_is)
    (case c15 => k_is)
    (case k15 => k_is)
    (case i15 => k_is)
    (case a16 => k_is)
    (case l16 => k_is)
    (case c16 => k_is)
    (case k16 => k_is)
    (case i16 => k_is)
    (case a17_0 => k_is)
    (case l17 => k_is)
    (case c17 => k_is)
    (case k17 => k_is)
    (case a18_0 => k_is)
    (case l18 => k_is)
    (case c18 => k_is)
    (case k18 => k_is)
    (case a19_0 => k_is)
    (case l19 => k_is)
    (case c19 => k_is)
    (case k19 => k_is)
    (case a20_0 => k_is)
    (case l20 => k_is)
    (case c20 => k_is)
    (case k20 => k_is)
    (case a21 => k_is)
    (case l21 => k_is)
    (case c21 => k_is)
    (case k21 => k_is)
    (case i21 => k_is)
    (case a22_0 => k_is)
    (case l22 => k_is)
    (case c22 => k_is)
    (case k22 => k_is)
    (case a23_0 => k_is)
    (case l23 => k_is)
    (case c23 => k_is)
    (case k23 => k_is)
    (case a24 => k_is)
    (case l24 => k_is)
    (case c24 => k_is)
    (case k24 => k_is)
    (case i24 => k_is)
    (case lD24 => k_is)
    (case a25_0 => k_is)
    (case l25 => k_is)
    (case c25 => k_is)
    (case k25 => k_is)
    (case a26 => k_is)
    (case l26 => k_is)
    (case c26 => k_is)
    (case k26 => k_is)
    (case i26 => k_is)
    (case a27_0 => k_is)
    (case l27 => k_is)
    (case c27 => k_is)
    (case k27 => k_is)
    (case a28_0 => k_is)
    (case l28 => k_is)
    (case c28 => k_is)
    (case k28 => k_is)
    (case a29 => k_is)
    (case l29 => k_is)
    (case c29 => k_is)
    (case k29 => k_is)
    (case i29 => k_is)
    (case a30_0 => k_is)
    (case l30 => k_is)
    (case c30 => k_is)
    (case k30 => k_is)
    (case a31_0 => k_is)
    (case l31 => k_is)
    (case c31 => k_is)
    (case k31 => k_is)
    (case a32_0 => k_is)
    (case l32 => k_is)
    (case c32 => k_is)
    (case k32 => k_is)
    (case a33_0 => k_is)
    (case l33 => k_is)
    (case c33 => k_is)
    (case k33 => k_is)
    (case a34_0 => k_is)
    (case l34 => k_is)
    (case c34 => k_is)
    (case k34 => k_is)
    (case a35_0 => k_is)
    (case l35 => k_is)
    (case c35 => k_is)
    (case k35 => k_is)
    (case a36 => k_is)
    (case l36 => k_is)
    (case c36 => k_is)
    (case k36 => k_is)
    (case i36 => k_is)
    (case a37_0 => k_is)
    (case l37 => k_is)
    (case c37 => k_is)
    (case k37 => k_is)
    (case a38 => k_is)
    (case l38 => k_is)
    (case c38 => k_is)
    (case k38 => k_is)
    (case i38 => k_is)
    (case a39 => k_is)
    (case l39 => k_is)
    (case c39 => k_is)
    (case k39 => k_is)
    (case i39 => k_is)
    (case a40 => k_is)
    (case l40 => k_is)
    (case c40 => k_is)
    (case k40 => k_is)
    (case i40 => k_is)
    (case a41 => k_is)
    (case l41 => k_is)
    (case c41 => k_is)
    (case k41 => k_is)
    (case i41 => k_is)
    (case a42 => k_is)
    (case l42 => k_is)
    (case c42 => k_is)
    (case k42 => k_is)
    (case i42 => k_is)
    (case a43_0 => k_is)
    (case l43 => k_is)
    (case c43 => k_is)
    (case k43 => k_is)
    (case a44 => k_is)
    (case l44 => k_is)
    (case c44 => k_is)
    (case k44 => k_is)
    (case i44 => k_is)
    (case a45_0 => k_is)
    (case l45 => k_is)
    (case c45 => k_is)
    (case k45 => k_is)
    (case a46 => k_is)
    (case l46 => k_is)
    (case c46 => k_is)
    (case k46 => k_is)
    (case i46 => k_is)
    (case a47 => k_is)
    (case l47 => k_is)
    (case c47 => k_is)
    (case k47 => k_is)
    (case i47 => k_is)
    (case a48 => k_is)
    (case l48 => k_is)
    (case c48 => k_is)
    (case k48 => k_is)
    (case i48 => k_is)
    (case a49 => k_is)
    (case l49 => k_is)
    (case c49 => k_is)
    (case k49 => k_is)
    (case i49 => k_is)
    (case a50 => k_is)
    (case l50 => k_is)
    (case c50 => k_is)
    (case k50 => k_is)
    (case i50 => k_is)
    (case a51_0 => k_is)
    (case l51 => k_is)
    (case c51 => k_is)
    (case k51 => k_is)
    (case a52 => k_is)
    (case l52 => k_is)
    (case c52 => k_is)
    (case k52 => k_is)
    (case i52 => k_is)
    (case a53_0 => k_is)
    (case l53 => k_is)
    (case c53 => k_is)
    (case k53 => k_is)
    (case a54_0 => k_is)
    (case l54 => k_is)
    (case c54 => k_is)
    (case k54 => k_is)
    (case a55_0 => k_is)
    (case l55 => k_is)
    (case c55 => k_is)
    (case k55 => k_is)
    (case a56_0 => k_is)
    (case l56 => k_is)
    (case c56 => k_is)
    (case k56 => k_is)
    (case a57_0 => k_is)
    (case l57 => k_is)
    (case c57 => k_is)
    (case k57 => k_is)
    (case a58_0 => k_is)
    (case l58 => k_is)
    (case c58 => k_is)
    (case k58 => k_is)
    (case a59_0 => k_is)
    (case l59 => k_is)
    (case c59 => k_is)
    (case k59 => k_is)
    (case a60_0 => k_is)
    (case l60 => k_is)
    (case c60 => k_is)
    (case k60 => k_is)
    (case a61_0 => k_is)
    (case l61 => k_is)
    (case c61 => k_is)
    (case k61 => k_is)
    (case a62 => k_is)
    (case l62 => k_is)
    (case c62 => k_is)
    (case k62 => k_is)
    (case i62 => k_is)
    (case a63 => k_is)
    (case l63 => k_is)
    (case c63 => k_is)
    (case k63 => k_is)
    (case i63 => k_is)
    (case a64_0 => k_is)
    (case l64 => k_is)
    (case c64 => k_is)
    (case k64 => k_is)
    (case a65_0 => k_is)
    (case l65 => k_is)
    (case c65 => k_is)
    (case k65 => k_is)
    (case a66_0 => k_is)
    (case l66 => k_is)
    (case c66 => k_is)
    (case k66 => k_is)
    (case a67_0 => k_is)
    (case l67 => k_is)
    (case c67 => k_is)
    (case k67 => k_is)
    (case a68_0 => k_is)
    (case l68 => k_is)
    (case c68 => k_is)
    (case k68 => k_is)
    (case a69 => k_is)
    (case l69 => k_is)
    (case c69 => k_is)
    (case k69 => k_is)
    (case i69 => k_is)
    (case a70_0 => k_is)
    (case l70 => k_is)
    (case c70 => k_is)
    (case k70 => k_is)
    (case a71_0 => k_is)
    (case l71 => k_is)
    (case c71 => k_is)
    (case k71 => k_is)
    (case a72 => k_is)
    (case l72 => k_is)
    (case c72 => k_is)
    (case k72 => k_is)
    (case i72 => k_is)
    (case a73_0 => k_is)
    (case l73 => k_is)
    (case c73 => k_is)
    (case k73 => k_is)
    (case a74_0 => k_is)
    (case l74 => k_is)
    (case c74 => k_is)
    (case k74 => k_is)
    (case a75_0 => k_is)
    (case l75 => k_is)
    (case c75 => k_is)
    (case k75 => k_is)
    (case a76_0 => k_is)
    (case l76 => k_is)
    (case c76 => k_is)
    (case k76 => k_is)
    (case a77_0 => k_is)
    (case l77 => k_is)
    (case c77 => k_is)
    (case k77 => k_is)
    (case a78_0 => k_is)
    (case l78 => k_is)
    (case c78 => k_is)
    (case k78 => k_is)
    (case a79_0 => k_is)
    (case l79 => k_is)
    (case c79 => k_is)
    (case k79 => k_is)
    (case a80 => k_is)
    (case l80 => k_is)
    (case c80 => k_is)
    (case k80 => k_is)
    (case i80 => k_is)
    (case a81 => k_is)
    (case l81 => k_is)
    (case c81 => k_is)
    (case k81 => k_is)
    (case i81 => k_is)
    (case a82 => k_is)
    (case l82 => k_is)
    (case c82 => k_is)
    (case k82 => k_is)
    (case i82 => k_is)
    (case a83_0 => k_is)
    (case l83 => k_is)
    (case c83 => k_is)
    (case k83 => k_is)
    (case a84_0 => k_is)
    (case l84 => k_is)
    (case c84 => k_is)
    (case k84 => k_is)
    (case a85_0 => k_is)
    (case l85 => k_is)
    (case c85 => k_is)
    (case k85 => k_is)
    (case a86_0 => k_is)
    (case l86 => k_is)
    (case c86 => k_is)
    (case k86 => k_is)
    (case a87 => k_is)
    (case l87 => k_is)
    (case c87 => k_is)
    (case k87 => k_is)
    (case i87 => k_is)
    (case a88 => k_is)
    (case l88 => k_is)
    (case c88 => k_is)
    (case k88 => k_is)
    (case i88 => k_is)
    (case a89 => k_is)
    (case l89 => k_is)
    (case c89 => k_is)
    (case k89 => k_is)
    (case i89 => k_is)
    (case a90_0 => k_is)
    (case l90 => k_is)
    (case c90 => k_is)
    (case k90 => k_is)
    (case a91 => k_is)
    (case l91 => k_is)
    (case c91 => k_is)
    (case k91 => k_is)
    (case i91 => k_is)
    (case a92_0 => k_is)
    (case l92 => k_is)
    (case c92 => k_is)
    (case k92 => k_is)
    (case z_abs => k_is)
    (case z_all => k_is)
    (case z_any => k_is)
    (case z_bool => k_is)
    (case z_dict => k_is)
    (case z_int => k_is)
    (case z_isinstance => k_is)
    (case z_len => k_is)
    (case z_list => k_is)
    (case z_range => k_is)
    (case z_set => k_is)
    (case z_sorted => k_is)
    (case z_str => k_is)
    (case z_tuple => k_is)
    (case g_MOST_SIZES => k_is)
    (case g_LETTERS => k_is)
    (case g_MOST_SIGNS_forms => k_is)
    (case g_SIGNS_forms => k_is)
    (case g_DEEP => k_is)
    (case g_MOST_INDEXES => k_is)
    (case g_ARRAY => k_is)
    (case g_RESERVED_sheets => k_is)
    (case lG7 => k_is)
    (case g_MOST_PLACES => k_is)
    (case g_BEAT => k_is)
    (case g_LEAST => k_is)
    (case g_DIVIDES => k_is)
    (case g_OPERATIONS => k_is)
    (case lG12 => k_is)
    (case g_NUMBER => k_is)
    (case g_WIRE => k_is)
    (case g_RIM => k_is)
    (case g_PLACE => k_is)
    (case g_RESERVED_tokens => k_is)
    (case lG17 => k_is)
    (case g_SMALL => k_is)
    (case g_ONE => k_is)
    (case lG19 => k_is)
    (case lG19_1 => k_is)
    (case g_MOST_DEEP => k_is)
    (case g_CALLS => k_is)
    (case lG21 => k_is)
    (case g_MOST_DIGITS => k_is)
    (case g_DIGITS => k_is)
    (case g_MOST_SIGNS_tokens => k_is)
    (case g_SIGNS_tokens => k_is)
    (case lG25 => k_is)
    (case g_ZERO => k_is)
    (case lG26 => k_is)
    (case lG26_1 => k_is)
    (case g_MOST_LEAVES => k_is)
    (case aK_MAKINGS => k_is)
    (case lK_MAKINGS => k_is)
    (case kK_MAKINGS => k_keys)
    (case sK_MAKINGS => decide)
    (case nK_MAKINGS_0 => k_is)
    (case aK_JOINING => k_is)
    (case lK_JOINING => k_is)
    (case kK_JOINING => k_keys)
    (case sK_JOINING => decide)
    (case yK_JOINING_0 => k_is)
    (case nK_JOINING_0 => k_is)
    (case nK_JOINING_1 => k_is)
    (case nK_JOINING_2 => k_is)
    (case nK_JOINING_3 => k_is)
