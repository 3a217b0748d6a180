import PyProof.Rows.All
import Wide.All
import Wide.FinOn
import OpenK.AllK
import Open.Tops
import Lean
import PySem.Challenge.RW_tn0014_01
set_option Elab.async false
set_option maxRecDepth 100000
set_option maxHeartbeats 4000000
set_option linter.all false
set_option genSizeOfSpec false
noncomputable section
section
namespace Mine
open PySem PySem.W PyProof.Rows PySem.Calls
section
structure AZ where
 a : Int
 b : Int
 l : Option (List Int)
 deriving DecidableEq
section
variable (prog : Program) (w : World)
noncomputable def bC (h : Heap) (k : AZ) (vs : List Value) : Prop := match k.l with
 | none => ∃ t u, vs = [.int k.a t, .int k.b u]
 | some l => ∃ t u c, vs = [.int k.a t, .int k.b u, .ref c] /\ IsTupleKey (intKind prog w) h l c
noncomputable def FR (h : Heap) (k : AZ) (a : Addr) : Prop := ∃ o vs n, h.get? a = some o /\ o.cls = .type "tuple" /\ o.data = .seq vs n /\ bC prog w h k vs.toList
noncomputable def Sw (k : AZ) : Int := match k.l with
 | none => reduceHash (Builtin.Tuple.tupleHashOf [hashInt k.a, hashInt k.b])
 | some l => reduceHash (Builtin.Tuple.tupleHashOf [hashInt k.a, hashInt k.b, tupleKeyHash (intKind prog w) l])
noncomputable def O5 (k : AZ) : Nat := match k.l with
 | none => 3
 | some l => l.length + 4
end
section
variable {prog : Program} {w : World} {h h' : Heap} {A : Around} {E : Value -> Shared -> Prop} {s : Shared}
theorem IsTupleKey.off {K : Type} [DecidableEq K] {knd : KeyKind prog w K} {l : List K} {a : Addr} (x : IsTupleKey knd h l a) (k : h'.get? a = h.get? a) : IsTupleKey knd h' l a := by
 obtain ⟨o, i, n, e, r⟩ := x; exact ⟨o, i, n, k.trans e, r⟩
theorem FR.inj {a : Addr} {x y : AZ} (hx : FR prog w h x a) (hy : FR prog w h y a) : x = y := by
 obtain ⟨o, vs, n, e, _, d, r⟩ := hx
 obtain ⟨o', vs', n', e', _, d', r'⟩ := hy
 obtain rfl : o = o' := Option.some.inj (e.symm.trans e')
 rw [d] at d'
 injection d' with d1 _
 subst d1
 obtain ⟨xa, xb, xl⟩ := x
 obtain ⟨ya, yb, yl⟩ := y
 cases xl <;> cases yl <;> simp only [bC] at r r'
 ·obtain ⟨t, u, q⟩ := r; obtain ⟨t', u', q'⟩ := r'; rw [q] at q'; simp at q'; simp [q']
 ·obtain ⟨t, u, q⟩ := r; obtain ⟨t', u', c, q', _⟩ := r'; rw [q] at q'; simp at q'
 ·obtain ⟨t, u, c, q, _⟩ := r; obtain ⟨t', u', q'⟩ := r'; rw [q] at q'; simp at q'
 ·obtain ⟨t, u, c, q, z⟩ := r
  obtain ⟨t', u', c', q', z'⟩ := r'
  rw [q] at q'; simp at q'
  obtain ⟨⟨q1, _⟩, ⟨q2, _⟩, q3⟩ := q'
  subst q3
  rw [z.inj z', q1, q2]
theorem FR.typeIs {k : AZ} {a : Addr} (x : FR prog w s.heap k a) : s.TypeIs (.ref a) "tuple" := let ⟨o, _, _, ho, hc, _⟩ := x; ⟨o, ho, hc⟩
theorem FR.keeps {k : AZ} {a d : Addr} {o : Obj} {es ep} (x : FR prog w h k a) (ho : h.get? d = some o) (hd : o.data = .dict es ep) (hs : Heap.SameBut d h h') : FR prog w h' k a := by
 obtain ⟨o', items, n, ho', hc, hd', hi⟩ := x
 have hne : a ≠ d := by
  rintro rfl
  obtain rfl : o' = o := Option.some.inj (ho'.symm.trans ho)
  rw [hd] at hd'; exact nomatch hd'
 refine ⟨o', items, n, (hs.2 a hne).trans ho', hc, hd', ?_⟩
 obtain ⟨ka, kb, kl⟩ := k
 cases kl with
 | none => exact hi
 | some l => obtain ⟨t, u, c, q, z⟩ := hi; exact ⟨t, u, c, q, z.keeps ho hd hs⟩
theorem mA {i : Int} {t : Tok} {Q : Int -> Shared -> Prop} (h : Q (hashInt i) { s with toks := s.toks + 1 }) : wpAny (model prog w) A (pyHash (.int i t)) Q E s := wpAny_pyHash_int h
noncomputable def YI (prog : Program) (w : World) (A : Around) (h : Heap) (v : Value) (i : Int) (d : Nat) : Prop :=
 ∀ (E : Value -> Shared -> Prop) (Q : Int -> Shared -> Prop) (s : Shared), s.heap = h -> Q i { s with toks := s.toks + d } -> wpAny (model prog w) A (pyHash v) Q E s
inductive KJ (prog : Program) (w : World) (A : Around) (h : Heap) : List Value -> List Int -> Nat -> Prop
 | nil : KJ prog w A h [] [] 0
 | cons {v : Value} {i : Int} {d : Nat} {vs : List Value} {is : List Int} {n : Nat} : YI prog w A h v i d -> KJ prog w A h vs is n -> KJ prog w A h (v :: vs) (i :: is) (d + n)
theorem La {a : Addr} {o : Obj} {items : Array Value} {n m : Nat} {is : List Int} {Q : Int -> Shared -> Prop} (hu : A.units < cLine) (ho : s.heap.get? a = some o) (hc : o.cls = .type "tuple") (hd : o.data = .seq items n)
  (hs : KJ prog w A.in1 s.heap items.toList is m) (h : Q (reduceHash (Builtin.Tuple.tupleHashOf is)) { s with toks := s.toks + (m + 1) }) : wpAny (model prog w) A (pyHash (.ref a)) Q E s := by
 have hT : s.TypeIs (.ref a) "tuple" := ⟨o, ho, hc⟩
 unfold pyHash
 unfold pyHashByItsType
 refine wpAny_bind (wpAny_cRoomFor_or (.inr hu) ?_)
 refine wpAny_bind (wpAny_specialOf hT F.slot_tuple_hash.lookup ?_)
 show wpAny _ _ (if (some (Value.builtin "tuple.__hash__") == some Value.none) = true then _ else _) Q E s
 rw [if_neg (by rw [beq_builtin_none]; exact Bool.false_ne_true)]
 refine wpAny_bind (wpAny_specialOf hT F.slot_tuple_hash.lookup ?_)
 show wpAny _ _ (callSpecialIfBoundUnlessNone? (.ref a) "__hash__" _ >>= _) Q E s
 refine wpAny_bind (wpAny_callSpecialIfBoundUnlessNone?_slot hT F.slot_tuple_hash (wpAny_call_entry F.slot_tuple_hash hT F.entry_tuple_hash ?_ (F.args_tuple_hash_1 _)))
 show wpAny _ _ (Builtin.Tuple.tupleItemsOf (.ref a) >>= _) _ _ s
 refine wpAny_bind (wpAny_tupleItemsOf ho hd ?_)
 refine wpAny_bind ?_
 rw [<- Array.forIn_toList]
 refine wpAny_forIn_list _
  (fun rest (b : Array Int) s' => ∃ done left k j, is = done ++ left /\ m = k + j /\ KJ prog w A.in1 s.heap rest left j /\ b.toList = done /\ s' = { s with toks := s.toks + k })
  _ ?_ ?_ _ _ ⟨[], is, 0, m, rfl, (Nat.zero_add _).symm, hs, rfl, rfl⟩
 ·rintro x rest b s' ⟨done, left, k, j, e1, e2, hl, hb, rfl⟩
  cases hl with
  | @cons _ i d _ is' n' h1 hl' =>
   refine wpAny_bind (h1 _ _ _ rfl ?_)
   first
    | exact wpAny_pure ⟨done ++ [i], is', k + d, n', by simp [e1], by omega, hl', by simp [hb], by simp [Nat.add_assoc]⟩
    | exact wpAny_bind (wpAny_pure (wpAny_pure ⟨done ++ [i], is', k + d, n', by simp [e1], by omega, hl', by simp [hb], by simp [Nat.add_assoc]⟩))
 ·rintro b s' ⟨done, left, k, j, e1, e2, hl, hb, rfl⟩
  cases hl
  rw [List.append_nil] at e1
  rw [Nat.add_zero] at e2
  subst e1 e2
  show wpAny _ _ (retInt (Builtin.Tuple.tupleHashOf b.toList)) _ _ _
  rw [hb]
  refine wpAny_ret_mkInt ?_
  show wpAny _ _ (if (decide (-(2 : Int) ^ 63 <= Builtin.Tuple.tupleHashOf is) && decide (Builtin.Tuple.tupleHashOf is < 2 ^ 63)) = true then _ else _) Q E _
  unfold reduceHash at h
  by_cases hr : (decide (-(2 : Int) ^ 63 <= Builtin.Tuple.tupleHashOf is) && decide (Builtin.Tuple.tupleHashOf is < 2 ^ 63)) = true
  ·rw [if_pos hr]
   rw [if_pos hr] at h
   exact wpAny_pure (by simpa [Nat.add_assoc] using h)
  ·rw [if_neg hr]
   rw [if_neg hr] at h
   exact wpAny_bind (wpAny_rule (wpAny_pure (by simpa [Nat.add_assoc] using h)))
theorem VU {k : AZ} {a : Addr} {Q : Int -> Shared -> Prop} (hu : A.units + 8 < cLine) (hk : FR prog w s.heap k a) (h : Q (Sw prog w k) { s with toks := s.toks + O5 k }) :
  wpAny (model prog w) A (pyHash (.ref a)) Q E s := by
 obtain ⟨o, items, n, ho, hc, hd, hi⟩ := hk
 obtain ⟨ka, kb, kl⟩ := k
 have I : ∀ (i : Int) (t : Tok), YI prog w A.in1 s.heap (.int i t) (hashInt i) 1 := fun i t E Q s e q => wpAny_pyHash_int q
 cases kl with
 | none =>
  obtain ⟨t, u, q⟩ := hi
  refine La (m := 2) (by omega) ho hc hd (is := [hashInt ka, hashInt kb]) ?_ h
  rw [q]
  exact .cons (d := 1) (n := 1) (I ka t) (.cons (d := 1) (n := 0) (I kb u) .nil)
 | some l =>
  obtain ⟨t, u, c, q, z⟩ := hi
  refine La (m := l.length + 3) (by omega) ho hc hd (is := [hashInt ka, hashInt kb, tupleKeyHash (intKind prog w) l]) ?_ h
  rw [q]
  have := KJ.cons (I ka t) (.cons (I kb u) (.cons (prog := prog) (w := w) (A := A.in1) (h := s.heap) (v := .ref c) (i := tupleKeyHash (intKind prog w) l) (d := l.length + 1) (fun E Q s e q => wpAny_pyHash_tuple (by show A.units + 1 < cLine; omega) (e ▸ z) q) .nil))
  rwa [show 1 + (1 + (l.length + 1 + 0)) = l.length + 3 by omega] at this
noncomputable def Zu (prog : Program) (w : World) (A : Around) (h : Heap) (u v : Value) (b : Bool) : Prop :=
 ∀ (E : Value -> Shared -> Prop) (Q : Bool -> Shared -> Prop) (s : Shared), s.heap = h -> Q b s -> wpAny (model prog w) A (eqBool u v) Q E s
inductive IT (prog : Program) (w : World) (A : Around) (h : Heap) : List Value -> List Value -> Bool -> Prop
 | nil {vs : List Value} : IT prog w A h [] vs vs.isEmpty
 | nil' {us : List Value} : IT prog w A h us [] us.isEmpty
 | no {u v : Value} {us vs : List Value} : Zu prog w A h u v false -> IT prog w A h (u :: us) (v :: vs) false
 | yes {u v : Value} {us vs : List Value} {b : Bool} : Zu prog w A h u v true -> IT prog w A h us vs b -> IT prog w A h (u :: us) (v :: vs) b
theorem Lb {xs ys : Array Value} {a b : Addr} {oa ob : Obj} {na nb : Nat} {r : Bool} {P : Fin -> Shared -> Prop} (hoa : s.heap.get? a = some oa) (hda : oa.data = .seq xs na) (hob : s.heap.get? b = some ob) (hcb : ob.cls = .type "tuple") (hdb : ob.data = .seq ys nb)
  (hr : IT prog w A s.heap xs.toList ys.toList r) (h : P (.done (.ret (.bool r))) s) : wpAny (model prog w) A (Builtin.«tuple.__eq__» ⟨[.ref a, .ref b], []⟩) P E s := by
 show wpAny _ _ (isInstance (.ref b) (.type "tuple") >>= _) _ _ s
 refine wpAny_bind (wpAny_isInstance (⟨ob, hob, hcb⟩ : s.TypeIs (.ref b) "tuple") isSubtype_tuple_tuple ?_)
 simp only [Bool.not_true, Bool.false_eq_true, if_false]
 refine wpAny_bind (wpAny_tupleItemsOf hoa hda ?_)
 refine wpAny_bind (wpAny_tupleItemsOf hob hdb ?_)
 refine wpAny_bind ?_
 refine wpAny_forIn_list _
  (fun rest q s' => q.1 = none /\ s' = s /\ ∃ xs' ys', rest = List.zip xs' ys' /\ IT prog w A s.heap xs' ys' r /\ (xs'.length == ys'.length) = (xs.size == ys.size))
  _ ?_ ?_ _ _ ⟨rfl, rfl, xs.toList, ys.toList, rfl, hr, by simp⟩
 ·rintro ⟨u, v⟩ rest q s' ⟨hq, rfl, xs', ys', hz, hx', hlen⟩
  cases hx' with
  | nil => simp at hz
  | nil' => simp at hz
  | @no u' v' us vs h1 =>
   simp only [List.zip_cons_cons, List.cons.injEq, Prod.mk.injEq] at hz
   obtain ⟨⟨rfl, rfl⟩, rfl⟩ := hz
   refine wpAny_bind (h1 _ _ _ rfl ?_)
   simp only [Bool.not_false, if_true]
   exact wpAny_bind (wpAny_pure (wpAny_pure (wpAny_pure h)))
  | @yes u' v' us vs _ h1 h2 =>
   simp only [List.zip_cons_cons, List.cons.injEq, Prod.mk.injEq] at hz
   obtain ⟨⟨rfl, rfl⟩, rfl⟩ := hz
   refine wpAny_bind (h1 _ _ _ rfl ?_)
   simp only [Bool.not_true, Bool.false_eq_true, if_false]
   exact wpAny_pure ⟨rfl, rfl, us, vs, rfl, h2, by simpa using hlen⟩
 ·rintro ⟨r1, r2⟩ s' ⟨hq, rfl, xs', ys', hz, hx', hlen⟩
  simp only at hq
  subst hq
  refine wpAny_pure ?_
  show P (.done (.ret (.bool (xs.size == ys.size)))) s'
  rw [<- hlen]
  cases hx' with
  | nil => cases ys' <;> exact h
  | nil' => cases xs' <;> exact h
  | no => simp at hz
  | yes => simp at hz
theorem Tx {xs ys : Array Value} {a b : Addr} {oa ob : Obj} {na nb : Nat} {r : Bool} {Q : Bool -> Shared -> Prop} (hu : A.units < cLine) (hoa : s.heap.get? a = some oa) (hca : oa.cls = .type "tuple") (hda : oa.data = .seq xs na) (hob : s.heap.get? b = some ob) (hcb : ob.cls = .type "tuple") (hdb : ob.data = .seq ys nb)
  (hr : IT prog w A.in1 s.heap xs.toList ys.toList r) (hab : a = b -> r = true) (h : Q r s) : wpAny (model prog w) A (eqBool (.ref a) (.ref b)) Q E s := by
 unfold eqBool
 try with_reducible refine wpAny_holding ?_
 show wpAny _ _ (if (Value.ref a == Value.ref b) = true then _ else _) Q E s
 have ta : s.TypeIs (.ref a) "tuple" := ⟨oa, hoa, hca⟩
 have tb : s.TypeIs (.ref b) "tuple" := ⟨ob, hob, hcb⟩
 by_cases q : (Value.ref a == Value.ref b) = true
 ·rw [if_pos q]
  have e : a = b := by have := eq_of_beq q; injection this
  rw [hab e] at h
  exact wpAny_bind (wpAny_rule (wpAny_pure h))
 ·rw [if_neg q]
  exact wpAny_bind (wpAny_richCompare_same_room (op := .Eq) ta tb F.slot_tuple_eq
   (wpAny_call_entry F.slot_tuple_eq ta F.entry_tuple_eq (Lb hoa hda hob hcb hdb hr ⟨_, rfl, (fun e => nomatch e), wpAny_truthy_bool h⟩) (F.args_tuple_eq_2 _ _)) hu)
theorem MK {i j : Int} {t u : Tok} : Zu prog w A h (.int i t) (.int j u) (decide (i = j)) := fun E Q s e q => wpAny_eqBool_int q
theorem cO {x y : AZ} {a b : Addr} {Q : Bool -> Shared -> Prop} (hu : A.units + 8 < cLine) (hx : FR prog w s.heap x a) (hy : FR prog w s.heap y b) (h : Q (decide (x = y)) s) :
  wpAny (model prog w) A (eqBool (.ref a) (.ref b)) Q E s := by
 have hij : a = b -> decide (x = y) = true := fun e => by subst e; exact decide_eq_true (hx.inj hy)
 obtain ⟨oa, xs, na, hoa, hca, hda, hia⟩ := hx
 obtain ⟨ob, ys, nb, hob, hcb, hdb, hib⟩ := hy
 refine Tx (by omega) hoa hca hda hob hcb hdb ?_ hij h
 obtain ⟨xa, xb, xl⟩ := x
 obtain ⟨ya, yb, yl⟩ := y
 have Qu : ∀ (t u t' u' : Tok) (us vs : List Value) (r : Bool), (xa = ya -> xb = yb -> IT prog w A.in1 s.heap us vs r) -> IT prog w A.in1 s.heap (.int xa t :: .int xb u :: us) (.int ya t' :: .int yb u' :: vs) (decide (xa = ya) && (decide (xb = yb) && r)) := by
  intro t u t' u' us vs r hr
  by_cases e1 : xa = ya
  ·have z1 := MK (prog := prog) (w := w) (A := A.in1) (h := s.heap) (i := xa) (j := ya) (t := t) (u := t')
   rw [decide_eq_true e1] at z1 ⊢
   refine .yes z1 ?_
   have z2 := MK (prog := prog) (w := w) (A := A.in1) (h := s.heap) (i := xb) (j := yb) (t := u) (u := u')
   by_cases e2 : xb = yb
   ·rw [decide_eq_true e2] at z2 ⊢
    exact .yes z2 (hr e1 e2)
   ·rw [decide_eq_false e2] at z2 ⊢
    exact .no z2
  ·have z1 := MK (prog := prog) (w := w) (A := A.in1) (h := s.heap) (i := xa) (j := ya) (t := t) (u := t')
   rw [decide_eq_false e1] at z1 ⊢
   exact .no z1
 have Et : ∀ {r : Bool}, (decide (xa = ya) && (decide (xb = yb) && r)) = decide ((⟨xa, xb, xl⟩ : AZ) = ⟨ya, yb, yl⟩) ↔ (xa = ya -> xb = yb -> r = decide (xl = yl)) := by
  intro r
  by_cases e1 : xa = ya <;> by_cases e2 : xb = yb <;> simp [e1, e2]
 cases xl with
 | none =>
  obtain ⟨t, u, q⟩ := hia
  cases yl with
  | none =>
   obtain ⟨t', u', q'⟩ := hib
   rw [q, q']
   have := Qu t u t' u' [] [] true fun _ _ => .nil
   rwa [Et.mpr (by intros; rfl)] at this
  | some l =>
   obtain ⟨t', u', c, q', _⟩ := hib
   rw [q, q']
   have := Qu t u t' u' [] [.ref c] false fun _ _ => .nil
   rwa [Et.mpr (by intros; simp)] at this
 | some lx =>
  obtain ⟨t, u, cx, q, zx⟩ := hia
  cases yl with
  | none =>
   obtain ⟨t', u', q'⟩ := hib
   rw [q, q']
   have := Qu t u t' u' [.ref cx] [] false fun _ _ => .nil'
   rwa [Et.mpr (by intros; simp)] at this
  | some l =>
   obtain ⟨t', u', c, q', z⟩ := hib
   rw [q, q']
   have e0 : Zu prog w A.in1 s.heap (.ref cx) (.ref c) (decide (lx = l)) := fun E Q s' e q => wpAny_eqBool_tuple (by show A.units + 1 < cLine; omega) (e ▸ zx) (e ▸ z) q
   have := Qu t u t' u' [.ref cx] [.ref c] (decide (lx = l)) fun _ _ => by
    by_cases e : lx = l
    ·rw [decide_eq_true e] at e0 ⊢; exact .yes e0 .nil
    ·rw [decide_eq_false e] at e0 ⊢; exact .no e0
   rwa [Et.mpr (by intros; simp)] at this
theorem T5 {k : AZ} {a : Addr} {Q : Bool -> Shared -> Prop} (hk : FR prog w s.heap k a) (h : Q true s) : wpAny (model prog w) A (eqIsQuiet 8 (.ref a)) Q E s := by
 have hT := hk.typeIs
 obtain ⟨o, items, n, ho, _, hd, hi⟩ := hk
 unfold eqIsQuiet
 refine wpAny_bind (wpAny_specialOf hT F.slot_tuple_eq.lookup ?_)
 show wpAny _ _ (isInstance (.ref a) (.type "tuple") >>= _) _ _ s
 refine wpAny_bind (wpAny_isInstance hT isSubtype_tuple_tuple ?_)
 simp only [Bool.not_true, Bool.false_eq_true, if_false]
 refine wpAny_bind (wpAny_seqItems ho hd ?_)
 refine wpAny_bind ?_
 show wpAny _ _ (forIn items _ _) _ _ s
 rw [<- Array.forIn_toList]
 have quiet1 : ∀ v ∈ items.toList, ∀ (Q : Bool -> Shared -> Prop), Q true s -> wpAny (model prog w) A (eqIsQuiet 7 v) Q E s := by
  intro v hv Q q
  obtain ⟨ka, kb, kl⟩ := k
  have byv : carriedByValue v = true -> wpAny (model prog w) A (eqIsQuiet 7 v) Q E s := fun e => by rw [eqIsQuiet_byValue _ e]; exact wpAny_pure q
  cases kl with
  | none =>
   obtain ⟨t, u, e⟩ := hi
   rw [e] at hv
   simp at hv
   rcases hv with rfl | rfl <;> exact byv rfl
  | some l =>
   obtain ⟨t, u, c, e, z⟩ := hi
   rw [e] at hv
   simp at hv
   rcases hv with rfl | rfl | rfl
   ·exact byv rfl
   ·exact byv rfl
   ·have hT' := z.typeIs
    obtain ⟨o', items', n', ho', _, hd', hi'⟩ := z
    unfold eqIsQuiet
    refine wpAny_bind (wpAny_specialOf hT' F.slot_tuple_eq.lookup ?_)
    show wpAny _ _ (isInstance (.ref c) (.type "tuple") >>= _) _ _ s
    refine wpAny_bind (wpAny_isInstance hT' isSubtype_tuple_tuple ?_)
    simp only [Bool.not_true, Bool.false_eq_true, if_false]
    refine wpAny_bind (wpAny_seqItems ho' hd' ?_)
    refine wpAny_bind ?_
    show wpAny _ _ (forIn items' _ _) _ _ s
    rw [<- Array.forIn_toList]
    refine wpAny_forIn_list _ (fun rest r s' => r.1 = none /\ s' = s /\ ∀ v ∈ rest, carriedByValue v = true) _ ?_ ?_ _ _ ⟨rfl, rfl, hi'.byValue⟩
    ·rintro v rest r s' ⟨hr, rfl, hall⟩
     rw [eqIsQuiet_byValue _ (hall v List.mem_cons_self)]
     refine wpAny_bind (wpAny_pure ?_)
     simp only [Bool.not_true, Bool.false_eq_true, if_false]
     exact wpAny_pure ⟨rfl, rfl, fun u hu' => hall u (List.mem_cons_of_mem _ hu')⟩
    ·rintro ⟨r1, r2⟩ s' ⟨hr, rfl, _⟩
     simp only at hr
     subst hr
     exact wpAny_pure q
 refine wpAny_forIn_list _ (fun rest r s' => r.1 = none /\ s' = s /\ ∀ v ∈ rest, v ∈ items.toList) _ ?_ ?_ _ _ ⟨rfl, rfl, fun v hv => hv⟩
 ·rintro v rest r s' ⟨hr, rfl, hall⟩
  refine wpAny_bind (quiet1 v (hall v List.mem_cons_self) _ ?_)
  simp only [Bool.not_true, Bool.false_eq_true, if_false]
  exact wpAny_pure ⟨rfl, rfl, fun u hu' => hall u (List.mem_cons_of_mem _ hu')⟩
 ·rintro ⟨r1, r2⟩ s' ⟨hr, rfl, _⟩
  simp only at hr
  subst hr
  exact wpAny_pure h
end
noncomputable def Np (prog : Program) (w : World) : HeapKind prog w AZ where
 is := FR prog w
 hash := Sw prog w
 draws := O5
 room := fun A => A.units + 8 < cLine
 inj := fun hx hy => hx.inj hy
 keeps := fun x ho hd hs => x.keeps ho hd hs
 pyHash := fun hu hk h => VU hu hk h
 eqBool := fun hu hx hy h => cO hu hx hy h
 quiet := fun hk h => T5 hk h
end
noncomputable def fL : Nat -> Nat -> List Nat
 | 0, _ => []
 | f + 1, n => match n with
  | 0 => []
  | m + 1 => (m + 1) % 128 :: fL f ((m + 1) / 128)
noncomputable def nm (n : Nat) : Str := ⟨(fL n n).toArray⟩
noncomputable def VA : List Nat -> Nat
 | [] => 0
 | d :: r => d + 128 * VA r
theorem Jy : ∀ (f n : Nat), n <= f -> VA (fL f n) = n
 | 0, n, h => by obtain rfl : n = 0 := Nat.le_zero.mp h; rfl
 | f + 1, 0, _ => rfl
 | f + 1, m + 1, h => by
  show (m + 1) % 128 + 128 * VA (fL f ((m + 1) / 128)) = m + 1
  rw [Jy f _ (by omega)]
  omega
theorem cn {a b : Nat} (h : nm a = nm b) : a = b := by
 have : (fL a a) = fL b b := by
  have := congrArg (fun x => x.cps.toList) h
  simpa [nm] using this
 rw [<- Jy a a (Nat.le_refl _), this, Jy b b (Nat.le_refl _)]
section
set_option genInjectivity false

inductive AV where
 | none
 | bool (b : Bool)
 | int (i : Int)
 | str (s : List Nat)
 | tup (l : List AV)
 | lst (l : List AV)
 | inst (c : Nat) (ids : List Nat) (l : List AV)
 | loc (n : Nat)
inductive AO where
 | list (l : List AV)
 | idict (l : List (Int × AV))
 | sdict (l : List (List Nat × AV))
 | tdict (l : List (AZ × AV))
 | inst (c : Nat) (l : List (Nat × AV))
noncomputable abbrev Hp := List (Option AO)
noncomputable def getL {α : Type} : List α -> Nat -> Option α
 | [], _ => none
 | x :: _, 0 => some x
 | _ :: r, n + 1 => getL r n
noncomputable def Ik {α : Type} : List α -> Nat -> α -> List α
 | [], _, _ => []
 | _ :: r, 0, y => y :: r
 | x :: r, n + 1, y => x :: Ik r n y
noncomputable def AB (H : Hp) (n : Nat) : Option AO := match getL H n with
 | some (some o) => some o
 | _ => none
noncomputable def Ab (H : Hp) (n : Nat) (o : AO) : Hp := Ik H n (some o)
noncomputable def Af (H : Hp) (o : AO) : Hp := H ++ [some o]
theorem Bn {α : Type} : ∀ {l : List α} {n : Nat} {x : α}, getL l n = some x -> n < l.length
 | _ :: _, 0, _, _ => Nat.succ_pos _
 | _ :: r, n + 1, _, e => Nat.succ_lt_succ (Bn (l := r) e)
theorem EC {α : Type} : ∀ {l : List α} {n : Nat} {y : α}, n < l.length -> getL (Ik l n y) n = some y
 | _ :: _, 0, _, _ => rfl
 | _ :: r, n + 1, _, e => EC (l := r) (Nat.lt_of_succ_lt_succ e)
theorem FN {α : Type} : ∀ {l : List α} {n m : Nat} {y : α}, m ≠ n -> getL (Ik l n y) m = getL l m
 | [], _, _, _, _ => rfl
 | _ :: _, 0, 0, _, e => absurd rfl e
 | _ :: _, 0, _ + 1, _, _ => rfl
 | _ :: _, _ + 1, 0, _, _ => rfl
 | _ :: r, n + 1, m + 1, _, e => FN (l := r) fun q => e (congrArg _ q)
theorem AF {α : Type} : ∀ {l : List α} {n : Nat} {y : α}, (Ik l n y).length = l.length
 | [], _, _ => rfl
 | _ :: _, 0, _ => rfl
 | _ :: r, n + 1, _ => congrArg Nat.succ (AF (l := r))
theorem Cp {α : Type} : ∀ {l r : List α} {n : Nat} {x : α}, getL l n = some x -> getL (l ++ r) n = some x
 | _ :: _, _, 0, _, e => e
 | _ :: l, r, n + 1, _, e => Cp (l := l) (r := r) e
theorem CO {α : Type} : ∀ {l : List α} {y : α} {n : Nat} {x : α}, getL (l ++ [y]) n = some x -> getL l n = some x \/ (n = l.length /\ x = y)
 | [], _, 0, _, e => .inr ⟨rfl, (Option.some.inj e).symm⟩
 | [], _, _ + 1, _, e => by cases e
 | _ :: _, _, 0, _, e => .inl e
 | _ :: l, y, n + 1, x, e => (CO (l := l) (y := y) (n := n) (x := x) e).imp id fun h => ⟨congrArg Nat.succ h.1, h.2⟩
theorem Dq {α : Type} : ∀ {l : List α} {y : α}, getL (l ++ [y]) l.length = some y
 | [], _ => rfl
 | _ :: l, y => Dq (l := l) (y := y)
theorem BU {H : Hp} {n : Nat} {o : AO} : AB H n = some o ↔ getL H n = some (some o) := by
 unfold AB
 split <;> simp_all
theorem AX {H : Hp} {n : Nat} {o : AO} (e : AB H n = some o) : n < H.length := Bn (BU.mp e)
theorem AD {H : Hp} {n : Nat} {o o' : AO} (e : AB H n = some o) : AB (Ab H n o') n = some o' := BU.mpr (EC (AX e))
theorem ER {H : Hp} {n m : Nat} {o' : AO} (h : m ≠ n) : AB (Ab H n o') m = AB H m := by unfold AB Ab; rw [FN h]
theorem QV {H : Hp} {n : Nat} {o o' : AO} (e : AB H n = some o) : AB (Af H o') n = some o := BU.mpr (Cp (BU.mp e))
theorem Bm {H : Hp} {n : Nat} {o o' : AO} (e : AB (Af H o') n = some o) : AB H n = some o \/ (n = H.length /\ o = o') := by
 rcases CO (BU.mp e) with h | h
 ·exact .inl (BU.mpr h)
 ·exact .inr ⟨h.1, Option.some.inj h.2⟩
theorem Ah {H : Hp} {o : AO} : AB (Af H o) H.length = some o := BU.mpr Dq
structure Wd where
 nx : Nat
 ρ : Nat -> Addr
 κ : Nat -> Addr
 P : Addr -> Option Obj
structure Wd.le (W W' : Wd) : Prop where
 nx : W.nx <= W'.nx
 ρ : ∀ n, n < W.nx -> W'.ρ n = W.ρ n
 κ : ∀ n, n < W.nx -> W'.κ n = W.κ n
 P : ∀ a o, W.P a = some o -> W'.P a = some o
theorem Wd.le.refl {W : Wd} : W.le W := ⟨Nat.le_refl _, fun _ _ => rfl, fun _ _ => rfl, fun _ _ e => e⟩
theorem Wd.le.trans {W W' W'' : Wd} (a : W.le W') (b : W'.le W'') : W.le W'' :=
 ⟨Nat.le_trans a.nx b.nx, fun n h => (b.ρ n (Nat.lt_of_lt_of_le h a.nx)).trans (a.ρ n h), fun n h => (b.κ n (Nat.lt_of_lt_of_le h a.nx)).trans (a.κ n h), fun x o e => b.P x o (a.P x o e)⟩
noncomputable def MT (o : Obj) (vs : List Value) : Prop := o.cls = .type "tuple" /\ ∃ n, o.data = .seq vs.toArray n
noncomputable def SU (o : Obj) (vs : List Value) : Prop := o.cls = .type "list" /\ ∃ n, o.data = .seq vs.toArray n
noncomputable def KE (i : Nat) (e : DictEntry) : Prop := ∃ t, e.key = .str (nm i) t
inductive An {α β : Type} (R : α -> β -> Prop) : List α -> List β -> Prop
 | nil : An R [] []
 | cons {a : α} {b : β} {l : List α} {r : List β} : R a b -> An R l r -> An R (a :: l) (b :: r)
theorem An.imp {α β : Type} {R R' : α -> β -> Prop} (h : ∀ a b, R a b -> R' a b) {l : List α} {r : List β} (x : An R l r) : An R' l r := An.rec .nil (fun a _ r => .cons (h _ _ a) r) x
theorem An.length {α β : Type} {R : α -> β -> Prop} {l : List α} {r : List β} (x : An R l r) : l.length = r.length := An.rec rfl (fun _ _ r => congrArg Nat.succ r) x
theorem An.append {α β : Type} {R : α -> β -> Prop} {l l' : List α} {r r' : List β} (x : An R l r) (y : An R l' r') : An R (l ++ l') (r ++ r') := An.rec (motive := fun l r _ => An R (l ++ l') (r ++ r')) y (fun a _ r => .cons a r) x
theorem An.right {α β : Type} {R : α -> β -> Prop} {l : List α} {r : List β} (x : An R l r) : ∀ b ∈ r, ∃ a, R a b :=
 An.rec (motive := fun _ r _ => ∀ b ∈ r, ∃ a, R a b) (fun _ h => absurd h List.not_mem_nil) (fun h _ ih b m => (List.mem_cons.mp m).elim (fun e => ⟨_, e ▸ h⟩) (ih b)) x
theorem An.get {α β : Type} {R : α -> β -> Prop} {l : List α} {r : List β} (x : An R l r) : ∀ {n : Nat} {y : α}, getL l n = some y -> ∃ u, r[n]? = some u /\ R y u := by
 induction x with
 | nil => exact fun e => nomatch e
 | cons h _ ih =>
  intro n y e
  cases n with
  | zero => exact ⟨_, rfl, Option.some.inj e ▸ h⟩
  | succ n => exact ih e
theorem An.take {α β : Type} {R : α -> β -> Prop} {l : List α} {r : List β} (n : Nat) (x : An R l r) : An R (l.take n) (r.take n) := by
 induction x generalizing n with
 | nil => cases n <;> exact .nil
 | cons h _ ih => cases n with
  | zero => exact .nil
  | succ n => exact .cons h (ih n)
theorem An.drop {α β : Type} {R : α -> β -> Prop} {l : List α} {r : List β} (n : Nat) (x : An R l r) : An R (l.drop n) (r.drop n) := by
 induction x generalizing n with
 | nil => cases n <;> exact .nil
 | cons h t ih => cases n with
  | zero => exact .cons h t
  | succ n => exact ih n
inductive RV (W : Wd) : AV -> Value -> Prop
 | none : RV W .none .none
 | bool (b : Bool) : RV W (.bool b) (.bool b)
 | int (i : Int) (t : Tok) : RV W (.int i) (.int i t)
 | str (s : List Nat) (t : Tok) : RV W (.str s) (.str ⟨s.toArray⟩ t)
 | tup {l : List AV} {a : Addr} {o : Obj} {vs : List Value} : W.P a = some o -> MT o vs -> An (RV W) l vs -> RV W (.tup l) (.ref a)
 | lst {l : List AV} {a : Addr} {o : Obj} {vs : List Value} : W.P a = some o -> SU o vs -> An (RV W) l vs -> RV W (.lst l) (.ref a)
 | inst {c : Nat} {ids : List Nat} {l : List AV} {a dx : Addr} {es : List DictEntry} {n : Nat} : W.P a = some (instObj c dx) -> W.P dx = some (dictOf es n) -> An KE ids es -> An (RV W) l (es.map DictEntry.val) -> RV W (.inst c ids l) (.ref a)
 | loc {n : Nat} : n < W.nx -> RV W (.loc n) (.ref (W.ρ n))
noncomputable abbrev Cr (W : Wd) := An (RV W)
theorem RV.mono {W W' : Wd} (h : W.le W') {x : AV} {v : Value} (r : RV W x v) : RV W' x v :=
 RV.rec (motive_1 := fun x v _ => RV W' x v) (motive_2 := fun l vs _ => An (RV W') l vs) .none .bool .int .str (fun e t _ => .tup (h.P _ _ e) t) (fun e t _ => .lst (h.P _ _ e) t) (fun e d k _ v => .inst (h.P _ _ e) (h.P _ _ d) k v)
  (fun {n} q => h.ρ n q ▸ .loc (Nat.lt_of_lt_of_le q h.nx)) .nil (fun _ _ => .cons) r
theorem Cr.mono {W W' : Wd} (h : W.le W') {x : List AV} {v : List Value} (r : Cr W x v) : Cr W' x v := r.imp fun _ _ => RV.mono h
section
variable {W : Wd} {v : Value}
theorem RV.bool_ {b : Bool} (r : RV W (.bool b) v) : v = .bool b := by cases r; rfl
theorem RV.int_ {i : Int} (r : RV W (.int i) v) : ∃ t, v = .int i t := by cases r; exact ⟨_, rfl⟩
theorem RV.str_ {s : List Nat} (r : RV W (.str s) v) : ∃ t, v = .str ⟨s.toArray⟩ t := by cases r; exact ⟨_, rfl⟩
theorem RV.tup_ {l : List AV} (r : RV W (.tup l) v) : ∃ a o vs, v = .ref a /\ W.P a = some o /\ MT o vs /\ Cr W l vs := by cases r; exact ⟨_, _, _, rfl, by assumption, by assumption, by assumption⟩
theorem RV.lst_ {l : List AV} (r : RV W (.lst l) v) : ∃ a o vs, v = .ref a /\ W.P a = some o /\ SU o vs /\ Cr W l vs := by cases r; exact ⟨_, _, _, rfl, by assumption, by assumption, by assumption⟩
theorem RV.loc_ {n : Nat} (r : RV W (.loc n) v) : v = .ref (W.ρ n) /\ n < W.nx := by cases r; exact ⟨rfl, by assumption⟩
theorem RV.none_ (r : RV W .none v) : v = .none := by cases r; rfl
end
noncomputable def EF (W : Wd) (p : Nat × AV) (e : DictEntry) : Prop := (∃ t, e.key = .str (nm p.1) t) /\ RV W p.2 e.val
noncomputable def EI (W : Wd) (p : Int × AV) (q : Int × Value) : Prop := p.1 = q.1 /\ RV W p.2 q.2
noncomputable def ES (W : Wd) (p : List Nat × AV) (q : Str × Value) : Prop := (⟨p.1.toArray⟩ : Str) = q.1 /\ RV W p.2 q.2
noncomputable def KP (prog : Program) (w : World) (W : Wd) (k : AZ) (a : Addr) : Prop := ∀ h : Heap, (∀ b o, W.P b = some o -> h.get? b = some o) -> FR prog w h k a
noncomputable def ET (prog : Program) (w : World) (W : Wd) (p : AZ × AV) (q : AZ × Addr × Value) : Prop := p.1 = q.1 /\ KP prog w W q.1 q.2.1 /\ RV W p.2 q.2.2
noncomputable abbrev BF (vs : List Value) (k : Nat) : Obj := { cls := .type "list", data := .seq vs.toArray k }
noncomputable def RO (prog : Program) (w : World) (W : Wd) (n : Nat) (h : Heap) : AO -> Prop
 | .list l => W.κ n = W.ρ n /\ ∃ vs k, h.get? (W.ρ n) = some (BF vs k) /\ Cr W l vs
 | .idict l => W.κ n = W.ρ n /\ ∃ kvs, h.DictOf (intKind prog w) (W.ρ n) kvs /\ An (EI W) l kvs
 | .sdict l => W.κ n = W.ρ n /\ ∃ kvs, h.DictOf (strKind prog w) (W.ρ n) kvs /\ An (ES W) l kvs
 | .tdict l => W.κ n = W.ρ n /\ ∃ xs, h.DictOfH (Np prog w) (W.ρ n) xs /\ An (ET prog w W) l xs
 | .inst c l => W.P (W.ρ n) = some (instObj c (W.κ n)) /\ (∃ es k, h.get? (W.κ n) = some (dictOf es k) /\ An (EF W) l es) /\ (l.map (·.1)).Nodup
theorem RV.inst_ {W : Wd} {c : Nat} {ids : List Nat} {l : List AV} {v : Value} (r : RV W (.inst c ids l) v) : ∃ a dx es n, v = .ref a /\ W.P a = some (instObj c dx) /\ W.P dx = some (dictOf es n) /\ An (EF W) (ids.zip l) es := by
 cases r with
 | inst h1 h2 k v =>
  refine ⟨_, _, _, _, rfl, h1, h2, ?_⟩
  rename_i es _
  clear h1 h2
  induction k generalizing l with
  | nil => exact .nil
  | cons e _ ih => cases v with
   | cons r rs => exact .cons ⟨e, r⟩ (ih rs)
theorem EI.mono {W W' : Wd} (h : W.le W') {p e} (x : EI W p e) : EI W' p e := ⟨x.1, x.2.mono h⟩
theorem ES.mono {W W' : Wd} (h : W.le W') {p e} (x : ES W p e) : ES W' p e := ⟨x.1, x.2.mono h⟩
theorem ET.mono {prog : Program} {w : World} {W W' : Wd} (h : W.le W') {p e} (x : ET prog w W p e) : ET prog w W' p e := ⟨x.1, fun hp k => x.2.1 hp fun a o e => k a o (h.P a o e), x.2.2.mono h⟩
theorem EF.mono {W W' : Wd} (h : W.le W') {p e} (x : EF W p e) : EF W' p e := ⟨x.1, x.2.mono h⟩
theorem NJ {prog : Program} {w : World} {K : Type} [DecidableEq K] {knd : KeyKind prog w K} {h h' : Heap} {a : Addr} {kvs : List (K × Value)} (x : h.DictOf knd a kvs) (k : h'.get? a = h.get? a) : h'.DictOf knd a kvs :=
 let ⟨o, es, ep, ho, r⟩ := x; ⟨o, es, ep, k.trans ho, r⟩
theorem RO.move {prog : Program} {w : World} {W W' : Wd} {n : Nat} {h h' : Heap} (hle : W.le W') (hn : n < W.nx) (hk : h'.get? (W.κ n) = h.get? (W.κ n)) (hP : ∀ a o, W'.P a = some o -> h'.get? a = some o) {o : AO} (r : RO prog w W n h o) : RO prog w W' n h' o := by
 have e1 := hle.ρ n hn
 have e2 := hle.κ n hn
 cases o with
 | inst c l => exact ⟨by rw [e1, e2]; exact hle.P _ _ r.1, r.2.1.imp fun vs ⟨k, g, q⟩ => ⟨k, by rw [e2, hk]; exact g, q.imp fun _ _ => EF.mono hle⟩, r.2.2⟩
 | list l => exact ⟨e2.trans (r.1.trans e1.symm), r.2.imp fun vs ⟨k, g, q⟩ => ⟨k, by rw [e1, <- r.1, hk, r.1]; exact g, q.mono hle⟩⟩
 | idict l => exact ⟨e2.trans (r.1.trans e1.symm), r.2.imp fun vs ⟨g, q⟩ => ⟨by rw [e1]; exact NJ g (r.1 ▸ hk), q.imp fun _ _ => EI.mono hle⟩⟩
 | sdict l => exact ⟨e2.trans (r.1.trans e1.symm), r.2.imp fun vs ⟨g, q⟩ => ⟨by rw [e1]; exact NJ g (r.1 ▸ hk), q.imp fun _ _ => ES.mono hle⟩⟩
 | tdict l =>
  refine ⟨e2.trans (r.1.trans e1.symm), r.2.imp fun xs ⟨g, q⟩ => ⟨?_, q.imp fun _ _ => ET.mono hle⟩⟩
  obtain ⟨o, es, ep, ho, hc, hd, he, _, hnd⟩ := g
  rw [e1]
  exact ⟨o, es, ep, by rw [<- r.1, hk, r.1]; exact ho, hc, hd, he, fun x hx => ((q.imp fun _ _ => ET.mono (prog := prog) (w := w) hle).right x hx).elim fun _ z => z.2.1 h' hP, hnd⟩
theorem RO.there {prog : Program} {w : World} {W : Wd} {n : Nat} {h : Heap} {o : AO} (r : RO prog w W n h o) : ∃ ob, h.get? (W.κ n) = some ob := by
 cases o with
 | inst c l => exact r.2.1.elim fun vs ⟨_, g, _⟩ => ⟨_, g⟩
 | list l => exact r.2.elim fun vs ⟨_, g, _⟩ => ⟨_, r.1 ▸ g⟩
 | idict l => exact r.2.elim fun _ x => x.1.elim fun ob ⟨_, _, g, _⟩ => ⟨ob, r.1 ▸ g⟩
 | sdict l => exact r.2.elim fun _ x => x.1.elim fun ob ⟨_, _, g, _⟩ => ⟨ob, r.1 ▸ g⟩
 | tdict l => exact r.2.elim fun _ x => x.1.elim fun ob ⟨_, _, g, _⟩ => ⟨ob, r.1 ▸ g⟩
noncomputable abbrev Gm := Addr -> Option Obj
structure AM (prog : Program) (w : World) (h₀ : Heap) (W : Wd) (G : Gm) (H : Hp) (h : Heap) : Prop where
 nx : W.nx = H.length
 base : ∀ a o, h₀.get? a = some o -> G a = some o
 keepP : ∀ a o, W.P a = some o -> h.get? a = some o
 keepG : ∀ a o, G a = some o -> h.get? a = some o
 obj : ∀ n o, AB H n = some o -> RO prog w W n h o
 inj : ∀ n m o o', AB H n = some o -> AB H m = some o' -> W.κ n = W.κ m -> n = m
 offP : ∀ n o, AB H n = some o -> W.P (W.κ n) = none
 offG : ∀ n o, AB H n = some o -> G (W.κ n) = none
 sep : ∀ a o, G a = some o -> h₀.get? a = none -> W.P a = none
 low : ∀ n o, AB H n = some o -> (W.κ n == sysModules) = false
 three : ∃ b o, 1 < b /\ h₀.get? b = some o
theorem AM.old {prog : Program} {w : World} {h₀ : Heap} {W : Wd} {G : Gm} {H : Hp} {h : Heap} (X : AM prog w h₀ W G H h) : ∀ a o, h₀.get? a = some o -> h.get? a = some o := fun a o e => X.keepG a o (X.base a o e)
structure Gu (W : Wd) (G : Gm) (H : Hp) (a : Addr) : Prop where
 P : W.P a = none
 G : G a = none
 H : ∀ n o, AB H n = some o -> W.κ n ≠ a
noncomputable def C6 (W : Wd) (G : Gm) (H : Hp) (h : Heap) (W' : Wd) (H' : Hp) (h' : Heap) : Prop :=
 W.le W' /\ ∀ a o, Gu W G H a -> h.get? a = some o -> h'.get? a = some o /\ Gu W' G H' a
theorem C6.refl {W : Wd} {G : Gm} {H : Hp} {h : Heap} : C6 W G H h W H h := ⟨.refl, fun _ _ x e => ⟨e, x⟩⟩
theorem C6.trans {W W' W'' : Wd} {G : Gm} {H H' H'' : Hp} {h h' h'' : Heap} (a : C6 W G H h W' H' h') (b : C6 W' G H' h' W'' H'' h'') : C6 W G H h W'' H'' h'' :=
 ⟨a.1.trans b.1, fun x o q e => let ⟨e', q'⟩ := a.2 x o q e; b.2 x o q' e'⟩
section
variable {prog : Program} {w : World} {h₀ : Heap} {W : Wd} {G : Gm} {H : Hp} {h h' : Heap}
theorem AM.keeps (X : AM prog w h₀ W G H h) (k : ∀ a o, h.get? a = some o -> h'.get? a = some o) : AM prog w h₀ W G H h' /\ C6 W G H h W H h' :=
 ⟨⟨X.nx, X.base, fun a o e => k a o (X.keepP a o e), fun a o e => k a o (X.keepG a o e), fun n o e => by
   obtain ⟨ob, g⟩ := (X.obj n o e).there
   exact (X.obj n o e).move .refl (X.nx ▸ AX e) (by rw [g]; exact k _ _ g) (fun a o e => k a o (X.keepP a o e)), X.inj, X.offP, X.offG, X.sep, X.low, X.three⟩,
  .refl, fun a o q e => ⟨k a o e, q⟩⟩
noncomputable def Wd.froze (W : Wd) (a : Addr) (o : Obj) : Wd := { W with P := fun b => if b = a then some o else W.P b }
theorem Wd.froze_le {W : Wd} {a : Addr} {o : Obj} (h : W.P a = none) : W.le (W.froze a o) :=
 ⟨Nat.le_refl _, fun _ _ => rfl, fun _ _ => rfl, fun b ob e => by
  show (if b = a then some o else W.P b) = some ob
  by_cases q : b = a
  ·subst q; rw [h] at e; cases e
  ·rw [if_neg q]; exact e⟩
theorem AM.fresh (X : AM prog w h₀ W G H h) : W.P h.objs.size = none /\ G h.objs.size = none /\ ∀ n o, AB H n = some o -> W.κ n ≠ h.objs.size := by
 refine ⟨?_, ?_, fun n o e q => ?_⟩
 ·cases e : W.P h.objs.size with
  | none => rfl
  | some o => exact absurd (Heap.lt_size (X.keepP _ _ e)) (Nat.lt_irrefl _)
 ·cases e : G h.objs.size with
  | none => rfl
  | some o => exact absurd (Heap.lt_size (X.keepG _ _ e)) (Nat.lt_irrefl _)
 ·obtain ⟨ob, g⟩ := (X.obj n o e).there
  rw [q] at g
  exact absurd (Heap.lt_size g) (Nat.lt_irrefl _)
theorem AM.pushP (X : AM prog w h₀ W G H h) (o : Obj) (hf : o.isFreed = false) : AM prog w h₀ (W.froze h.objs.size o) G H (h.push o) /\ C6 W G H h (W.froze h.objs.size o) H (h.push o) := by
 obtain ⟨f1, f2, f3⟩ := X.fresh
 have k : ∀ a ob, h.get? a = some ob -> (h.push o).get? a = some ob := fun a ob e => Heap.get?_push_of_some o e
 have le := Wd.froze_le (o := o) f1
 have hP : ∀ a ob, (W.froze h.objs.size o).P a = some ob -> (h.push o).get? a = some ob := fun a ob e => by
  have e' : (if a = h.objs.size then some o else W.P a) = some ob := e
  by_cases q : a = h.objs.size
  ·rw [if_pos q] at e'; cases e'; rw [q]; exact Heap.get?_push_size _ hf
  ·rw [if_neg q] at e'; exact k a ob (X.keepP a ob e')
 refine ⟨⟨X.nx, X.base, hP, fun a ob e => k a ob (X.keepG a ob e), fun n ao e => ?_, X.inj, fun n ao e => ?_, X.offG, fun a ob g z => ?_, X.low, X.three⟩, le, fun a ob q e => ⟨k a ob e, ?_, q.G, q.H⟩⟩
 ·obtain ⟨ob, g⟩ := (X.obj n ao e).there
  exact (X.obj n ao e).move le (X.nx ▸ AX e) (by rw [g]; exact k _ _ g) hP
 ·show (if W.κ n = h.objs.size then some o else W.P (W.κ n)) = none
  rw [if_neg (f3 n ao e)]; exact X.offP n ao e
 ·show (if a = h.objs.size then some o else W.P a) = none
  rw [if_neg (fun q => by rw [q, f2] at g; cases g)]; exact X.sep a ob g z
 ·show (if a = h.objs.size then some o else W.P a) = none
  rw [if_neg (Nat.ne_of_lt (Heap.lt_size e))]; exact q.P
noncomputable def Wd.grow (W : Wd) (a k : Addr) : Wd := { W with nx := W.nx + 1, ρ := fun n => if n = W.nx then a else W.ρ n, κ := fun n => if n = W.nx then k else W.κ n }
theorem Wd.grow_le {W : Wd} {a k : Addr} : W.le (W.grow a k) :=
 ⟨Nat.le_succ _, fun n q => if_neg (Nat.ne_of_lt q), fun n q => if_neg (Nat.ne_of_lt q), fun _ _ e => e⟩
theorem Wd.grow_ρ {W : Wd} {a k : Addr} : (W.grow a k).ρ W.nx = a := if_pos rfl
theorem Wd.grow_κ {W : Wd} {a k : Addr} : (W.grow a k).κ W.nx = k := if_pos rfl
theorem AM.add (X : AM prog w h₀ W G H h) {a k : Addr} {ao : AO} (q : Gu W G H k) (hk : (k == sysModules) = false) (r : RO prog w (W.grow a k) W.nx h ao) : AM prog w h₀ (W.grow a k) G (Af H ao) h := by
 refine ⟨by show W.nx + 1 = (H ++ [some ao]).length; rw [List.length_append, X.nx]; rfl, X.base, X.keepP, X.keepG, fun n o e => ?_, fun n m o o' e e' i => ?_, fun n o e => ?_, fun n o e => ?_, X.sep, fun n o e => ?_, X.three⟩
 ·rcases Bm e with e1 | ⟨e1, e2⟩
  ·exact (X.obj n o e1).move Wd.grow_le (X.nx ▸ AX e1) rfl X.keepP
  ·rw [e1, e2, <- X.nx]; exact r
 ·rcases Bm e with e1 | ⟨e1, _⟩ <;> rcases Bm e' with e2 | ⟨e2, _⟩
  ·rw [Wd.grow_le.κ n (X.nx ▸ AX e1), Wd.grow_le.κ m (X.nx ▸ AX e2)] at i
   exact X.inj n m o o' e1 e2 i
  ·rw [Wd.grow_le.κ n (X.nx ▸ AX e1), e2, <- X.nx, Wd.grow_κ] at i
   exact absurd i (q.H n o e1)
  ·rw [Wd.grow_le.κ m (X.nx ▸ AX e2), e1, <- X.nx, Wd.grow_κ] at i
   exact absurd i.symm (q.H m o' e2)
  ·rw [e1, e2]
 ·rcases Bm e with e1 | ⟨e1, _⟩
  ·rw [Wd.grow_le.κ n (X.nx ▸ AX e1)]; exact X.offP n o e1
  ·rw [e1, <- X.nx, Wd.grow_κ]; exact q.P
 ·rcases Bm e with e1 | ⟨e1, _⟩
  ·rw [Wd.grow_le.κ n (X.nx ▸ AX e1)]; exact X.offG n o e1
  ·rw [e1, <- X.nx, Wd.grow_κ]; exact q.G
 ·rcases Bm e with e1 | ⟨e1, _⟩
  ·rw [Wd.grow_le.κ n (X.nx ▸ AX e1)]; exact X.low n o e1
  ·rw [e1, <- X.nx, Wd.grow_κ]; exact hk
theorem C6.add (hn : W.nx = H.length) {a k : Addr} {ao : AO} (hk : ∀ b o, Gu W G H b -> h.get? b = some o -> k ≠ b /\ h'.get? b = some o) : C6 W G H h (W.grow a k) (Af H ao) h' := by
 refine ⟨Wd.grow_le, fun b o q e => ?_⟩
 obtain ⟨k1, k2⟩ := hk b o q e
 refine ⟨k2, q.P, q.G, fun n o' e' => ?_⟩
 rcases Bm e' with e1 | ⟨e1, _⟩
 ·rw [Wd.grow_le.κ n (hn ▸ AX e1)]; exact q.H n o' e1
 ·rw [e1, <- hn, Wd.grow_κ]; exact k1
theorem AM.size (X : AM prog w h₀ W G H h) : 1 < h.objs.size := by
 obtain ⟨b, o, h1, e⟩ := X.three
 exact Nat.lt_trans h1 (Heap.lt_size (X.old b o e))
theorem AM.new_low (X : AM prog w h₀ W G H h) : (h.objs.size == sysModules) = false := by
 have := X.size
 have e : sysModules = 1 := rfl
 rw [beq_eq_false_iff_ne, e]; omega
theorem AM.off_new (X : AM prog w h₀ W G H h) : Gu W G H h.objs.size := ⟨X.fresh.1, X.fresh.2.1, X.fresh.2.2⟩
theorem AM.pushM (X : AM prog w h₀ W G H h) {o : Obj} {ao : AO} (hf : o.isFreed = false) (r : RO prog w (W.grow h.objs.size h.objs.size) W.nx (h.push o) ao) :
  AM prog w h₀ (W.grow h.objs.size h.objs.size) G (Af H ao) (h.push o) /\ C6 W G H h (W.grow h.objs.size h.objs.size) (Af H ao) (h.push o) /\ RV (W.grow h.objs.size h.objs.size) (.loc H.length) (.ref h.objs.size) := by
 have k : ∀ a ob, h.get? a = some ob -> (h.push o).get? a = some ob := fun a ob e => Heap.get?_push_of_some o e
 obtain ⟨X', -⟩ := X.keeps k
 refine ⟨X'.add X.off_new X.new_low r, C6.add X.nx (fun b ob q e => ⟨(Nat.ne_of_lt (Heap.lt_size e)).symm, k b ob e⟩), ?_⟩
 rw [<- X.nx]
 have := RV.loc (W := W.grow h.objs.size h.objs.size) (n := W.nx) (Nat.lt_succ_self _)
 rwa [Wd.grow_ρ] at this
theorem AM.set (X : AM prog w h₀ W G H h) {n : Nat} {o o' : AO} (e : AB H n = some o) (hs : Heap.SameBut (W.κ n) h h') (r : RO prog w W n h' o') :
  AM prog w h₀ W G (Ab H n o') h' /\ C6 W G H h W (Ab H n o') h' := by
 have hP : ∀ a ob, W.P a = some ob -> h'.get? a = some ob := fun a ob q => (hs.2 a (fun z => by rw [z, X.offP n o e] at q; cases q)).trans (X.keepP a ob q)
 have Fe : ∀ m om, AB (Ab H n o') m = some om -> ∃ om', AB H m = some om' := fun m om q => by
  by_cases z : m = n
  ·exact ⟨o, z ▸ e⟩
  ·rw [ER z] at q; exact ⟨om, q⟩
 refine ⟨⟨by rw [X.nx]; exact AF.symm, X.base, hP, fun a ob q => (hs.2 a (fun z => by rw [z, X.offG n o e] at q; cases q)).trans (X.keepG a ob q), fun m om q => ?_,
  fun m m' om om' q q' i => ?_, fun m om q => ?_, fun m om q => ?_, X.sep, fun m om q => ?_, X.three⟩, .refl, fun a ob q g => ⟨(hs.2 a (fun z => q.H n o e z.symm)).trans g, q.P, q.G, fun m om z => ?_⟩⟩
 ·by_cases z : m = n
  ·subst z
   rw [AD e] at q
   cases q
   exact r
  ·rw [ER z] at q
   exact (X.obj m om q).move .refl (X.nx ▸ AX q) (hs.2 _ fun y => z (X.inj m n om o q e y)) hP
 ·obtain ⟨_, a⟩ := Fe m om q
  obtain ⟨_, b⟩ := Fe m' om' q'
  exact X.inj m m' _ _ a b i
 ·obtain ⟨_, a⟩ := Fe m om q; exact X.offP m _ a
 ·obtain ⟨_, a⟩ := Fe m om q; exact X.offG m _ a
 ·obtain ⟨_, a⟩ := Fe m om q; exact X.low m _ a
 ·obtain ⟨_, a⟩ := Fe m om z; exact q.H m _ a
end
end
section
noncomputable abbrev gd (b : Bool) (p : Prop) : Prop := Bool.rec (motive := fun _ => Prop) False p b
theorem Ei {b : Bool} {p : Prop} (h : b = true) (x : p) : gd b p := by subst h; exact x
theorem Ea {b : Bool} {p : Prop} (x : gd b p) : b = true /\ p := by
 cases b
 ·exact False.elim x
 ·exact ⟨rfl, x⟩
noncomputable abbrev oK {α : Type} (o : Option α) (P : α -> Prop) : Prop := Option.rec (motive := fun _ => Prop) False P o
theorem EL {α : Type} {o : Option α} {P : α -> Prop} {x : α} (h : o = some x) (p : P x) : oK o P := by subst h; exact p
theorem C9 {α : Type} {o : Option α} {P : α -> Prop} (p : oK o P) : ∃ x, o = some x /\ P x := by
 cases o
 ·exact False.elim p
 ·exact ⟨_, rfl, p⟩
noncomputable abbrev hK (o : Option AO) (P : AO -> Prop) : Prop := Option.rec (motive := fun _ => Prop) False P o
theorem hk {o : Option AO} {P : AO -> Prop} {x : AO} (h : o = some x) (p : P x) : hK o P := by subst h; exact p
theorem R5 {o : Option AO} {P : AO -> Prop} (p : hK o P) : ∃ x, o = some x /\ P x := by
 cases o
 ·exact False.elim p
 ·exact ⟨_, rfl, p⟩
noncomputable def fP : AO -> Option (List AV)
 | .list l => some l
 | _ => none
theorem NS {o : AO} {l : List AV} (h : fP o = some l) : o = .list l := by
 cases o with
 | list j => exact congrArg _ (Option.some.inj h)
 | _ => exact nomatch h
noncomputable def ox : AO -> Option (List (Int × AV))
 | .idict l => some l
 | _ => none
theorem YA {o : AO} {l : List (Int × AV)} (h : ox o = some l) : o = .idict l := by
 cases o with
 | idict j => exact congrArg _ (Option.some.inj h)
 | _ => exact nomatch h
noncomputable def m7 : AO -> Option (List (List Nat × AV))
 | .sdict l => some l
 | _ => none
theorem Ts {o : AO} {l : List (List Nat × AV)} (h : m7 o = some l) : o = .sdict l := by
 cases o with
 | sdict j => exact congrArg _ (Option.some.inj h)
 | _ => exact nomatch h
noncomputable def vQ : AO -> Option (List (AZ × AV))
 | .tdict l => some l
 | _ => none
theorem a9 {o : AO} {l : List (AZ × AV)} (h : vQ o = some l) : o = .tdict l := by
 cases o with
 | tdict j => exact congrArg _ (Option.some.inj h)
 | _ => exact nomatch h
noncomputable def eQ (C : Nat) : AO -> Option (List (Nat × AV))
 | .inst c l => match Nat.beq c C with
  | true => some l
  | false => none
 | _ => none
theorem YB {C : Nat} {o : AO} {l : List (Nat × AV)} (h : eQ C o = some l) : o = .inst C l := by
 cases o with
 | inst c j =>
  unfold eQ at h
  dsimp only at h
  split at h
  ·rename_i z; rw [Nat.eq_of_beq_eq_true z]; exact congrArg _ (Option.some.inj h)
  ·exact nomatch h
 | _ => exact nomatch h
theorem hO {α : Type} {f : AO -> Option α} {g : α -> AO} (hf : ∀ o l, f o = some l -> o = g l) {H : Hp} {n : Nat} {P : α -> Prop} (p : hK (AB H n) fun o => oK (f o) P) : ∃ l, AB H n = some (g l) /\ P l := by
 obtain ⟨o, e, p⟩ := R5 p
 obtain ⟨l, e', p⟩ := C9 p
 exact ⟨l, e.trans (congrArg some (hf _ _ e')), p⟩
noncomputable def Us : AV -> Option Int
 | .int i => some i
 | _ => none
noncomputable def Zk : AV -> Option (List Nat)
 | .str i => some i
 | _ => none
theorem Jp {x : AV} {i : Int} (h : Us x = some i) : x = .int i := by
 cases x with
 | int j => exact congrArg _ (Option.some.inj h)
 | _ => exact nomatch h
theorem Kx {x : AV} {i : List Nat} (h : Zk x = some i) : x = .str i := by
 cases x with
 | str j => exact congrArg _ (Option.some.inj h)
 | _ => exact nomatch h
noncomputable def Qz : AV -> Option (List AV)
 | .tup l => some l
 | _ => none
theorem NR {x : AV} {l : List AV} (h : Qz x = some l) : x = .tup l := by
 cases x with
 | tup j => exact congrArg _ (Option.some.inj h)
 | _ => exact nomatch h
noncomputable def Ii (n : Nat) : Bool := Nat.ble (n + 1) 100000
theorem AK {n : Nat} {p : Prop} (h : n < 100000) (x : p) : gd (Ii n) p := Ei (Nat.ble_eq_true_of_le h) x
theorem CW {n : Nat} {p : Prop} (x : gd (Ii n) p) : n < 100000 /\ p := ⟨Nat.le_of_ble_eq_true (Ea x).1, (Ea x).2⟩
structure Cx where
 prog : Program
 w : World
 K : Frag
 h₀ : Heap
 p : Program
 loose : List Str
 mg : Str -> Option Value
 mb : Str -> Option Value
 X : K.In h₀
 T : TopRead p loose mg mb h₀
inductive SK where
 | loc | cell | free
 deriving DecidableEq
noncomputable def SK.kind : SK -> NameKind
 | .loc => .local
 | .cell => .cell
 | .free => .cell
structure CZ where
 scope : Scope
 slots : List (Str × SK)
noncomputable def HH (g : CZ) : Bool := (g.scope.kind == .function) && (g.slots.all fun x => g.scope.names.lookup x.1 == some x.2.kind) && decide (g.slots.map (·.1)).Nodup
noncomputable abbrev Ag := List (Option AV)
structure Aw (sg : CZ) (W : Wd) (G : Gm) (H : Hp) (F : Ag) (env : Env) (h : Heap) : Prop where
 ok : HH sg = true
 scope : env.scope = sg.scope
 globals : env.globals = mainGlobals
 builtins : env.builtins = builtinsNs
 len : F.length = sg.slots.length
 off : Gu W G H env.locals
 ns : ∃ m, h.Ns env.locals m /\ ∀ i x av, getL sg.slots i = some (x, .loc) -> getL F i = some (some av) -> ∃ v, m x = some v /\ RV W av v
 cell : ∀ i x, getL sg.slots i = some (x, .cell) -> ∃ c o u, env.cells.lookup x = some c /\ h.get? c = some o /\ o.data = .cell u /\ Gu W G H c /\ ∀ av, getL F i = some (some av) -> ∃ v, u = some v /\ RV W av v
 apart : ∀ i j x y c, getL sg.slots i = some (x, .cell) -> getL sg.slots j = some (y, .cell) -> env.cells.lookup x = some c -> env.cells.lookup y = some c -> i = j
 free : ∀ i x av, getL sg.slots i = some (x, .free) -> getL F i = some (some av) -> ∃ c o v, env.cells.lookup x = some c /\ G c = some o /\ o.data = .cell (some v) /\ RV W av v
theorem Dp {α : Type} : ∀ {l : List α} {n : Nat} {x : α}, getL l n = some x -> x ∈ l
 | _ :: _, 0, _, e => by cases e; exact .head _
 | _ :: r, n + 1, _, e => .tail _ (Dp (l := r) e)
theorem Lc {g : CZ} (h : HH g = true) : g.scope.kind = .function := by
 unfold HH at h
 simp only [Bool.and_eq_true] at h
 exact beq_iff_eq.mp h.1.1
theorem GZ {g : CZ} (h : HH g = true) {i : Nat} {x : Str} {k : SK} (e : getL g.slots i = some (x, k)) : g.scope.names.lookup x = some k.kind := by
 unfold HH at h
 simp only [Bool.and_eq_true, List.all_eq_true] at h
 exact beq_iff_eq.mp (h.1.2 _ (Dp e))
theorem Ll {α β : Type} {l : List (α × β)} (h : (l.map (·.1)).Nodup) : ∀ {i j : Nat} {x : α} {a b : β}, getL l i = some (x, a) -> getL l j = some (x, b) -> i = j := by
 induction l with
 | nil => intro i j x a b e; cases e
 | cons p r ih =>
  intro i j x a b e e'
  rw [List.map_cons, List.nodup_cons] at h
  cases i with
  | zero => cases j with
   | zero => rfl
   | succ j =>
    have e1 : p = (x, a) := Option.some.inj e
    exact absurd (List.mem_map.mpr ⟨(x, b), Dp (l := r) e', rfl⟩) (by rw [e1] at h; exact h.1)
  | succ i => cases j with
   | zero =>
    have e1 : p = (x, b) := Option.some.inj e'
    exact absurd (List.mem_map.mpr ⟨(x, a), Dp (l := r) e, rfl⟩) (by rw [e1] at h; exact h.1)
   | succ j => exact congrArg Nat.succ (ih h.2 (i := i) (j := j) e e')
theorem Kd {g : CZ} (h : HH g = true) : (g.slots.map (·.1)).Nodup := by
 unfold HH at h
 simp only [Bool.and_eq_true] at h
 exact of_decide_eq_true h.2
section
variable {sg : CZ} {W W' : Wd} {G : Gm} {H H' : Hp} {F : Ag} {env : Env} {h h' : Heap} {w : World} {h₀ : Heap}
theorem Aw.kind (X : Aw sg W G H F env h) : env.scope.kind = .function := by rw [X.scope]; exact Lc X.ok
theorem Aw.kindOf (X : Aw sg W G H F env h) {i : Nat} {x : Str} {k : SK} (e : getL sg.slots i = some (x, k)) : env.kindOf x = some k.kind := by
 show env.scope.names.lookup x = _
 rw [X.scope]; exact GZ X.ok e
theorem Aw.move (X : Aw sg W G H F env h) (s : C6 W G H h W' H' h') : Aw sg W' G H' F env h' := by
 obtain ⟨m, ⟨o, es, ep, g, r⟩, hv⟩ := X.ns
 obtain ⟨g', off'⟩ := s.2 _ _ X.off g
 refine ⟨X.ok, X.scope, X.globals, X.builtins, X.len, off', ⟨m, ⟨o, es, ep, g', r⟩, fun i x av a b => ?_⟩, fun i x a => ?_, X.apart, fun i x av a b => ?_⟩
 ·obtain ⟨v, e, q⟩ := hv i x av a b; exact ⟨v, e, q.mono s.1⟩
 ·obtain ⟨c, oc, u, e1, e2, e3, e4, e5⟩ := X.cell i x a
  obtain ⟨e2', e4'⟩ := s.2 _ _ e4 e2
  exact ⟨c, oc, u, e1, e2', e3, e4', fun av q => let ⟨v, z1, z2⟩ := e5 av q; ⟨v, z1, z2.mono s.1⟩⟩
 ·obtain ⟨c, oc, v, e1, e2, e3, e4⟩ := X.free i x av a b
  exact ⟨c, oc, v, e1, e2, e3, e4.mono s.1⟩
end
noncomputable abbrev VE := Ag -> Hp -> (AV -> Hp -> Prop) -> Prop
noncomputable abbrev YE := Ag -> Hp -> (List AV -> Hp -> Prop) -> Prop
noncomputable abbrev VT := Ag -> Hp -> (Bool -> Hp -> Prop) -> Prop
noncomputable abbrev V1 := AV -> Hp -> (AV -> Hp -> Prop) -> Prop
noncomputable abbrev V2 := AV -> AV -> Hp -> (AV -> Hp -> Prop) -> Prop
noncomputable abbrev V3 := AV -> AV -> AV -> Hp -> (Hp -> Prop) -> Prop
structure Rm (d : Nat) (A : Around) : Prop where
 hand : A.handled = none
 depth : A.depth + 4 * d < recursionLimit
 units : A.units + 64 * d + 64 < cLine
theorem Rm.le {d d' : Nat} {A : Around} (x : Rm d' A) (h : d <= d') : Rm d A := ⟨x.hand, by have := x.depth; omega, by have := x.units; omega⟩
noncomputable abbrev Ds : Value -> Shared -> Prop := fun _ _ => False
noncomputable abbrev sh (s : Shared) (h : Heap) (t : Nat) : Shared := { s with heap := h, toks := t }
variable (c : Cx)
noncomputable def SE (d : Nat) (sg : CZ) (e : Expr) (vc : VE) : Prop :=
 ∀ (A : Around) (env : Env) (W : Wd) (G : Gm) (H : Hp) (F : Ag) (s : Shared) (k : AV -> Hp -> Prop) (Q : Value -> Shared -> Prop),
  Rm d A -> AM c.prog c.w c.h₀ W G H s.heap -> Aw sg W G H F env s.heap -> vc F H k ->
  (∀ x v W' H' h' t, W.le W' -> AM c.prog c.w c.h₀ W' G H' h' -> Aw sg W' G H' F env h' -> RV W' x v -> k x H' -> Q v (sh s h' t)) ->
  wpAny (model c.prog c.w) A (eval e env) Q Ds s
noncomputable def Zp (d : Nat) (sg : CZ) (es : List Expr) (vc : YE) : Prop :=
 ∀ (A : Around) (env : Env) (W : Wd) (G : Gm) (H : Hp) (F : Ag) (s : Shared) (k : List AV -> Hp -> Prop) (Q : List Value -> Shared -> Prop) (pos : Pos),
  Rm d A -> AM c.prog c.w c.h₀ W G H s.heap -> Aw sg W G H F env s.heap -> vc F H k ->
  (∀ x v W' H' h' t, W.le W' -> AM c.prog c.w c.h₀ W' G H' h' -> Aw sg W' G H' F env h' -> Cr W' x v -> k x H' -> Q v (sh s h' t)) ->
  wpAny (model c.prog c.w) A (spliced (backTo pos (starEach es env))) Q Ds s
noncomputable def ST (d : Nat) (sg : CZ) (e : Expr) (vc : VT) : Prop :=
 ∀ (A : Around) (env : Env) (W : Wd) (G : Gm) (H : Hp) (F : Ag) (s : Shared) (k : Bool -> Hp -> Prop) (Q : Bool -> Shared -> Prop),
  Rm d A -> AM c.prog c.w c.h₀ W G H s.heap -> Aw sg W G H F env s.heap -> vc F H k ->
  (∀ b W' H' h' t, W.le W' -> AM c.prog c.w c.h₀ W' G H' h' -> Aw sg W' G H' F env h' -> k b H' -> Q b (sh s h' t)) ->
  wpAny (model c.prog c.w) A (isTrue e env (eval e env)) Q Ds s
noncomputable def SA (d : Nat) (sg : CZ) (op : BoolOp) (es : List Expr) (vc : VT) : Prop :=
 ∀ (A : Around) (env : Env) (W : Wd) (G : Gm) (H : Hp) (F : Ag) (s : Shared) (k : Bool -> Hp -> Prop) (Q : Bool -> Shared -> Prop),
  Rm d A -> AM c.prog c.w c.h₀ W G H s.heap -> Aw sg W G H F env s.heap -> vc F H k ->
  (∀ b W' H' h' t, W.le W' -> AM c.prog c.w c.h₀ W' G H' h' -> Aw sg W' G H' F env h' -> k b H' -> Q b (sh s h' t)) ->
  wpAny (model c.prog c.w) A (allTrue op es env) Q Ds s
noncomputable def SB (d : Nat) (sg : CZ) (op : BoolOp) (es : List Expr) (vc : VE) : Prop :=
 ∀ (A : Around) (env : Env) (W : Wd) (G : Gm) (H : Hp) (F : Ag) (s : Shared) (k : AV -> Hp -> Prop) (Q : Value -> Shared -> Prop) (pos : Pos),
  Rm d A -> AM c.prog c.w c.h₀ W G H s.heap -> Aw sg W G H F env s.heap -> vc F H k ->
  (∀ x v W' H' h' t, W.le W' -> AM c.prog c.w c.h₀ W' G H' h' -> Aw sg W' G H' F env h' -> RV W' x v -> k x H' -> Q v (sh s h' t)) ->
  wpAny (model c.prog c.w) A (boolOp pos op (evalEach es env)) Q Ds s
noncomputable def S1 (d : Nat) (f : Value -> Sem Value) (vc : V1) : Prop :=
 ∀ (A : Around) (W : Wd) (G : Gm) (H : Hp) (s : Shared) (x : AV) (u : Value) (k : AV -> Hp -> Prop) (Q : Value -> Shared -> Prop),
  Rm d A -> AM c.prog c.w c.h₀ W G H s.heap -> RV W x u -> vc x H k ->
  (∀ z r W' H' h' t, C6 W G H s.heap W' H' h' -> AM c.prog c.w c.h₀ W' G H' h' -> RV W' z r -> k z H' -> Q r (sh s h' t)) ->
  wpAny (model c.prog c.w) A (f u) Q Ds s
noncomputable def S2 (d : Nat) (f : Value -> Value -> Sem Value) (vc : V2) : Prop :=
 ∀ (A : Around) (W : Wd) (G : Gm) (H : Hp) (s : Shared) (x y : AV) (u v : Value) (k : AV -> Hp -> Prop) (Q : Value -> Shared -> Prop),
  Rm d A -> AM c.prog c.w c.h₀ W G H s.heap -> RV W x u -> RV W y v -> vc x y H k ->
  (∀ z r W' H' h' t, C6 W G H s.heap W' H' h' -> AM c.prog c.w c.h₀ W' G H' h' -> RV W' z r -> k z H' -> Q r (sh s h' t)) ->
  wpAny (model c.prog c.w) A (f u v) Q Ds s
noncomputable def S3 (d : Nat) (f : Value -> Value -> Value -> Sem Unit) (vc : V3) : Prop :=
 ∀ (A : Around) (W : Wd) (G : Gm) (H : Hp) (s : Shared) (x y z : AV) (u v r : Value) (k : Hp -> Prop) (Q : Unit -> Shared -> Prop),
  Rm d A -> AM c.prog c.w c.h₀ W G H s.heap -> RV W x u -> RV W y v -> RV W z r -> vc x y z H k ->
  (∀ W' H' h' t, C6 W G H s.heap W' H' h' -> AM c.prog c.w c.h₀ W' G H' h' -> k H' -> Q () (sh s h' t)) ->
  wpAny (model c.prog c.w) A (f u v r) Q Ds s
variable {c}
theorem SE.le {d d' : Nat} {sg e vc} (x : SE c d sg e vc) (h : d <= d') : SE c d' sg e vc := fun A env W G H F s k Q r => x A env W G H F s k Q (r.le h)
section
variable {d : Nat} {sg : CZ}
noncomputable def vC (x : AV) : VE := fun _ H k => k x H
theorem gy {k pos} : SE c d sg (.Constant .none k pos) (vC .none) := fun A env W G H F s k Q r X Y v q =>
 wpAny_Constant_none (q _ _ _ _ _ s.toks .refl X Y .none v)
theorem hV {b k pos} : SE c d sg (.Constant (.bool b) k pos) (vC (.bool b)) := fun A env W G H F s k Q r X Y v q =>
 wpAny_Constant_bool (q _ _ _ _ _ s.toks .refl X Y (.bool b) v)
theorem qO {i k pos} : SE c d sg (.Constant (.int i) k pos) (vC (.int i)) := fun A env W G H F s k Q r X Y v q =>
 wpAny_Constant_int (q _ _ _ _ _ (s.toks + 1) .refl X Y (.int i _) v)
theorem qG {x : Str} {cs : List Nat} {k pos} (e : x = ⟨cs.toArray⟩) : SE c d sg (.Constant (.str x) k pos) (vC (.str cs)) := fun A env W G H F s k Q r X Y v q => by
 subst e
 exact wpAny_Constant_str (q _ _ _ _ _ (s.toks + 1) .refl X Y (.str cs _) v)
noncomputable def kL (H : Hp) (k : AV -> Hp -> Prop) (o : Option AV) : Prop := oK o fun x => k x H
noncomputable def vL (i : Nat) : VE := fun F H k => oK (getL F i) (kL H k)
theorem Nf {i : Nat} {F : Ag} {H : Hp} {k : AV -> Hp -> Prop} (v : vL i F H k) : ∃ x, getL F i = some (some x) /\ k x H := by
 obtain ⟨o, e, v⟩ := C9 v
 obtain ⟨x, rfl, v⟩ := C9 v
 exact ⟨x, e, v⟩
theorem qN {x : Str} {i : Nat} {pos} (e : getL sg.slots i = some (x, .loc)) (hd : (x == ("__debug__" : Str)) = false) : SE c d sg (.Name x pos) (vL i) := fun A env W G H F s k Q r X Y v q => by
 obtain ⟨av, ea, kv⟩ := Nf v
 obtain ⟨m, hm, hv⟩ := Y.ns
 obtain ⟨u, eu, ru⟩ := hv i x av e ea
 exact wpAny_Name (wpAny_loadName_local Y.kind (Y.kindOf e) hm eu (q _ _ _ _ _ s.toks .refl X Y ru kv)) hd
theorem hS {x : Str} {i : Nat} {pos} (e : getL sg.slots i = some (x, .cell)) (hd : (x == ("__debug__" : Str)) = false) : SE c d sg (.Name x pos) (vL i) := fun A env W G H F s k Q r X Y v q => by
 obtain ⟨av, ea, kv⟩ := Nf v
 obtain ⟨cc, o, u, e1, e2, e3, e4, e5⟩ := Y.cell i x e
 obtain ⟨u', rfl, ru⟩ := e5 av ea
 exact wpAny_Name (wpAny_loadName_cell Y.kind (Y.kindOf e) e1 ⟨o, e2, e3⟩ (q _ _ _ _ _ s.toks .refl X Y ru kv)) hd
theorem hJ {x : Str} {i : Nat} {pos} (e : getL sg.slots i = some (x, .free)) (hd : (x == ("__debug__" : Str)) = false) : SE c d sg (.Name x pos) (vL i) := fun A env W G H F s k Q r X Y v q => by
 obtain ⟨av, ea, kv⟩ := Nf v
 obtain ⟨cc, o, u, e1, e2, e3, ru⟩ := Y.free i x av e ea
 exact wpAny_Name (wpAny_loadName_cell Y.kind (Y.kindOf e) e1 ⟨o, X.keepG _ _ e2, e3⟩ (q _ _ _ _ _ s.toks .refl X Y ru kv)) hd
theorem Hj {A : Around} {env : Env} {W : Wd} {G : Gm} {H : Hp} {F : Ag} {s : Shared} {x : Str} {pos : Pos} {v : Value} {Q : Value -> Shared -> Prop} (X : AM c.prog c.w c.h₀ W G H s.heap) (Y : Aw sg W G H F env s.heap)
  (hx : sg.scope.names.lookup x = some .globalImplicit) (e : nsIn c.K mainGlobals x = some (some v)) (hd : (x == ("__debug__" : Str)) = false) (q : Q v s) : wpAny (model c.prog c.w) A (eval (.Name x pos) env) Q Ds s :=
 Name_function_global Y.kind (by show env.scope.names.lookup x = _; rw [Y.scope]; exact hx) (loadGlobal_global (env := env) (by rw [Y.globals]; exact c.T.g.keeps X.old) (mg_of c.X c.T.g e) q) hd
theorem Lo {A : Around} {env : Env} {W : Wd} {G : Gm} {H : Hp} {F : Ag} {s : Shared} {x : Str} {pos : Pos} {v : Value} {Q : Value -> Shared -> Prop} (X : AM c.prog c.w c.h₀ W G H s.heap) (Y : Aw sg W G H F env s.heap)
  (hx : sg.scope.names.lookup x = some .globalImplicit) (e : nsIn c.K mainGlobals x = some none) (hv : bootBuiltins x = some v) (hn : x ≠ "__name__") (hd : (x == ("__debug__" : Str)) = false) (q : Q v s) : wpAny (model c.prog c.w) A (eval (.Name x pos) env) Q Ds s :=
 Name_function_global Y.kind (by show env.scope.names.lookup x = _; rw [Y.scope]; exact hx)
  (loadGlobal_builtin (env := env) (by rw [Y.globals]; exact c.T.g.keeps X.old) (mg_none_of c.X c.T.g e) (by rw [Y.builtins]; exact c.T.b.keeps X.old) ((c.T.builtins x hn).trans hv) q) hd
theorem hH {x : Str} {i : Int} {t : Tok} {pos} (hx : sg.scope.names.lookup x = some .globalImplicit) (e : nsIn c.K mainGlobals x = some (some (.int i t))) (hd : (x == ("__debug__" : Str)) = false) : SE c d sg (.Name x pos) (vC (.int i)) := fun A env W G H F s k Q r X Y v q =>
 Hj X Y hx e hd (q _ _ _ _ _ s.toks .refl X Y (.int i t) v)
noncomputable def BP : Expr -> Bool
 | .Starred _ _ => true
 | _ => false
theorem B9 {e : Expr} {es : List Expr} {env : Env} (h : BP e = false) : starEach (e :: es) env = (false, eval e env) :: starEach es env := by
 cases e <;> first | rfl | cases h
noncomputable def Dl : List Expr -> Bool
 | [] => true
 | e :: es => !BP e && Dl es
theorem Qo {es : List Expr} {env : Env} {pos : Pos} (h : Dl es = true) : (backTo pos (starEach es env)).any (·.1) = false := by
 induction es with
 | nil => rfl
 | cons e es ih =>
  unfold Dl at h
  rw [Bool.and_eq_true, Bool.not_eq_true'] at h
  rw [B9 h.1]
  show (false || (backTo pos (starEach es env)).any (·.1)) = false
  rw [ih h.2]; rfl
theorem Tq {e : Expr} {env : Env} {pos : Pos} (h : BP e = false) : backTo pos (starEach [e] env) = [(false, eval e env)] := by
 rw [B9 h]; rfl
theorem a0 {e f : Expr} {env : Env} {pos : Pos} (h : BP e = false /\ BP f = false) : backTo pos (starEach [e, f] env) = [(false, eval e env), (false, eval f env)] := by
 rw [B9 h.1, B9 h.2]; rfl
noncomputable def AQ : YE := fun _ H k => k [] H
noncomputable def dJ (x : AV) (k : List AV -> Hp -> Prop) : List AV -> Hp -> Prop := fun xs H => k (x :: xs) H
noncomputable def lI (r : YE) (F : Ag) (k : List AV -> Hp -> Prop) : AV -> Hp -> Prop := fun x H => r F H (dJ x k)
noncomputable def AA (a : VE) (r : YE) : YE := fun F H k => a F H (lI r F k)
theorem qK : Zp c d sg [] AQ := fun A env W G H F s k Q pos r X Y v q => wpAny_items_nil (q _ _ _ _ _ s.toks .refl X Y .nil v)
theorem hM {e : Expr} {es : List Expr} {va vr} (a : SE c d sg e va) (b : Zp c d sg es vr) (hs : BP e = false) : Zp c d sg (e :: es) (AA va vr) := fun A env W G H F s k Q pos r X Y v q =>
 wpAny_items_cons (a A env W G H F s _ _ r X Y v fun x u W₁ H₁ h₁ t₁ le₁ X₁ Y₁ r₁ k₁ =>
  b A env W₁ G H₁ F _ _ _ pos r X₁ Y₁ k₁ fun xs us W₂ H₂ h₂ t₂ le₂ X₂ Y₂ r₂ k₂ => q _ _ _ _ _ t₂ (le₁.trans le₂) X₂ Y₂ (.cons (r₁.mono le₂) r₂) k₂) (B9 hs)
noncomputable def uN (k : AV -> Hp -> Prop) : List AV -> Hp -> Prop := fun xs H => gd (Ii xs.length) (k (.tup xs) H)
noncomputable def Au (a : YE) : VE := fun F H k => a F H (uN k)
theorem BL : 100000 <= sizeLine := by rw [sizeLine_eq]; omega
theorem qE {es : List Expr} {n pos va} (a : Zp c d sg es va) : SE c d sg (.Tuple es n pos) (Au va) := fun A env W G H F s k Q r X Y v q =>
 wpAny_Tuple_spliced (a A env W G H F s _ _ pos r X Y v fun xs us W₁ H₁ h₁ t₁ le₁ X₁ Y₁ r₁ k₁ => by
  refine ⟨by rw [<- r₁.length]; exact Nat.le_trans (Nat.le_of_lt (CW k₁).1) BL, ?_⟩
  obtain ⟨X₂, s₂⟩ := X₁.pushP ({ cls := .type "tuple", data := .seq us.toArray } : Obj) rfl
  exact q _ _ _ _ _ t₁ (le₁.trans s₂.1) X₂ (Y₁.move s₂) (.tup (by exact if_pos rfl) ⟨rfl, _, rfl⟩ (r₁.mono s₂.1)) (CW k₁).2)
noncomputable def ub (k : AV -> Hp -> Prop) : List AV -> Hp -> Prop := fun xs H => gd (Ii xs.length) (k (.lst xs) H)
noncomputable def Nc (a : YE) : VE := fun F H k => a F H (ub k)
theorem qM {es : List Expr} {pos va} (a : Zp c d sg es va) : SE c d sg (.List es pos) (Nc va) := fun A env W G H F s k Q r X Y v q =>
 wpAny_List_spliced (a A env W G H F s _ _ pos r X Y v fun xs us W₁ H₁ h₁ t₁ le₁ X₁ Y₁ r₁ k₁ => by
  refine ⟨by rw [<- r₁.length]; exact Nat.le_trans (Nat.le_of_lt (CW k₁).1) BL, ?_⟩
  obtain ⟨X₂, s₂⟩ := X₁.pushP ({ cls := .type "list", data := .seq us.toArray } : Obj) rfl
  exact q _ _ _ _ _ t₁ (le₁.trans s₂.1) X₂ (Y₁.move s₂) (.lst (by exact if_pos rfl) ⟨rfl, _, rfl⟩ (r₁.mono s₂.1)) (CW k₁).2)
noncomputable def kh (k : AV -> Hp -> Prop) : List AV -> Hp -> Prop := fun xs H => gd (Ii xs.length) (k (.loc H.length) (Af H (.list xs)))
noncomputable def Ot (a : YE) : VE := fun F H k => a F H (kh k)
theorem AM.newList {prog : Program} {w : World} {h₀ : Heap} {W : Wd} {G : Gm} {H : Hp} {h : Heap} (X : AM prog w h₀ W G H h) {l : List AV} {vs : List Value} (r : Cr W l vs) (n : Nat) :
  ∃ W', AM prog w h₀ W' G (Af H (.list l)) (h.push (BF vs n)) /\ C6 W G H h W' (Af H (.list l)) (h.push (BF vs n)) /\ RV W' (.loc H.length) (.ref h.objs.size) := by
 refine ⟨_, X.pushM (o := BF vs n) (ao := .list l) rfl ⟨by rw [Wd.grow_ρ, Wd.grow_κ], vs, n, ?_, r.mono Wd.grow_le⟩⟩
 rw [Wd.grow_ρ]; exact Heap.get?_push_size _ rfl
theorem hE {es : List Expr} {pos va} (a : Zp c d sg es va) : SE c d sg (.List es pos) (Ot va) := fun A env W G H F s k Q r X Y v q =>
 wpAny_List_spliced (a A env W G H F s _ _ pos r X Y v fun xs us W₁ H₁ h₁ t₁ le₁ X₁ Y₁ r₁ k₁ => by
  refine ⟨by rw [<- r₁.length]; exact Nat.le_trans (Nat.le_of_lt (CW k₁).1) BL, ?_⟩
  obtain ⟨W', X₂, s₂, rv⟩ := X₁.newList r₁ 0
  exact q _ _ _ _ _ t₁ (le₁.trans s₂.1) X₂ (Y₁.move s₂) rv (CW k₁).2)
noncomputable def aS (x : AV) (p : V2) (k : AV -> Hp -> Prop) : AV -> Hp -> Prop := fun y H => p x y H k
noncomputable def lK (b : VE) (p : V2) (F : Ag) (k : AV -> Hp -> Prop) : AV -> Hp -> Prop := fun x H => b F H (aS x p k)
noncomputable def AL (a b : VE) (p : V2) : VE := fun F H k => a F H (lK b p F k)
theorem qT {l r : Expr} {op pos va vb vp} (a : SE c d sg l va) (b : SE c d sg r vb) (p : S2 c d (binaryOp op) vp) : SE c d sg (.BinOp l op r pos) (AL va vb vp) := fun A env W G H F s k Q rm X Y v q =>
 wpAny_BinOp (a A env W G H F s _ _ rm X Y v fun x u W₁ H₁ h₁ t₁ le₁ X₁ Y₁ r₁ k₁ => b A env W₁ G H₁ F _ _ _ rm X₁ Y₁ k₁ fun y z W₂ H₂ h₂ t₂ le₂ X₂ Y₂ r₂ k₂ =>
  p A W₂ G H₂ _ x y u z k _ rm X₂ (r₁.mono le₂) r₂ k₂ fun o ov W₃ H₃ h₃ t₃ s₃ X₃ r₃ k₃ => q _ _ _ _ _ t₃ ((le₁.trans le₂).trans s₃.1) X₃ (Y₂.move s₃) r₃ k₃)
theorem qQ {l r : Expr} {op pos va vb vp} (a : SE c d sg l va) (b : SE c d sg r vb) (p : S2 c d (compareOp op) vp) (hm : behindInMarks op r = false) : SE c d sg (.Compare l [op] [r] pos) (AL va vb vp) := fun A env W G H F s k Q rm X Y v q =>
 wpAny_Compare1 (a A env W G H F s _ _ rm X Y v fun x u W₁ H₁ h₁ t₁ le₁ X₁ Y₁ r₁ k₁ => b A env W₁ G H₁ F _ _ _ rm X₁ Y₁ k₁ fun y z W₂ H₂ h₂ t₂ le₂ X₂ Y₂ r₂ k₂ =>
  p A W₂ G H₂ _ x y u z k _ rm X₂ (r₁.mono le₂) r₂ k₂ fun o ov W₃ H₃ h₃ t₃ s₃ X₃ r₃ k₃ => q _ _ _ _ _ t₃ ((le₁.trans le₂).trans s₃.1) X₃ (Y₂.move s₃) r₃ k₃) hm
noncomputable def trL (H : Hp) (k : Bool -> Hp -> Prop) : AO -> Prop := fun o => oK (fP o) fun l => gd (Ii l.length) (k (!l.isEmpty) H)
noncomputable def YY (x : AV) (H : Hp) (k : Bool -> Hp -> Prop) : Prop := match x with
 | .bool b => k b H
 | .none => k false H
 | .int i => k (decide (i ≠ 0)) H
 | .loc n => hK (AB H n) (trL H k)
 | _ => False
end
end
section
variable {c : Cx} {d : Nat} {sg : CZ}
theorem Rm.u {d : Nat} {A : Around} (x : Rm d A) : A.units + 64 < cLine := by have := x.units; omega
theorem Ue {i : Int} : decide (i ≠ 0) = (i != 0) := by by_cases h : i = 0 <;> simp [h]
theorem Cr.emp {W : Wd} {l : List AV} {vs : List Value} (r : Cr W l vs) : (!vs.toArray.isEmpty) = !l.isEmpty := by cases r <;> rfl
theorem LF {A : Around} {W : Wd} {G : Gm} {H : Hp} {s : Shared} {x : AV} {v : Value} {k : Bool -> Hp -> Prop} {Q : Bool -> Shared -> Prop} (X : AM c.prog c.w c.h₀ W G H s.heap) (r : RV W x v) (t : YY x H k)
  (q : ∀ b tk, k b H -> Q b (sh s s.heap tk)) : wpAny (model c.prog c.w) A (truthy v) Q Ds s := by
 cases x with
 | bool b => rw [r.bool_]; exact wpAny_truthy_bool (q b s.toks t)
 | none => rw [r.none_]; exact truthy_none (q false s.toks t)
 | int i =>
  obtain ⟨tk, e⟩ := r.int_
  rw [e]
  exact truthy_int (q _ s.toks (Ue ▸ t))
 | loc n =>
  rw [r.loc_.1]
  obtain ⟨l, g, t⟩ := hO (fun _ _ => NS) t
  obtain ⟨hl, t⟩ := CW t
  obtain ⟨_, vs, m, gl, rl⟩ := X.obj n _ g
  refine wpAny_truthy_list (items := vs.toArray) ⟨_, gl, rfl, m, rfl⟩ ?_ ?_
  ·rw [List.size_toArray, <- rl.length]; omega
  ·rw [rl.emp]; exact q _ (s.toks + 1 + 1) t
 | str _ => exact False.elim t
 | tup _ => exact False.elim t
 | lst _ => exact False.elim t
 | inst _ _ _ => exact False.elim t
noncomputable def uO (k : Bool -> Hp -> Prop) : AV -> Hp -> Prop := fun x H => YY x H k
noncomputable def BK (a : VE) : VT := fun F H k => a F H (uO k)
theorem p6 {e : Expr} {va} (a : SE c d sg e va) (he : ∀ env whole, isTrue e env whole = (do let v <- whole; standAt e.pos; holding [v] (truthy v))) : ST c d sg e (BK va) := fun A env W G H F s k Q rm X Y v q =>
 wpAny_isTrue_value (a A env W G H F s _ _ rm X Y v fun x u W₁ H₁ h₁ t₁ le₁ X₁ Y₁ r₁ k₁ => LF X₁ r₁ k₁ fun b tk kb => q b _ _ _ tk le₁ X₁ Y₁ kb) (he env _)
noncomputable def kc (k : Bool -> Hp -> Prop) : Bool -> Hp -> Prop := fun b H => k (!b) H
noncomputable def Mr (a : VT) : VT := fun F H k => a F H (kc k)
theorem p9 {e : Expr} {pos va} (a : ST c d sg e va) : ST c d sg (.UnaryOp .Not e pos) (Mr va) := fun A env W G H F s k Q rm X Y v q =>
 wpAny_isTrue_Not (a A env W G H F s _ _ rm X Y v fun b W₁ H₁ h₁ t₁ le₁ X₁ Y₁ k₁ => q _ _ _ _ t₁ le₁ X₁ Y₁ k₁)
theorem qB {l r : Expr} {op pos va vb vp} (a : SE c d sg l va) (b : SE c d sg r vb) (p : S2 c d (compareOp op) vp) (hm : behindInMarks op r = false) : ST c d sg (.Compare l [op] [r] pos) (BK (AL va vb vp)) := fun A env W G H F s k Q rm X Y v q =>
 wpAny_isTrue_Compare1 (a A env W G H F s _ _ rm X Y v fun x u W₁ H₁ h₁ t₁ le₁ X₁ Y₁ r₁ k₁ => b A env W₁ G H₁ F _ _ _ rm X₁ Y₁ k₁ fun y z W₂ H₂ h₂ t₂ le₂ X₂ Y₂ r₂ k₂ =>
  p A W₂ G H₂ _ x y u z _ _ rm X₂ (r₁.mono le₂) r₂ k₂ fun o ov W₃ H₃ h₃ t₃ s₃ X₃ r₃ k₃ => LF X₃ r₃ k₃ fun b tk kb => q b _ _ _ tk ((le₁.trans le₂).trans s₃.1) X₃ (Y₂.move s₃) kb) hm
noncomputable abbrev KH (b : Bool) (p q : Prop) : Prop := Bool.rec (motive := fun _ => Prop) q p b
theorem vH {p q : Prop} (h : KH true p q) : p := h
theorem vI {p q : Prop} (h : KH false p q) : q := h
theorem bI {b : Bool} {p q : Prop} (h : b = true -> p) (g : b = false -> q) : KH b p q := by
 cases b
 ·exact g rfl
 ·exact h rfl
noncomputable def Ni : VT := fun _ H k => k true H
noncomputable def LZ : VT := fun _ H k => k false H
noncomputable def lX (r : VT) (F : Ag) (k : Bool -> Hp -> Prop) : Bool -> Hp -> Prop := fun b H => KH b (r F H k) (k false H)
noncomputable def uY (r : VT) (F : Ag) (k : Bool -> Hp -> Prop) : Bool -> Hp -> Prop := fun b H => KH b (k true H) (r F H k)
noncomputable def Mt (a r : VT) : VT := fun F H k => a F H (lX r F k)
noncomputable def HF (a r : VT) : VT := fun F H k => a F H (uY r F k)
theorem gJ : SA c d sg .And [] Ni := fun A env W G H F s k Q rm X Y v q => wpAny_allTrue_And_nil (q _ _ _ _ s.toks .refl X Y v)
theorem p8 : SA c d sg .Or [] LZ := fun A env W G H F s k Q rm X Y v q => wpAny_allTrue_Or_nil (q _ _ _ _ s.toks .refl X Y v)
theorem gH {e : Expr} {es va vr} (a : ST c d sg e va) (r : SA c d sg .And es vr) : SA c d sg .And (e :: es) (Mt va vr) := fun A env W G H F s k Q rm X Y v q =>
 wpAny_allTrue_And_cons (a A env W G H F s _ _ rm X Y v fun b W₁ H₁ h₁ t₁ le₁ X₁ Y₁ k₁ => by
  cases b with
  | true => exact r A env W₁ G H₁ F _ k Q rm X₁ Y₁ k₁ fun b W₂ H₂ h₂ t₂ le₂ X₂ Y₂ k₂ => q _ _ _ _ t₂ (le₁.trans le₂) X₂ Y₂ k₂
  | false => exact q _ _ _ _ t₁ le₁ X₁ Y₁ k₁)
theorem p7 {e : Expr} {es va vr} (a : ST c d sg e va) (r : SA c d sg .Or es vr) : SA c d sg .Or (e :: es) (HF va vr) := fun A env W G H F s k Q rm X Y v q =>
 wpAny_allTrue_Or_cons (a A env W G H F s _ _ rm X Y v fun b W₁ H₁ h₁ t₁ le₁ X₁ Y₁ k₁ => by
  cases b with
  | true => exact q _ _ _ _ t₁ le₁ X₁ Y₁ k₁
  | false => exact r A env W₁ G H₁ F _ k Q rm X₁ Y₁ k₁ fun b W₂ H₂ h₂ t₂ le₂ X₂ Y₂ k₂ => q _ _ _ _ t₂ (le₁.trans le₂) X₂ Y₂ k₂)
theorem gG {op es pos va} (a : SA c d sg op es va) : ST c d sg (.BoolOp op es pos) va := fun A env W G H F s k Q rm X Y v q => wpAny_isTrue_BoolOp (a A env W G H F s k Q rm X Y v q)
noncomputable def dX (r : VE) (F : Ag) (k : AV -> Hp -> Prop) (x : AV) : Bool -> Hp -> Prop := fun b H => KH b (r F H k) (k x H)
noncomputable def lW (r : VE) (F : Ag) (k : AV -> Hp -> Prop) : AV -> Hp -> Prop := fun x H => YY x H (dX r F k x)
noncomputable def kZ (r : VE) (F : Ag) (k : AV -> Hp -> Prop) (x : AV) : Bool -> Hp -> Prop := fun b H => KH b (k x H) (r F H k)
noncomputable def uX (r : VE) (F : Ag) (k : AV -> Hp -> Prop) : AV -> Hp -> Prop := fun x H => YY x H (kZ r F k x)
noncomputable def Ov (a : VE) (r : VE) : VE := fun F H k => a F H (lW r F k)
noncomputable def bY (a : VE) (r : VE) : VE := fun F H k => a F H (uX r F k)
theorem vN {op e va} (a : SE c d sg e va) : SB c d sg op [e] va := fun A env W G H F s k Q pos rm X Y v q => a A env W G H F s k Q rm X Y v q
theorem vP {e e' : Expr} {es va vr} (a : SE c d sg e va) (r : SB c d sg .And (e' :: es) vr) : SB c d sg .And (e :: e' :: es) (Ov va vr) := fun A env W G H F s k Q pos rm X Y v q => by
 show wpAny _ _ (do
   let v <- eval e env
   standAt pos
   let t <- holding [v] (truthy v)
   match BoolOp.And, t with
   | .And, false | .Or, true => pure v
   | _, _ => boolOp pos .And (evalEach (e' :: es) env)) _ _ _
 refine wpAny_bind (a A env W G H F s _ _ rm X Y v fun x u W₁ H₁ h₁ t₁ le₁ X₁ Y₁ r₁ k₁ => wpAny_bind (wpAny_standAt (wpAny_bind (wpAny_holding (LF X₁ r₁ k₁ fun b tk kb => ?_)))))
 cases b with
 | true => exact r A env W₁ G H₁ F _ k Q pos rm X₁ Y₁ kb fun y z W₂ H₂ h₂ t₂ le₂ X₂ Y₂ r₂ k₂ => q _ _ _ _ _ t₂ (le₁.trans le₂) X₂ Y₂ r₂ k₂
 | false => exact wpAny_pure (q _ _ _ _ _ tk le₁ X₁ Y₁ r₁ kb)
theorem bOr {e e' : Expr} {es va vr} (a : SE c d sg e va) (r : SB c d sg .Or (e' :: es) vr) : SB c d sg .Or (e :: e' :: es) (bY va vr) := fun A env W G H F s k Q pos rm X Y v q => by
 show wpAny _ _ (do
   let v <- eval e env
   standAt pos
   let t <- holding [v] (truthy v)
   match BoolOp.Or, t with
   | .And, false | .Or, true => pure v
   | _, _ => boolOp pos .Or (evalEach (e' :: es) env)) _ _ _
 refine wpAny_bind (a A env W G H F s _ _ rm X Y v fun x u W₁ H₁ h₁ t₁ le₁ X₁ Y₁ r₁ k₁ => wpAny_bind (wpAny_standAt (wpAny_bind (wpAny_holding (LF X₁ r₁ k₁ fun b tk kb => ?_)))))
 cases b with
 | true => exact wpAny_pure (q _ _ _ _ _ tk le₁ X₁ Y₁ r₁ kb)
 | false => exact r A env W₁ G H₁ F _ k Q pos rm X₁ Y₁ kb fun y z W₂ H₂ h₂ t₂ le₂ X₂ Y₂ r₂ k₂ => q _ _ _ _ _ t₂ (le₁.trans le₂) X₂ Y₂ r₂ k₂
theorem Yg {op es pos va} (a : SB c d sg op es va) : SE c d sg (.BoolOp op es pos) va := fun A env W G H F s k Q rm X Y v q => by
 show wpAny _ _ (boolOp pos op (evalEach es env)) _ _ _
 exact a A env W G H F s k Q pos rm X Y v q
noncomputable def ue (a b : VE) (F : Ag) (k : AV -> Hp -> Prop) : Bool -> Hp -> Prop := fun r H => KH r (a F H k) (b F H k)
noncomputable def Ky (t : VT) (a b : VE) : VE := fun F H k => t F H (ue a b F k)
theorem qP {t a b : Expr} {pos vt va vb} (ht : ST c d sg t vt) (ha : SE c d sg a va) (hb : SE c d sg b vb) : SE c d sg (.IfExp t a b pos) (Ky vt va vb) := fun A env W G H F s k Q rm X Y v q =>
 wpAny_IfExp (ht A env W G H F s _ _ rm X Y v fun r W₁ H₁ h₁ t₁ le₁ X₁ Y₁ k₁ => by
  cases r with
  | true => exact ha A env W₁ G H₁ F _ k Q rm X₁ Y₁ k₁ fun y z W₂ H₂ h₂ t₂ le₂ X₂ Y₂ r₂ k₂ => q _ _ _ _ _ t₂ (le₁.trans le₂) X₂ Y₂ r₂ k₂
  | false => exact hb A env W₁ G H₁ F _ k Q rm X₁ Y₁ k₁ fun y z W₂ H₂ h₂ t₂ le₂ X₂ Y₂ r₂ k₂ => q _ _ _ _ _ t₂ (le₁.trans le₂) X₂ Y₂ r₂ k₂)
noncomputable def V9 (g : Int -> Int -> Int) : V2 := fun x y H k => match x, y with
 | .int a, .int b => k (.int (g a b)) H
 | _, _ => False
noncomputable def Lk (g : Int -> Int -> Bool) : V2 := fun x y H k => match x, y with
 | .int a, .int b => k (.bool (g a b)) H
 | _, _ => False
noncomputable def S5 (C : Int -> Int -> Bool) (g : Int -> Int -> Int) : V2 := fun x y H k => match x, y with
 | .int a, .int b => gd (C a b) (k (.int (g a b)) H)
 | _, _ => False
theorem dZ {x y : AV} {P : Int -> Int -> Prop} (p : match x, y with | .int a, .int b => P a b | _, _ => False) : ∃ a b, x = .int a /\ y = .int b /\ P a b := by
 cases x with
 | int a => cases y with
  | int b => exact ⟨a, b, rfl, rfl, p⟩
  | _ => exact False.elim p
 | _ => exact False.elim p
theorem OA {W : Wd} {x y : AV} {u v : Value} {P : Int -> Int -> Prop} {Q : Value -> Value -> Prop} (p : match x, y with | .int a, .int b => P a b | _, _ => False) (r1 : RV W x u) (r2 : RV W y v) (h : ∀ a b t s, P a b -> Q (.int a t) (.int b s)) : Q u v := by
 obtain ⟨a, b, rfl, rfl, p⟩ := dZ p
 obtain ⟨t, rfl⟩ := r1.int_
 obtain ⟨s, rfl⟩ := r2.int_
 exact h _ _ _ _ p
theorem JP {op : Value -> Value -> Sem Value} {g} (h : ∀ {A : Around} {E s a b t u} {Q : Value -> Shared -> Prop}, Q (.int (g a b) s.toks) { s with toks := s.toks + 1 } -> wpAny (model c.prog c.w) A (op (.int a t) (.int b u)) Q E s) : S2 c d op (V9 g) := fun A W G H s x y u v k Q rm X r1 r2 p q =>
 OA (P := fun a b => k (.int (g a b)) H) (Q := fun u v => wpAny (model c.prog c.w) A (op u v) Q Ds s) p r1 r2 fun a b t u p => h (q _ _ _ _ _ (s.toks + 1) .refl X (.int _ _) p)
theorem Fu {op : Value -> Value -> Sem Value} {g} (h : ∀ {A : Around} {E s a b t u} {Q : Value -> Shared -> Prop}, Q (.bool (g a b)) s -> wpAny (model c.prog c.w) A (op (.int a t) (.int b u)) Q E s) : S2 c d op (Lk g) := fun A W G H s x y u v k Q rm X r1 r2 p q =>
 OA (P := fun a b => k (.bool (g a b)) H) (Q := fun u v => wpAny (model c.prog c.w) A (op u v) Q Ds s) p r1 r2 fun a b t u p => h (q _ _ _ _ _ s.toks .refl X (.bool _) p)
theorem Lj {op : Value -> Value -> Sem Value} {C g} (h : ∀ {A : Around} {E s a b t u} {Q : Value -> Shared -> Prop}, C a b = true -> Q (.int (g a b) s.toks) { s with toks := s.toks + 1 } -> wpAny (model c.prog c.w) A (op (.int a t) (.int b u)) Q E s) : S2 c d op (S5 C g) := fun A W G H s x y u v k Q rm X r1 r2 p q =>
 OA (P := fun a b => gd (C a b) (k (.int (g a b)) H)) (Q := fun u v => wpAny (model c.prog c.w) A (op u v) Q Ds s) p r1 r2 fun a b t u p => h (Ea p).1 (q _ _ _ _ _ (s.toks + 1) .refl X (.int _ _) (Ea p).2)
noncomputable abbrev Fq (a : Int) : Prop := -1000000000000 < a /\ a < 1000000000000
theorem SQ {a : Int} (h : Fq a) : Builtin.Int.intBits a <= 64 := intBits_le_64 (by have := h.1; omega) (by have := h.2; omega)
noncomputable def cy (a b : Int) : Bool := decide (a < b)
noncomputable def uI (a b : Int) : Bool := decide (a <= b)
noncomputable def uv (a b : Int) : Bool := decide (b < a)
noncomputable def uw (a b : Int) : Bool := decide (b <= a)
noncomputable def HK : V2 := V9 HAdd.hAdd
noncomputable def jx : V2 := V9 HSub.hSub
noncomputable def cA (a : Int) : Bool := decide (Fq a)
noncomputable def Yr : V2 := S5 (fun _ b => decide (0 < b)) HMod.hMod
noncomputable def cW : V2 := S5 (fun a b => decide (0 < b) && cA a && cA b) HDiv.hDiv
noncomputable def si : V2 := S5 (fun a _ => cA a) HMul.hMul
noncomputable def tA : V2 := V9 Builtin.bitAnd
noncomputable def pOr : V2 := V9 Builtin.bitOr
noncomputable def Qv : V2 := Lk BEq.beq
noncomputable def fC : V2 := Lk bne
noncomputable def pLt : V2 := Lk cy
noncomputable def pLe : V2 := Lk uI
noncomputable def oU : V2 := Lk uv
noncomputable def pGe : V2 := Lk uw
theorem kG : S2 c d (binaryOp .Add) HK := JP fun h => add_int h
theorem tH : S2 c d (binaryOp .Sub) jx := JP fun h => sub_int h
theorem tU : S2 c d (binaryOp .Mod) Yr := Lj fun {A E s a b t u Q} hb h => by
 have hb := of_decide_eq_true hb
 exact mod_int' (by omega) (by rw [Int.fmod_eq_emod_of_nonneg a (by omega)]; exact h)
theorem Mx {x : Int} (hx : Fq x) : (if x = 0 then 0 else x.natAbs.log2 / 30 + 1) <= 2 := by
 split
 ·omega
 ·rename_i h0
  have h1 : x.natAbs < 2 ^ 40 := by have := hx.1; have := hx.2; omega
  have := (Nat.log2_lt (by omega)).mpr h1
  omega
theorem td : S2 c d (binaryOp .FloorDiv) cW := Lj fun {A E s a b t u Q} hb h => by
 rw [Bool.and_eq_true, Bool.and_eq_true] at hb
 have h0 := of_decide_eq_true hb.1.1
 have h1 := Mx (of_decide_eq_true hb.1.2)
 have h2 := Mx (of_decide_eq_true hb.2)
 refine floordiv_int (by omega) (by rw [Int.fdiv_eq_ediv_of_nonneg a (by omega)]; exact h) (.inl ?_)
 unfold Builtin.divisionGoesByPylong
 first
  | (simp only [Bool.and_eq_false_iff, decide_eq_false_iff_not]; left; omega)
  | (simp only [Bool.and_eq_false_iff, decide_eq_false_iff_not]; right; omega)
  | (show (_ && _) = false; rw [Bool.and_eq_false_iff]; left; exact decide_eq_false (by show ¬ (_ >= _); first | omega | (unfold Builtin.Int.digits; omega)))
  | (show (_ && _) = false; rw [Bool.and_eq_false_iff]; right; exact decide_eq_false (by show ¬ (_ >= _); omega))
  | (simp; omega)
theorem tT : S2 c d (binaryOp .Mult) si := Lj fun hb h => mul_int h (IntMulOk.of_left (SQ (of_decide_eq_true hb)))
theorem te : S2 c d (binaryOp .BitAnd) tA := JP fun h => and_int h
theorem oOr : S2 c d (binaryOp .BitOr) pOr := JP fun h => or_int h
theorem oEq : S2 c d (compareOp .Eq) Qv := Fu fun h => eq_int h
theorem oNe : S2 c d (compareOp .NotEq) fC := Fu fun h => ne_int h
theorem oLt : S2 c d (compareOp .Lt) pLt := Fu fun h => lt_int h
theorem oLe : S2 c d (compareOp .LtE) pLe := Fu fun h => le_int h
theorem oGt : S2 c d (compareOp .Gt) oU := Fu fun h => gt_int h
theorem oGe : S2 c d (compareOp .GtE) pGe := Fu fun h => ge_int h
noncomputable def N7 : AV -> Bool
 | .none => true
 | _ => false
noncomputable def fE (neg : Bool) : V2 := fun x y H k => match y with
 | .none => k (.bool (xor neg (N7 x))) H
 | _ => False
theorem Ho {W : Wd} {x : AV} {v : Value} (r : RV W x v) : (v == .none) = N7 x /\ PySem.plainIs v .none = true := by cases r <;> exact ⟨rfl, rfl⟩
theorem aH {neg : Bool} {x y : AV} {H : Hp} {k : AV -> Hp -> Prop} (p : fE neg x y H k) : y = .none /\ k (.bool (xor neg (N7 x))) H := by
 cases y <;> first | exact False.elim p | exact ⟨rfl, p⟩
theorem oIs : S2 c d (compareOp .Is) (fE false) := fun A W G H s x y u v k Q rm X r1 r2 p q => by
 obtain ⟨e, p⟩ := aH p
 rw [e] at r2
 rw [r2.none_]
 refine wpAny_is_plain (Ho r1).2 (q _ _ _ _ _ s.toks .refl X (.bool _) ?_)
 rw [(Ho r1).1]
 rwa [Bool.false_xor] at p
theorem cg : S2 c d (compareOp .IsNot) (fE true) := fun A W G H s x y u v k Q rm X r1 r2 p q => by
 obtain ⟨e, p⟩ := aH p
 rw [e] at r2
 rw [r2.none_]
 refine wpAny_isNot_plain (Ho r1).2 (q _ _ _ _ _ s.toks .refl X (.bool _) ?_)
 rw [(Ho r1).1]
 rwa [Bool.true_xor] at p
end
section
variable {c : Cx} {d : Nat} {sg : CZ}
noncomputable def M7 (l : List AV) (j : Int) : Option AV := match j with
 | .ofNat n => getL l n
 | .negSucc n => match Nat.ble (n + 1) l.length with
  | true => getL l (l.length - (n + 1))
  | false => none
noncomputable def Gv : List Nat -> List Nat -> Bool
 | [], [] => true
 | a :: r, b :: s => Nat.beq a b && Gv r s
 | _, _ => false
theorem GB {a b : List Nat} : Gv a b = true ↔ a = b := by
 induction a generalizing b with
 | nil => cases b <;> simp [Gv]
 | cons x r ih => cases b with
  | nil => simp [Gv]
  | cons y s => rw [Gv, Bool.and_eq_true, ih, Nat.beq_eq, List.cons.injEq]
noncomputable def EN {K : Type} (e : K -> K -> Bool) : List (K × AV) -> K -> Option AV
 | [], _ => none
 | (a, x) :: r, k => match e a k with
  | true => some x
  | false => EN e r k
noncomputable def Ft {K : Type} (e : K -> K -> Bool) : List (K × AV) -> K -> AV -> List (K × AV)
 | [], k, x => [(k, x)]
 | (a, y) :: r, k, x => match e a k with
  | true => (a, x) :: r
  | false => (a, y) :: Ft e r k x
noncomputable def Hx (a b : Int) : Bool := decide (a = b)
noncomputable def mV (a b : AZ) : Bool := decide (a = b)
noncomputable def Dn : List (Int × AV) -> Int -> Option AV := EN Hx
noncomputable def Ao : List (List Nat × AV) -> List Nat -> Option AV := EN Gv
noncomputable def Dt : List (Nat × AV) -> Nat -> Option AV := EN Nat.beq
noncomputable def Kh : List (AZ × AV) -> AZ -> Option AV := EN mV
noncomputable def D5 : List (Int × AV) -> Int -> AV -> List (Int × AV) := Ft Hx
noncomputable def O8 : List (List Nat × AV) -> List Nat -> AV -> List (List Nat × AV) := Ft Gv
noncomputable def Im : List (Nat × AV) -> Nat -> AV -> List (Nat × AV) := Ft Nat.beq
noncomputable def JK : AV -> Option AZ
 | .tup [.int a, .int b] => some ⟨a, b, none⟩
 | .tup [.int a, .int b, .tup l] => (intsOf l).map fun l => ⟨a, b, some l⟩
 | _ => none
where
 intsOf : List AV -> Option (List Int)
 | [] => some []
 | .int i :: r => (intsOf r).map (i :: ·)
 | _ => none
section
variable {W : Wd} {prog : Program} {w : World}
section
variable {K K' : Type} [DecidableEq K'] {e : K -> K -> Bool} {f : K -> K'} {l : List (K × AV)} {kvs : List (K' × Value)} {k : K} {x : AV}
noncomputable def EG (f : K -> K') (W : Wd) (p : K × AV) (q : K' × Value) : Prop := f p.1 = q.1 /\ RV W p.2 q.2
theorem Hn (he : ∀ a b, e a b = true ↔ f a = f b) (h : An (EG f W) l kvs) : (∀ x, EN e l k = some x -> ∃ v, valueAt kvs (f k) = some v /\ RV W x v) /\ (EN e l k = none -> valueAt kvs (f k) = none) := by
 induction h with
 | nil => exact ⟨fun _ z => (nomatch z), fun _ => rfl⟩
 | @cons p q l r h t ih =>
  unfold EN valueAt
  rw [List.find?_cons, <- h.1]
  cases z : e p.1 k with
  | true =>
   rw [decide_eq_true ((he _ _).mp z)]
   exact ⟨fun x y => ⟨_, rfl, Option.some.inj y ▸ h.2⟩, fun y => nomatch y⟩
  | false =>
   rw [decide_eq_false fun y => Bool.false_ne_true (z.symm.trans ((he _ _).mpr y))]
   exact ih
theorem RG {k : K'} {v : Value} (h : kvs.any (fun kv => kv.1 = k) = false) : kvs.map (fun kv => if kv.1 = k then (kv.1, v) else kv) = kvs := by
 induction kvs with
 | nil => rfl
 | cons p r ih =>
  rw [List.any_cons, Bool.or_eq_false_iff] at h
  rw [List.map_cons, if_neg (of_decide_eq_false h.1), ih h.2]
theorem Ul {p : K' × Value} (h : ((p :: kvs).map (·.1)).Nodup) : kvs.any (fun kv => kv.1 = p.1) = false := by
 rw [List.map_cons, List.nodup_cons] at h
 rw [List.any_eq_false]
 exact fun x hx z => h.1 (List.mem_map.mpr ⟨x, hx, of_decide_eq_true z⟩)
theorem O0 {p : K' × Value} {k : K'} {v : Value} (h : ((p :: kvs).map (·.1)).Nodup) : stored (p :: kvs) k v = if p.1 = k then (p.1, v) :: kvs else p :: stored kvs k v := by
 unfold stored
 by_cases q : p.1 = k
 ·rw [if_pos q, List.any_cons, decide_eq_true q, Bool.true_or, if_pos rfl, List.map_cons, if_pos q, RG (q ▸ Ul h)]
 ·rw [if_neg q, List.any_cons, decide_eq_false q, Bool.false_or, List.map_cons, if_neg q]
  split <;> rfl
theorem Lh (he : ∀ a b, e a b = true ↔ f a = f b) (h : An (EG f W) l kvs) (nd : (kvs.map (·.1)).Nodup) {v : Value} (rv : RV W x v) : An (EG f W) (Ft e l k x) (stored kvs (f k) v) := by
 induction h with
 | nil => exact .cons ⟨rfl, rv⟩ .nil
 | @cons p q l r h t ih =>
  rw [O0 nd, Ft, <- h.1]
  cases z : e p.1 k with
  | true => rw [if_pos ((he _ _).mp z)]; exact .cons ⟨rfl, rv⟩ t
  | false =>
   rw [if_neg fun y => Bool.false_ne_true (z.symm.trans ((he _ _).mpr y))]
   exact .cons h (ih (List.nodup_cons.mp nd).2)
end
theorem oq (a b : Int) : Hx a b = true ↔ id a = id b := decide_eq_true_iff
theorem oo (a b : List Nat) : Gv a b = true ↔ (⟨a.toArray⟩ : Str) = ⟨b.toArray⟩ := GB.trans ⟨fun h => h ▸ rfl, fun h => by
 have := congrArg (fun x : Str => x.cps.toList) h
 simpa using this⟩
theorem It {l : List (Int × AV)} {kvs : List (Int × Value)} {k : Int} {x : AV} (h : An (EI W) l kvs) : Dn l k = some x -> ∃ v, valueAt kvs k = some v /\ RV W x v := (Hn (f := id) oq h).1 x
theorem Rl {l : List (Int × AV)} {kvs : List (Int × Value)} {k : Int} (h : An (EI W) l kvs) : Dn l k = none -> valueAt kvs k = none := (Hn (f := id) oq h).2
theorem FA {l : List (List Nat × AV)} {kvs : List (Str × Value)} {k : List Nat} {x : AV} (h : An (ES W) l kvs) : Ao l k = some x -> ∃ v, valueAt kvs (⟨k.toArray⟩ : Str) = some v /\ RV W x v := (Hn oo h).1 x
theorem Rk {l : List (List Nat × AV)} {kvs : List (Str × Value)} {k : List Nat} (h : An (ES W) l kvs) : Ao l k = none -> valueAt kvs (⟨k.toArray⟩ : Str) = none := (Hn oo h).2
theorem M5 {l : List (AZ × AV)} {xs : List (AZ × Addr × Value)} {k : AZ} (h : An (ET prog w W) l xs) : (∀ x, Kh l k = some x -> ∃ p, atKey xs k = some p /\ RV W x p.2) /\ (Kh l k = none -> atKey xs k = none) := by
 induction h with
 | nil => exact ⟨fun _ z => (nomatch z), fun _ => rfl⟩
 | @cons p q l r h t ih =>
  unfold Kh EN atKey
  rw [List.find?_cons, <- h.1]
  cases z : mV p.1 k with
  | true =>
   rw [decide_eq_true (of_decide_eq_true z)]
   exact ⟨fun x y => ⟨_, rfl, Option.some.inj y ▸ h.2.2⟩, fun y => nomatch y⟩
  | false =>
   rw [decide_eq_false (of_decide_eq_false z)]
   exact ih
theorem Vw {l : List (Int × AV)} {kvs : List (Int × Value)} {k : Int} {x : AV} {v : Value} (h : An (EI W) l kvs) (nd : (kvs.map (·.1)).Nodup) (rv : RV W x v) : An (EI W) (D5 l k x) (stored kvs k v) := Lh (f := id) oq h nd rv
theorem Vu {l : List (List Nat × AV)} {kvs : List (Str × Value)} {k : List Nat} {x : AV} {v : Value} (h : An (ES W) l kvs) (nd : (kvs.map (·.1)).Nodup) (rv : RV W x v) : An (ES W) (O8 l k x) (stored kvs (⟨k.toArray⟩ : Str) v) := Lh oo h nd rv
theorem An.len {α β : Type} {R : α -> β -> Prop} {l : List α} {r : List β} (h : An R l r) : r.length = l.length := h.length.symm
theorem XH {prog : Program} {w : World} {h : Heap} {l : List AV} {ns : List Int} {vs : List Value} (r : Cr W l vs) : JK.intsOf l = some ns -> ItemsAre (intKind prog w) ns vs := by
 induction r generalizing ns with
 | nil => exact fun e => Option.some.inj e ▸ .nil
 | @cons x v l vs a b ih =>
  intro e
  cases x with
  | int i =>
   obtain ⟨ms, e1, e2⟩ := Option.map_eq_some_iff.mp e
   obtain ⟨t, rfl⟩ := a.int_
   rw [<- e2]
   exact .cons (decide_eq_true rfl) (ih e1)
  | _ => exact nomatch e
theorem Cr.cons_ {x : AV} {l : List AV} {vs : List Value} (r : Cr W (x :: l) vs) : ∃ v us, vs = v :: us /\ RV W x v /\ Cr W l us := by cases r; exact ⟨_, _, rfl, by assumption, by assumption⟩
theorem Cr.nil_ {vs : List Value} (r : Cr W [] vs) : vs = [] := by cases r; rfl
theorem Su {a b : Int} {l : List AV} {v : Value} (r : RV W (.tup (.int a :: .int b :: l)) v) : ∃ d o t u vs, v = .ref d /\ W.P d = some o /\ MT o (.int a t :: .int b u :: vs) /\ Cr W l vs := by
 obtain ⟨d, o, vs, e1, e2, e3, r⟩ := r.tup_
 obtain ⟨_, us, h1, r1, r⟩ := r.cons_
 obtain ⟨_, vs', h2, r2, r⟩ := r.cons_
 obtain ⟨t, h3⟩ := r1.int_
 obtain ⟨u, h4⟩ := r2.int_
 exact ⟨d, o, t, u, vs', e1, e2, by rw [<- h3, <- h4, <- h2, <- h1]; exact e3, r⟩
theorem Sv {x : AV} {v : Value} {k : AZ} (r : RV W x v) (e : JK x = some k) : ∃ a, v = .ref a /\ KP prog w W k a := by
 unfold JK at e
 split at e
 ·cases e
  obtain ⟨d, o, t, u, vs, h1, h2, h3, r⟩ := Su r
  rw [r.nil_] at h3
  exact ⟨d, h1, fun h k => ⟨o, _, _, k _ _ h2, h3.1, h3.2.choose_spec, t, u, rfl⟩⟩
 ·obtain ⟨ns, e', rfl⟩ := Option.map_eq_some_iff.mp e
  obtain ⟨d, o, t, u, vs, h1, h2, h3, r⟩ := Su r
  obtain ⟨_, us, h4, r1, r⟩ := r.cons_
  obtain ⟨d', o', vs', f1, f2, f3, r'⟩ := r1.tup_
  rw [h4, r.nil_, f1] at h3
  exact ⟨d, h1, fun h k => ⟨o, _, _, k _ _ h2, h3.1, h3.2.choose_spec, t, u, d', rfl, ⟨o', _, _, k _ _ f2, f3.1, f3.2.choose_spec, XH (h := h) r' e'⟩⟩⟩
 ·cases e
end
end
section
variable {c : Cx} {d : Nat} {sg : CZ}
noncomputable def inB (j : Int) : Bool := match j with
 | .ofNat n => Nat.ble n 99999
 | .negSucc n => Nat.ble n 99999
noncomputable def kH (H : Hp) (k : AV -> Hp -> Prop) : AV -> Prop := fun x => k x H
noncomputable def XB (l : List AV) (j : Int) (K : AV -> Prop) : Prop := gd (Ii l.length && inB j) (oK (M7 l j) K)
theorem TY {j : Int} : inB j = true ↔ -100000 <= j /\ j < 100000 := by
 cases j with
 | ofNat n => exact ⟨fun h => by have := Nat.le_of_ble_eq_true h; rw [Int.ofNat_eq_natCast]; omega, fun h => Nat.ble_eq_true_of_le (by rw [Int.ofNat_eq_natCast] at h; omega)⟩
 | negSucc n => exact ⟨fun h => by have := Nat.le_of_ble_eq_true h; omega, fun h => Nat.ble_eq_true_of_le (by omega)⟩
theorem aT {l : List AV} {j : Int} {K : AV -> Prop} (p : XB l j K) : l.length < 100000 /\ (-100000 <= j /\ j < 100000) /\ ∃ x, M7 l j = some x /\ K x := by
 obtain ⟨h, p⟩ := Ea p
 rw [Bool.and_eq_true] at h
 exact ⟨Nat.le_of_ble_eq_true h.1, TY.mp h.2, C9 p⟩
theorem ixI {l : List AV} {j : Int} {K : AV -> Prop} {x : AV} (hl : l.length < 100000) (h1 : -100000 <= j) (h2 : j < 100000) (e : M7 l j = some x) (h : K x) : XB l j K :=
 Ei (by rw [Bool.and_eq_true]; exact ⟨Nat.ble_eq_true_of_le hl, TY.mpr ⟨h1, h2⟩⟩) (EL e h)
noncomputable def og (l : List AV) (i : AV) (H : Hp) (k : AV -> Hp -> Prop) : Prop := match i with
 | .int j => XB l j (kH H k)
 | _ => False
@[irreducible] noncomputable def u9 (s : List Nat) (i : AV) (H : Hp) (k : AV -> Hp -> Prop) : Prop := ∃ j n, i = .int j /\ 0 <= j /\ j < 100000 /\ getL s j.toNat = some n /\ k (.str [n]) H
theorem Xg {s : List Nat} {i : AV} {H : Hp} {k : AV -> Hp -> Prop} : u9 s i H k = ∃ j n, i = .int j /\ 0 <= j /\ j < 100000 /\ getL s j.toNat = some n /\ k (.str [n]) H := by unfold u9; rfl
noncomputable def itI (l : List (Int × AV)) (i : AV) (H : Hp) (k : AV -> Hp -> Prop) : Prop := oK (Us i) fun j => oK (Dn l j) (kH H k)
noncomputable def itS (l : List (List Nat × AV)) (i : AV) (H : Hp) (k : AV -> Hp -> Prop) : Prop := oK (Zk i) fun j => oK (Ao l j) (kH H k)
noncomputable def itK (i : AV) (H : Hp) (k : AV -> Hp -> Prop) : AO -> Prop := fun o => match o with
 | .list l => og l i H k
 | .idict l => itI l i H k
 | .sdict l => itS l i H k
 | _ => False
noncomputable def AR : V2 := fun o i H k => match o with
 | .tup l => og l i H k
 | .lst l => og l i H k
 | .str s => u9 s i H k
 | .loc n => hK (AB H n) (itK i H k)
 | _ => False
theorem XA {l : List AV} {i : AV} {H : Hp} {k : AV -> Hp -> Prop} (p : og l i H k) : ∃ j, i = .int j /\ XB l j (kH H k) := by
 cases i with
 | int j => exact ⟨j, rfl, p⟩
 | _ => exact False.elim p
theorem D7 {α : Type} {l : List α} : ∀ {n : Nat}, getL l n = l[n]? := by
 induction l with
 | nil => exact rfl
 | cons a r ih => intro n; cases n with
  | zero => rfl
  | succ n => exact ih
theorem VN {n : Nat} {i : Int} {m : Nat} (h : (0 <= i /\ i.toNat = m /\ m < n) \/ (i < 0 /\ 0 <= i + n /\ (i + n).toNat = m)) : seqIndex? i n = some m := by
 unfold seqIndex?
 rcases h with h | h
 ·dsimp only
  rw [if_neg (Int.not_lt.mpr h.1), if_pos (by rw [Bool.and_eq_true]; exact ⟨decide_eq_true h.1, decide_eq_true (by omega)⟩), h.2.1]
 ·dsimp only
  rw [if_pos h.1, if_pos (by rw [Bool.and_eq_true]; exact ⟨decide_eq_true h.2.1, decide_eq_true (by omega)⟩), h.2.2]
theorem TU {l : List AV} {j : Int} {x : AV} (e : M7 l j = some x) : ∃ m, getL l m = some x /\ ((0 <= j /\ j.toNat = m /\ m < l.length) \/ (j < 0 /\ 0 <= j + l.length /\ (j + l.length).toNat = m)) := by
 cases j with
 | ofNat n => exact ⟨n, e, .inl ⟨Int.natCast_nonneg n, rfl, Bn e⟩⟩
 | negSucc n =>
  unfold M7 at e
  dsimp only at e
  split at e
  ·rename_i hb
   have := Nat.le_of_ble_eq_true hb
   exact ⟨_, e, .inr (by omega)⟩
  ·exact nomatch e
section
variable {A : Around} {W : Wd} {G : Gm} {H : Hp} {s : Shared} {Q : Value -> Shared -> Prop} {l : List AV} {vs : List Value} {a : Addr} {j : Int} {t : Tok} {K : AV -> Prop}
theorem M8 (hl : s.heap.IsList a vs.toArray) (r : Cr W l vs) (p : XB l j K) (q : ∀ x v, RV W x v -> K x -> Q v s) : wpAny (model c.prog c.w) A (getItem (.ref a) (.int j t)) Q Ds s := by
 obtain ⟨p1, p2, x, e, kx⟩ := aT p
 have hlen := r.length
 obtain ⟨m, e1, hm⟩ := TU e
 obtain ⟨v, e2, r1⟩ := r.get e1
 rw [hlen] at hm
 rcases hm with hm | hm
 ·exact wpAny_getItem_list hl hm.1 (by omega) (by rw [hm.2.1, List.getElem?_toArray]; exact e2) (q x v r1 kx)
 ·exact wpAny_getItem_list_neg hl hm.1 (by rw [List.size_toArray]; omega) (by omega) (by rw [List.size_toArray, hm.2.2, List.getElem?_toArray]; exact e2) (q x v r1 kx)
theorem XC (hl : IsTup s.heap a vs.toArray) (r : Cr W l vs) (p : XB l j K) (q : ∀ x v, RV W x v -> K x -> Q v s) : wpAny (model c.prog c.w) A (getItem (.ref a) (.int j t)) Q Ds s := by
 obtain ⟨p1, p2, x, e, kx⟩ := aT p
 obtain ⟨m, e1, hm⟩ := TU e
 obtain ⟨v, e2, r1⟩ := r.get e1
 rw [r.length] at hm
 exact getItem_tuple hl (by omega) (by omega) (by rw [List.size_toArray]; exact VN hm) (by rw [List.getElem?_toArray]; exact e2) (q x v r1 kx)
theorem QF {i : Int} {t : Tok} : (intKind c.prog c.w).is i (.int i t) = true := by simp [intKind, Value.isInt]
theorem XD {eo ei : Expr} (hs : ∀ x y, subscripted ei false x y = operate [x, y] (getItem x y)) {o : AV} {i : AV} {u z : Value} {k : AV -> Hp -> Prop} (X : AM c.prog c.w c.h₀ W G H s.heap) (r1 : RV W o u) (r2 : RV W i z) (p : AR o i H k) (q : ∀ x v t, RV W x v -> k x H -> Q v (sh s s.heap t)) :
  wpAny (model c.prog c.w) A (subscriptTail eo ei u z) Q Ds s := by
 cases o with
 | tup l =>
  obtain ⟨j, rfl, p⟩ := XA p
  obtain ⟨t, rfl⟩ := r2.int_
  obtain ⟨a, ob, vs, rfl, e, ⟨ec, n, ed⟩, rs⟩ := r1.tup_
  have g := X.keepP _ _ e
  exact tail_any (T := "tuple") (o := .ref a) ⟨_, g, ec⟩ PySem.F.slot_tuple_getitem.lookup (XC ⟨_, g, ec, n, ed⟩ rs p fun x v r kx => q x v s.toks r kx) (hs _ _)
 | lst l =>
  obtain ⟨j, rfl, p⟩ := XA p
  obtain ⟨t, rfl⟩ := r2.int_
  obtain ⟨a, ob, vs, rfl, e, ⟨ec, n, ed⟩, rs⟩ := r1.lst_
  have g := X.keepP _ _ e
  exact tail_any (T := "list") (o := .ref a) ⟨_, g, ec⟩ slot_list_getitem.lookup (M8 ⟨_, g, ec, n, ed⟩ rs p fun x v r kx => q x v s.toks r kx) (hs _ _)
 | str cs =>
  obtain ⟨j, n, ei, p1, p2, e, kx⟩ := Xg.mp p
  obtain ⟨t, rfl⟩ := r1.str_
  rw [ei] at r2
  obtain ⟨t', rfl⟩ := r2.int_
  have hlt := Bn e
  rw [D7] at e
  refine tail_any (T := "str") (typeIs_str _ _ _) PySem.F.slot_str_getitem.lookup (getItem_str (c := n) (by simp; omega) ?_ (q (.str [n]) _ _ (.str [n] _) kx)) (hs _ _)
  rw [VN (m := j.toNat) (.inl ⟨p1, rfl, by simp [Str.length]; omega⟩), Option.bind_some, List.getElem?_toArray]
  exact e
 | loc n =>
  rw [r1.loc_.1]
  obtain ⟨o, g, p⟩ := R5 p
  cases o with
  | list l =>
   obtain ⟨_, vs, m, gl, rl⟩ := X.obj n _ g
   obtain ⟨j, rfl, p⟩ := XA p
   obtain ⟨t, rfl⟩ := r2.int_
   exact tail_any (T := "list") (o := .ref (W.ρ n)) ⟨_, gl, rfl⟩ slot_list_getitem.lookup (M8 ⟨_, gl, rfl, m, rfl⟩ rl p fun x v r kx => q x v s.toks r kx) (hs _ _)
  | idict l =>
   obtain ⟨j, ei, p⟩ := C9 p
   obtain ⟨y, e, kx⟩ := C9 p
   obtain ⟨_, kvs, dl, al⟩ := X.obj n _ g
   obtain ⟨v, e1, rv⟩ := It al e
   rw [Jp ei] at r2
   obtain ⟨t, rfl⟩ := r2.int_
   exact tail_any dl.typeIs slot_dict_getitem.lookup (wpAny_getItem_of (knd := intKind c.prog c.w) QF dl.mapOf e1 (q _ v _ rv kx)) (hs _ _)
  | sdict l =>
   obtain ⟨j, ei, p⟩ := C9 p
   obtain ⟨y, e, kx⟩ := C9 p
   obtain ⟨_, kvs, dl, al⟩ := X.obj n _ g
   obtain ⟨v, e1, rv⟩ := FA al e
   rw [Kx ei] at r2
   obtain ⟨t, rfl⟩ := r2.str_
   exact tail_any dl.typeIs slot_dict_getitem.lookup (wpAny_getItem_of (knd := strKind c.prog c.w) (strKind_is c.prog c.w _ _) dl.mapOf e1 (q _ v _ rv kx)) (hs _ _)
  | tdict l => exact False.elim p
  | inst _ _ => exact False.elim p
 | none => exact False.elim p
 | bool _ => exact False.elim p
 | int _ => exact False.elim p
 | inst _ _ _ => exact False.elim p
end
theorem qF {o i : Expr} {pos vo vi} (a : SE c d sg o vo) (b : SE c d sg i vi) (hs : ∀ x y, subscripted i false x y = operate [x, y] (getItem x y)) : SE c d sg (.Subscript o i pos) (AL vo vi AR) := fun A env W G H F s k Q rm X Y v q =>
 Subscript_ (a A env W G H F s _ _ rm X Y v fun x u W₁ H₁ h₁ t₁ le₁ X₁ Y₁ r₁ k₁ => b A env W₁ G H₁ F _ _ _ rm X₁ Y₁ k₁ fun y z W₂ H₂ h₂ t₂ le₂ X₂ Y₂ r₂ k₂ =>
  XD (s := sh s h₂ t₂) hs X₂ (r₁.mono le₂) r₂ k₂ fun x v t r kx => q x v W₂ H₂ h₂ t (le₁.trans le₂) X₂ Y₂ r kx)
noncomputable def seI (l : List (Int × AV)) (n : Nat) (i v : AV) (H : Hp) (k : Hp -> Prop) : Prop := oK (Us i) fun j => gd (Ii l.length) (k (Ab H n (.idict (D5 l j v))))
noncomputable def seS (l : List (List Nat × AV)) (n : Nat) (i v : AV) (H : Hp) (k : Hp -> Prop) : Prop := oK (Zk i) fun j => gd (Ii l.length) (k (Ab H n (.sdict (O8 l j v))))
noncomputable def seT (l : List (AZ × AV)) (n : Nat) (i v : AV) (H : Hp) (k : Hp -> Prop) : Prop := oK (JK i) fun r => gd ((Kh l r).isNone && Ii l.length) (k (Ab H n (.tdict (l ++ [(r, v)]))))
noncomputable def seK (n : Nat) (i v : AV) (H : Hp) (k : Hp -> Prop) : AO -> Prop := fun o => match o with
 | .idict l => seI l n i v H k
 | .sdict l => seS l n i v H k
 | .tdict l => seT l n i v H k
 | _ => False
noncomputable def PE : V3 := fun o i v H k => match o with
 | .loc n => hK (AB H n) (seK n i v H k)
 | _ => False
theorem cT {o i v : AV} {H : Hp} {k : Hp -> Prop} (p : PE o i v H k) : ∃ n ob, o = .loc n /\ AB H n = some ob /\ seK n i v H k ob := by
 cases o with
 | loc n => obtain ⟨ob, g, p⟩ := R5 p; exact ⟨n, ob, rfl, g, p⟩
 | _ => exact False.elim p
theorem cZ : S3 c d (fun o i v => setItem o i v) PE := fun A W G H s x y z u v r k Q rm X r1 r2 r3 p q => by
 obtain ⟨n, ob, rfl, g, p⟩ := cT p
 obtain ⟨rfl, hn⟩ := r1.loc_
 have sz : ∀ {α β : Type} {R : α -> β -> Prop} {l : List α} {r : List β}, An R l r -> l.length < 100000 -> r.length <= sizeLine := fun al h => al.length ▸ Nat.le_trans (Nat.le_of_lt h) BL
 cases ob with
 | idict l =>
  obtain ⟨j, ei, p⟩ := C9 p
  obtain ⟨hl, p⟩ := CW p
  obtain ⟨e0, kvs, dl, al⟩ := X.obj n _ g
  rw [Jp ei] at r2
  obtain ⟨t, rfl⟩ := r2.int_
  refine wpAny_setItem_pairs (knd := intKind c.prog c.w) QF dl (fun h' dl' hs => ?_) (sz al hl)
  obtain ⟨X', s'⟩ := X.set g (e0 ▸ hs) (o' := .idict _) ⟨e0, _, dl', Vw al dl.choose_spec.choose_spec.choose_spec.2.2.2.2.2 r3⟩
  exact q W _ h' _ s' X' p
 | sdict l =>
  obtain ⟨j, ei, p⟩ := C9 p
  obtain ⟨hl, p⟩ := CW p
  obtain ⟨e0, kvs, dl, al⟩ := X.obj n _ g
  rw [Kx ei] at r2
  obtain ⟨t, rfl⟩ := r2.str_
  refine wpAny_setItem_pairs (knd := strKind c.prog c.w) (strKind_is c.prog c.w _ _) dl (fun h' dl' hs => ?_) (sz al hl)
  obtain ⟨X', s'⟩ := X.set g (e0 ▸ hs) (o' := .sdict _) ⟨e0, _, dl', Vu al dl.choose_spec.choose_spec.choose_spec.2.2.2.2.2 r3⟩
  exact q W _ h' _ s' X' p
 | tdict l =>
  obtain ⟨kr, ei, p⟩ := C9 p
  obtain ⟨hb, p⟩ := Ea p
  rw [Bool.and_eq_true] at hb
  have hl := Nat.le_of_ble_eq_true hb.2
  have e := Option.isNone_iff_eq_none.mp hb.1
  obtain ⟨e0, xs, dl, al⟩ := X.obj n _ g
  obtain ⟨a, rfl, kp⟩ := Sv (prog := c.prog) (w := c.w) r2 ei
  refine wpAny_setItem_heap (knd := Np c.prog c.w) (by show A.units + 1 + 8 < cLine; have := rm.u; omega) (kp s.heap X.keepP) dl (fun h' dl' hs => ?_) (sz al hl)
  rw [storedH_new ((M5 al).2 e)] at dl'
  obtain ⟨X', s'⟩ := X.set g (e0 ▸ hs) (o' := .tdict (l ++ [(kr, z)])) ⟨e0, _, dl', al.append (.cons ⟨rfl, kp, r3⟩ .nil)⟩
  exact q W _ h' _ s' X' p
 | list _ => exact False.elim p
 | inst _ _ => exact False.elim p
noncomputable def MP (K : Frag) (C : Nat) (name : Str) : Bool := plainGet K C name && hasDictIn K C && (findIn K (.ref C) name == some none)
noncomputable def atK (C a : Nat) (H : Hp) (k : AV -> Hp -> Prop) : AO -> Prop := fun o => oK (eQ C o) fun l => oK (Dt l a) (kH H k)
noncomputable def WC (C a : Nat) : V1 := fun o H k => match o with
 | .loc n => hK (AB H n) (atK C a H k)
 | .inst c is l => gd (Nat.beq c C) (oK (Dt (is.zip l) a) (kH H k))
 | _ => False
theorem XF {a b : Nat} {t : Tok} : (Value.str (nm b) t).isStr (nm a) = Nat.beq b a := by
 show (nm b == nm a) = _
 cases q : Nat.beq b a with
 | true => rw [Nat.eq_of_beq_eq_true q]; exact beq_self_eq_true _
 | false => exact beq_eq_false_iff_ne.mpr fun e => Nat.ne_of_beq_eq_false q (cn e)
theorem EF.isStr {W : Wd} {p : Nat × AV} {e : DictEntry} (h : EF W p e) {a : Nat} : e.key.isStr (nm a) = Nat.beq p.1 a := h.1.elim fun t z => by rw [z]; exact XF
theorem R7 {W : Wd} {l : List (Nat × AV)} {es : List DictEntry} {a : Nat} {x : AV} (h : An (EF W) l es) (q : Dt l a = some x) : ∃ v, PySem.W.getL (nm a) es = some (some v) /\ RV W x v := by
 unfold PySem.W.getL
 induction h with
 | nil => exact nomatch q
 | @cons p e l es h _ ih =>
  unfold Dt EN at q
  rw [List.find?_cons, h.isStr]
  cases z : Nat.beq p.1 a with
  | true => rw [z] at q; exact ⟨_, rfl, Option.some.inj q ▸ h.2⟩
  | false =>
   rw [z] at q
   obtain ⟨v, e2, r2⟩ := ih q
   refine ⟨v, ?_, r2⟩
   dsimp only
   split at e2
   ·rename_i he; rw [he]; exact e2
   ·split at e2 <;> exact nomatch e2
noncomputable def Qs (W : Wd) (h : Heap) (C : Nat) (l : List (Nat × AV)) (v : Value) : Prop := ∃ a dx es n, v = .ref a /\ h.get? a = some (instObj C dx) /\ h.get? dx = some (dictOf es n) /\ An (EF W) l es
theorem QH {W : Wd} {G : Gm} {H : Hp} {h : Heap} {C : Nat} {is : List Nat} {l : List AV} {v : Value} (X : AM c.prog c.w c.h₀ W G H h) (r : RV W (.inst C is l) v) : Qs W h C (is.zip l) v := by
 obtain ⟨a, dx, es, n, e, e1, e2, al⟩ := r.inst_
 exact ⟨a, dx, es, n, e, X.keepP _ _ e1, X.keepP _ _ e2, al⟩
theorem QG {W : Wd} {G : Gm} {H : Hp} {h : Heap} {C n : Nat} {l : List (Nat × AV)} {v : Value} (X : AM c.prog c.w c.h₀ W G H h) (r : RV W (.loc n) v) (g : AB H n = some (.inst C l)) : Qs W h C l v := by
 obtain ⟨e1, ⟨es, m, g1, al⟩, _⟩ := X.obj n _ g
 exact ⟨_, _, es, m, r.loc_.1, X.keepP _ _ e1, g1, al⟩
theorem Ys {W : Wd} {G : Gm} {H : Hp} {h : Heap} {C a : Nat} {x : AV} {v : Value} {k : AV -> Hp -> Prop} (X : AM c.prog c.w c.h₀ W G H h) (r : RV W x v) (p : WC C a x H k) : ∃ l y, Qs W h C l v /\ Dt l a = some y /\ k y H := by
 cases x with
 | loc n =>
  obtain ⟨l, g, p⟩ := hO (fun _ _ => YB) p
  obtain ⟨y, e, ky⟩ := C9 p
  exact ⟨l, y, QG X r g, e, ky⟩
 | inst C' is l =>
  obtain ⟨hc, p⟩ := Ea p
  obtain ⟨y, e, ky⟩ := C9 p
  rw [Nat.eq_of_beq_eq_true hc] at r
  exact ⟨_, y, QH X r, e, ky⟩
 | _ => exact False.elim p
end
section
variable {c : Cx} {d : Nat} {sg : CZ}
theorem Ua {W : Wd} {x : AV} {v : Value} (r : RV W x v) : handedIn v = true := by cases r <;> rfl
theorem Oc {K : Frag} {C : Nat} {name : Str} (h : MP K C name = true) : plainGet K C name = true /\ hasDictIn K C = true /\ findIn K (.ref C) name = some none := by
 unfold MP at h
 rw [Bool.and_eq_true, Bool.and_eq_true] at h
 exact ⟨h.1.1, h.1.2, eq_of_beq h.2⟩
theorem LH {h : Heap} {a dx C n : Nat} {es : List DictEntry} (h1 : h.get? a = some (instObj C dx)) (h2 : h.get? dx = some (dictOf es n)) : PySem.W.InstAt h a (instObj C dx) C (some (dictOf es n)) :=
 ⟨h1, rfl, rfl, h2⟩
theorem Xz {A : Around} {W : Wd} {G : Gm} {H : Hp} {s : Shared} {x : AV} {v : Value} {C a : Nat} {k : AV -> Hp -> Prop} {Q : Value -> Shared -> Prop} {ex : Bool} (X : AM c.prog c.w c.h₀ W G H s.heap) (r : RV W x v) (hk : MP c.K C (nm a) = true) (p : WC C a x H k)
  (q : ∀ y u, RV W y u -> k y H -> Q u { s with toks := s.toks + 1 }) : wpAny (model c.prog c.w) A (getAttr v (nm a) ex) Q Ds s := by
 obtain ⟨k1, k2, k3⟩ := Oc hk
 obtain ⟨l, y, ⟨ad, dx, es, n, rfl, g1, g2, al⟩, e, ky⟩ := Ys X r p
 obtain ⟨u, eu, ru⟩ := R7 al e
 exact get_value (c.X.keeps X.old) (LH g1 g2) (plainGet_of k1).1 (findObj_own k2 k3 rfl (by rw [lookIn_dict]; exact eu)) (Ua ru) (q y u ru ky)
noncomputable def lQ (C a : Nat) (k : AV -> Hp -> Prop) : AV -> Hp -> Prop := fun x H => WC C a x H k
noncomputable def AI (C a : Nat) (o : VE) : VE := fun F H k => o F H (lQ C a k)
theorem hX {o : Expr} {name : Str} {pos vo} {C a : Nat} (ho : SE c d sg o vo) (hn : name = nm a) (hk : MP c.K C (nm a) = true)
  (hs : ∀ env, eval (.Attribute o name pos) env = (do
     let x <- eval o env
     standAt pos.atName
     let r <- holding [x] (getAttr x name true)
     letTemporaryGo o x r
     pure r)) : SE c d sg (.Attribute o name pos) (AI C a vo) := fun A env W G H F s k Q rm X Y v q =>
 Attribute_any_ (ho A env W G H F s _ _ rm X Y v fun x u W₁ H₁ h₁ t₁ le₁ X₁ Y₁ r₁ k₁ => by
  rw [hn]
  exact Xz X₁ r₁ hk k₁ fun y z rz kz => q y z W₁ H₁ h₁ (t₁ + 1) le₁ X₁ Y₁ rz kz) (hs env)
noncomputable def Sn (K : Frag) (C : Nat) (name : Str) : Bool := (findIn K (.ref C) "__setattr__" == some (some (.builtin "object.__setattr__"))) && plainOver K C && (takerIn K C name == some none) && hasDictIn K C
theorem UB {W : Wd} {hsh : Int} {tk : Tok} {x : AV} {v : Value} (rv : RV W x v) {l : List (Nat × AV)} {es : List DictEntry} {a : Nat} (h : An (EF W) l es) : An (EF W) (Im l a x) (putL (nm a) hsh (.str (nm a) tk) v es) := by
 induction h with
 | nil => exact .cons ⟨⟨_, rfl⟩, rv⟩ .nil
 | @cons p e l es h t ih =>
  unfold Im Ft
  rw [putL, h.isStr]
  cases z : Nat.beq p.1 a with
  | true => exact .cons ⟨h.1, rv⟩ t
  | false => exact .cons h ih
theorem My {l : List (Nat × AV)} {a : Nat} {x : AV} : (Im l a x).map (·.1) = if l.any (fun p => Nat.beq p.1 a) then l.map (·.1) else l.map (·.1) ++ [a] := by
 induction l with
 | nil => rfl
 | cons p r ih =>
  unfold Im Ft
  rw [List.any_cons]
  cases z : Nat.beq p.1 a with
  | true => rfl
  | false =>
   rw [Bool.false_or, List.map_cons, List.map_cons]
   refine (congrArg (p.1 :: ·) ih).trans ?_
   split <;> rfl
theorem RS {l : List (Nat × AV)} {a : Nat} {x : AV} (h : (l.map (·.1)).Nodup) : ((Im l a x).map (·.1)).Nodup := by
 rw [My]
 split
 ·exact h
 ·rename_i q
  rw [List.nodup_append]
  refine ⟨h, by simp, fun b hb b' hb' => ?_⟩
  obtain ⟨p, hp, rfl⟩ := List.mem_map.mp hb
  rw [List.mem_singleton] at hb'
  subst hb'
  intro e
  exact q (List.any_eq_true.mpr ⟨p, hp, by rw [e]; exact Nat.beq_refl _⟩)
theorem O9 {l : List (Nat × AV)} {a : Nat} {x : AV} : (Im l a x).length <= l.length + 1 := by
 have := congrArg List.length (My (l := l) (a := a) (x := x))
 rw [List.length_map] at this
 rw [this]
 split <;> simp
theorem aK {W : Wd} {l : List (Nat × AV)} {es : List DictEntry} (h : An (EF W) l es) : es.any (·.refKey) = false := by
 induction h with
 | nil => rfl
 | cons h _ ih =>
  rw [List.any_cons, ih, Bool.or_false]
  exact h.1.elim fun t e => by unfold DictEntry.refKey; rw [e]
theorem Yt {A : Around} {s : Shared} {C x dx : Addr} {es : List DictEntry} {n : Nat} {name : Str} {tk : Tok} {v : Value} {R : Result -> Shared -> Prop} (X : c.K.In s.heap) (h1 : s.heap.get? x = some (instObj C dx)) (h2 : s.heap.get? dx = some (dictOf es n))
  (hp : plainOver c.K C = true) (ht : takerIn c.K C name = some none) (hh : hasDictIn c.K C = true) (hl : es.any (·.refKey) = false) (hz : (putL name (PyData.keyHash c.w.params name) (.str name s.toks) v es).length <= 1000)
  (h : ∀ h', Heap.SameBut dx s.heap h' -> h'.get? dx = some (dictOf (putL name (PyData.keyHash c.w.params name) (.str name s.toks) v es) (putN name es n)) -> R (.ok (.ret .none)) { s with heap := h', toks := s.toks + 1 }) :
  codeAny (model c.prog c.w) A (.call (.builtin "object.__setattr__") ⟨[.ref x, .str name tk, v], []⟩) R s := by
 refine osa_open X (LH h1 h2) hp ht fun b => ?_
 obtain ⟨cd, hc, hd'⟩ := any_some hh
 have he := putName_dict name (PyData.keyHash c.w.params name) (.str name s.toks) v es n
 refine wpAny_bind (wpAny_pure (wpAny_bind (wpAny_bind (wpAny_loadPart h1 (wpAny_bind ((looks_clsIn X hc).here ?_))))))
 rw [hd']
 refine wpAny_pure (a := some dx) (wpAny_bind (wpAny_pure (wpAny_bind ?_)))
 unfold nsSet
 refine wpAny_bind (wpAny_bind (wpAny_askSetting (wpAny_pure (wpAny_bind (wpAny_mkText (wpAny_bind (wpAny_loadPart h2 ?_)))))))
 have cc : (!(es.toArray).any (·.key.isStr name) && (es.toArray).any (·.refKey)) = false := by
  have : (es.toArray).any (·.refKey) = es.any (·.refKey) := by simp
  rw [this, hl, Bool.and_false]
 dsimp only
 rw [aRefKeyMayBeTheName_at, cc]
 have D' : (s.heap.update dx (Obj.putName name (PyData.keyHash c.w.params name) (.str name s.toks) v)).get? dx = some (dictOf (putL name (PyData.keyHash c.w.params name) (.str name s.toks) v es) (putN name es n)) := by
  rw [<- he]
  exact Heap.get?_update_self _ h2 (by rw [he]; rfl)
 refine wpAny_updatePart h2 ?_
 refine wpAny_bind (wpAny_lookBehind D' (pastItsLine_dict (by rw [List.size_toArray, sizeLine_eq]; omega)) ?_)
 exact wpAny_pure (h _ (Heap.SameBut.update ..) D')
noncomputable def fA (C a n : Nat) (y : AV) (H : Hp) (k : Hp -> Prop) : AO -> Prop := fun o => oK (eQ C o) fun l => gd (Nat.ble l.length 499) (k (Ab H n (.inst C (Im l a y))))
noncomputable def V7 (C a : Nat) : AV -> AV -> Hp -> (Hp -> Prop) -> Prop := fun o y H k => match o with
 | .loc n => hK (AB H n) (fA C a n y H k)
 | _ => False
theorem Yn {C a : Nat} {o y : AV} {H : Hp} {k : Hp -> Prop} (p : V7 C a o y H k) : ∃ n l, o = .loc n /\ AB H n = some (.inst C l) /\ l.length < 500 /\ k (Ab H n (.inst C (Im l a y))) := by
 cases o with
 | loc n =>
  obtain ⟨l, g, p⟩ := hO (fun _ _ => YB) p
  obtain ⟨h, p⟩ := Ea p
  exact ⟨n, l, rfl, g, Nat.lt_succ_of_le (Nat.le_of_ble_eq_true h), p⟩
 | _ => exact False.elim p
theorem Xy {A : Around} {W : Wd} {G : Gm} {H : Hp} {s : Shared} {x y : AV} {u v : Value} {C a : Nat} {k : Hp -> Prop} {Q : Unit -> Shared -> Prop} (X : AM c.prog c.w c.h₀ W G H s.heap) (r : RV W x u) (r2 : RV W y v) (hk : Sn c.K C (nm a) = true) (p : V7 C a x y H k)
  (q : ∀ H' h' t, C6 W G H s.heap W H' h' -> AM c.prog c.w c.h₀ W G H' h' -> k H' -> Q () (sh s h' t)) : wpAny (model c.prog c.w) A (setAttr u (nm a) v) Q Ds s := by
 unfold Sn at hk
 rw [Bool.and_eq_true, Bool.and_eq_true, Bool.and_eq_true] at hk
 obtain ⟨n, l, rfl, g, hl, p⟩ := Yn p
 obtain ⟨e1, ⟨es, m, g1, al⟩, nd⟩ := X.obj n _ g
 have KX := c.X.keeps X.old
 have g0 := X.keepP _ _ e1
 have al' := fun tk => UB (hsh := PyData.keyHash c.w.params (nm a)) (tk := tk) (a := a) r2 al
 rw [r.loc_.1]
 refine set_plain KX (LH g0 g1) (eq_of_beq hk.1.1.1) (Yt (s := { s with toks := s.toks + 1 }) KX g0 g1 hk.1.1.2 (eq_of_beq hk.1.2) hk.2 (aK al) ?_ fun h' hs hg => ?_)
 ·rw [<- (al' _).length]
  have := O9 (l := l) (a := a) (x := y)
  omega
 ·obtain ⟨X', s'⟩ := X.set g hs (o' := .inst C (Im l a y)) ⟨e1, ⟨_, _, hg, al' _⟩, RS nd⟩
  exact q _ h' _ s' X' p
end
section
inductive Fl where
 | next
 | ret (x : AV)
 | cont
inductive bD (W : Wd) : Fl -> Flow -> Prop
 | next : bD W .next .next
 | ret {x : AV} {v : Value} : RV W x v -> bD W (.ret x) (.ret v)
 | cont : bD W .cont .cont
theorem bD.mono {W W' : Wd} (h : W.le W') {x f} (r : bD W x f) : bD W' x f := by
 cases r with
 | next => exact .next
 | ret r => exact .ret (r.mono h)
 | cont => exact .cont
noncomputable abbrev VS := Ag -> Hp -> (Fl -> Ag -> Hp -> Prop) -> Prop
noncomputable def SS (c : Cx) (d : Nat) (sg : CZ) (ss : List Stmt) (vc : VS) : Prop :=
 ∀ (A : Around) (env : Env) (W : Wd) (G : Gm) (H : Hp) (F : Ag) (s : Shared) (k : Fl -> Ag -> Hp -> Prop) (Q : Flow -> Shared -> Prop),
  Rm d A -> AM c.prog c.w c.h₀ W G H s.heap -> Aw sg W G H F env s.heap -> vc F H k ->
  (∀ fl f W' H' F' h' t, W.le W' -> AM c.prog c.w c.h₀ W' G H' h' -> Aw sg W' G H' F' env h' -> bD W' fl f -> k fl F' H' -> Q f (sh s h' t)) ->
  wpAny (model c.prog c.w) A (execs ss env) Q Ds s
noncomputable def SO (c : Cx) (d : Nat) (sg : CZ) (st : Stmt) (vc : VS) : Prop :=
 ∀ (A : Around) (env : Env) (W : Wd) (G : Gm) (H : Hp) (F : Ag) (s : Shared) (k : Fl -> Ag -> Hp -> Prop) (Q : Flow -> Shared -> Prop),
  Rm d A -> AM c.prog c.w c.h₀ W G H s.heap -> Aw sg W G H F env s.heap -> vc F H k ->
  (∀ fl f W' H' F' h' t, W.le W' -> AM c.prog c.w c.h₀ W' G H' h' -> Aw sg W' G H' F' env h' -> bD W' fl f -> k fl F' H' -> Q f (sh s h' t)) ->
  wpAny (model c.prog c.w) A (exec st env) Q Ds s
variable {c : Cx} {d : Nat} {sg : CZ}
noncomputable def AS : VS := fun F H k => k .next F H
noncomputable def Ro (b : VS) (k : Fl -> Ag -> Hp -> Prop) : Fl -> Ag -> Hp -> Prop := fun fl F H => match fl with
 | .next => b F H k
 | .ret x => k (.ret x) F H
 | .cont => k .cont F H
noncomputable def AG (a b : VS) : VS := fun F H k => a F H (Ro b k)
theorem pT : SS c d sg [] AS := fun A env W G H F s k Q rm X Y v q => wpAny_execs_nil (q _ _ _ _ _ _ s.toks .refl X Y .next v)
theorem fb {st : Stmt} {ss : List Stmt} {va vb} (a : SO c d sg st va) (b : SS c d sg ss vb) : SS c d sg (st :: ss) (AG va vb) := fun A env W G H F s k Q rm X Y v q =>
 wpAny_execs_cons (a A env W G H F s _ _ rm X Y v fun fl f W₁ H₁ F₁ h₁ t₁ le₁ X₁ Y₁ r₁ k₁ => by
  cases r₁ with
  | next => exact b A env W₁ G H₁ F₁ _ k Q rm X₁ Y₁ k₁ fun fl f W₂ H₂ F₂ h₂ t₂ le₂ X₂ Y₂ r₂ k₂ => q _ _ _ _ _ _ t₂ (le₁.trans le₂) X₂ Y₂ r₂ k₂
  | ret r => exact q _ _ _ _ _ _ t₁ le₁ X₁ Y₁ (.ret r) k₁
  | cont => exact q _ _ _ _ _ _ t₁ le₁ X₁ Y₁ .cont k₁)
theorem AM.offSet {prog : Program} {w : World} {h₀ : Heap} {W : Wd} {G : Gm} {H : Hp} {h h' : Heap} {a : Addr} (X : AM prog w h₀ W G H h) (o : Gu W G H a) (hs : Heap.SameBut a h h') : AM prog w h₀ W G H h' := by
 have hP : ∀ b ob, W.P b = some ob -> h'.get? b = some ob := fun b ob e => (hs.2 b (fun z => by rw [z, o.P] at e; cases e)).trans (X.keepP b ob e)
 exact ⟨X.nx, X.base, hP, fun b ob e => (hs.2 b (fun z => by rw [z, o.G] at e; cases e)).trans (X.keepG b ob e), fun n ao e => (X.obj n ao e).move .refl (X.nx ▸ AX e) (hs.2 _ (o.H n ao e)) hP,
  X.inj, X.offP, X.offG, X.sep, X.low, X.three⟩
noncomputable def MV (i : Nat) (x : AV) (F : Ag) : Ag := Ik F i (some x)
theorem Gf {F : Ag} {i j : Nat} {x y : AV} (h : getL (MV i x F) j = some (some y)) : (j = i /\ y = x) \/ (j ≠ i /\ getL F j = some (some y)) := by
 unfold MV at h
 by_cases e : j = i
 ·subst e
  have hl : j < F.length := by rw [<- AF (l := F) (n := j) (y := some x)]; exact Bn h
  rw [EC hl] at h
  exact .inl ⟨rfl, by cases h; rfl⟩
 ·rw [FN e] at h
  exact .inr ⟨e, h⟩
theorem Aw.cell_ne {W : Wd} {G : Gm} {H : Hp} {F : Ag} {env : Env} {h : Heap} (Y : Aw sg W G H F env h) {cc : Addr} {o : Obj} {u : Option Value} (e : h.get? cc = some o) (ed : o.data = .cell u) : cc ≠ env.locals := by
 rintro rfl
 obtain ⟨m, ⟨ol, es, ep, g, hd, _⟩, _⟩ := Y.ns
 rw [e] at g; cases g
 rw [ed] at hd; cases hd
theorem Mv {A : Around} {env : Env} {W : Wd} {G : Gm} {H : Hp} {F : Ag} {s : Shared} {x : Str} {i : Nat} {y : AV} {v : Value} {Q : Unit -> Shared -> Prop} (X : AM c.prog c.w c.h₀ W G H s.heap) (Y : Aw sg W G H F env s.heap)
  (e : getL sg.slots i = some (x, .loc)) (r : RV W y v) (q : ∀ h' t, AM c.prog c.w c.h₀ W G H h' -> Aw sg W G H (MV i y F) env h' -> Q () (sh s h' t)) : wpAny (model c.prog c.w) A (storeName env x v) Q Ds s := by
 obtain ⟨m, hm, hv⟩ := Y.ns
 refine wpAny_storeName_local (Y.kindOf e) hm (fun h' hn hs => q h' (s.toks + 1) (X.offSet Y.off hs) ?_) (by rw [Y.kind]; rfl)
 refine ⟨Y.ok, Y.scope, Y.globals, Y.builtins, by unfold MV; rw [AF]; exact Y.len, Y.off, ⟨_, hn, fun j z av ej ea => ?_⟩, fun j z ej => ?_, Y.apart, fun j z av ej ea => ?_⟩
 ·rcases Gf ea with ⟨rfl, rfl⟩ | ⟨ne, ea'⟩
  ·rw [e] at ej; cases ej
   exact ⟨v, by simp, r⟩
  ·obtain ⟨u, eu, ru⟩ := hv j z av ej ea'
   refine ⟨u, ?_, ru⟩
   have : z ≠ x := fun q => ne (Ll (Kd Y.ok) (q ▸ ej) e)
   simp [this, eu]
 ·obtain ⟨cc, o, u, e1, e2, e3, e4, e5⟩ := Y.cell j z ej
  have ne := Y.cell_ne e2 e3
  refine ⟨cc, o, u, e1, (hs.2 cc ne).trans e2, e3, e4, fun av ea => ?_⟩
  rcases Gf ea with ⟨rfl, rfl⟩ | ⟨ne, ea'⟩
  ·rw [e] at ej; cases ej
  ·exact e5 av ea'
 ·rcases Gf ea with ⟨rfl, rfl⟩ | ⟨ne, ea'⟩
  ·rw [e] at ej; cases ej
  ·exact Y.free j z av ej ea'
theorem RH {A : Around} {env : Env} {W : Wd} {G : Gm} {H : Hp} {F : Ag} {s : Shared} {x : Str} {i : Nat} {y : AV} {v : Value} {Q : Unit -> Shared -> Prop} (X : AM c.prog c.w c.h₀ W G H s.heap) (Y : Aw sg W G H F env s.heap)
  (e : getL sg.slots i = some (x, .cell)) (r : RV W y v) (q : ∀ h' t, AM c.prog c.w c.h₀ W G H h' -> Aw sg W G H (MV i y F) env h' -> Q () (sh s h' t)) : wpAny (model c.prog c.w) A (storeName env x v) Q Ds s := by
 obtain ⟨cc, o, u, e1, e2, e3, e4, e5⟩ := Y.cell i x e
 obtain ⟨m, ⟨ol, es, ep, hl, hd, r2⟩, hv⟩ := Y.ns
 refine wpAny_storeName_cell Y.kind (Y.kindOf e) e1 ⟨o, e2, e3⟩ (fun h' hc hs => q h' s.toks (X.offSet e4 hs) ?_)
 obtain ⟨o', g', d'⟩ := hc
 have nl : env.locals ≠ cc := (Y.cell_ne e2 e3).symm
 refine ⟨Y.ok, Y.scope, Y.globals, Y.builtins, by unfold MV; rw [AF]; exact Y.len, Y.off, ⟨m, ⟨ol, es, ep, (hs.2 _ nl).trans hl, hd, r2⟩, fun j z av ej ea => ?_⟩, fun j z ej => ?_, Y.apart, fun j z av ej ea => ?_⟩
 ·rcases Gf ea with ⟨rfl, rfl⟩ | ⟨ne, ea'⟩
  ·rw [e] at ej; cases ej
  ·exact hv j z av ej ea'
 ·obtain ⟨c2, o2, u2, f1, f2, f3, f4, f5⟩ := Y.cell j z ej
  by_cases q : j = i
  ·subst q
   rw [e] at ej; cases ej
   rw [e1] at f1; cases f1
   refine ⟨cc, o', some v, e1, g', d', e4, fun av ea => ?_⟩
   rcases Gf ea with ⟨_, rfl⟩ | ⟨ne, _⟩
   ·exact ⟨v, rfl, r⟩
   ·exact absurd rfl ne
  ·have ne : c2 ≠ cc := fun z' => q (Y.apart j i z x cc ej e (z' ▸ f1) e1)
   refine ⟨c2, o2, u2, f1, (hs.2 _ ne).trans f2, f3, f4, fun av ea => ?_⟩
   rcases Gf ea with ⟨z', _⟩ | ⟨_, ea'⟩
   ·exact absurd z' q
   ·exact f5 av ea'
 ·rcases Gf ea with ⟨rfl, rfl⟩ | ⟨ne, ea'⟩
  ·rw [e] at ej; cases ej
  ·exact Y.free j z av ej ea'
noncomputable def Jq (sg : CZ) (x : Str) (i : Nat) : Prop := getL sg.slots i = some (x, .loc) \/ getL sg.slots i = some (x, .cell)
theorem Mw {A : Around} {env : Env} {W : Wd} {G : Gm} {H : Hp} {F : Ag} {s : Shared} {x : Str} {i : Nat} {y : AV} {v : Value} {Q : Unit -> Shared -> Prop} (X : AM c.prog c.w c.h₀ W G H s.heap) (Y : Aw sg W G H F env s.heap)
  (e : Jq sg x i) (r : RV W y v) (q : ∀ h' t, AM c.prog c.w c.h₀ W G H h' -> Aw sg W G H (MV i y F) env h' -> Q () (sh s h' t)) : wpAny (model c.prog c.w) A (storeName env x v) Q Ds s :=
 e.elim (fun e => Mv X Y e r q) fun e => RH X Y e r q
noncomputable def US (i : Nat) (F : Ag) (k : Fl -> Ag -> Hp -> Prop) : AV -> Hp -> Prop := fun x H => k .next (MV i x F) H
noncomputable def BM (i : Nat) (a : VE) : VS := fun F H k => a F H (US i F k)
noncomputable def uZ (F : Ag) (k : Fl -> Ag -> Hp -> Prop) : Hp -> Prop := fun H => k .next F H
theorem pW {x : Str} {p pos} {e : Expr} {i va} (a : SE c d sg e va) (hi : Jq sg x i) (hs : ∀ env, swapsWith e (some (.Name x p)) pos.line env = pure false) : SO c d sg (.Assign [.Name x p] e pos) (BM i va) := fun A env W G H F s k Q rm X Y v q =>
 wpAny_Assign_Name (a A env W G H F s _ _ rm X Y v fun y u W₁ H₁ h₁ t₁ le₁ X₁ Y₁ r₁ k₁ =>
  Mw X₁ Y₁ hi r₁ fun h₂ t₂ X₂ Y₂ => q _ _ _ _ _ h₂ t₂ le₁ X₂ Y₂ .next k₁) (hs env)
noncomputable def dW (C a : Nat) (y : AV) (F : Ag) (k : Fl -> Ag -> Hp -> Prop) : AV -> Hp -> Prop := fun x H => V7 C a x y H (uZ F k)
noncomputable def lU (C a : Nat) (o : VE) (F : Ag) (k : Fl -> Ag -> Hp -> Prop) : AV -> Hp -> Prop := fun y H => o F H (dW C a y F k)
noncomputable def C7 (C a : Nat) (e o : VE) : VS := fun F H k => e F H (lU C a o F k)
theorem fi {o e : Expr} {name : Str} {p pos} {C a ve vo} (he : SE c d sg e ve) (ho : SE c d sg o vo) (hn : name = nm a) (hk : Sn c.K C (nm a) = true) (hs : ∀ env, swapsWith e (some (.Attribute o name p)) pos.line env = pure false) :
  SO c d sg (.Assign [.Attribute o name p] e pos) (C7 C a ve vo) := fun A env W G H F s k Q rm X Y v q =>
 plainObj_wpAny_Assign_Attribute (he A env W G H F s _ _ rm X Y v fun y u W₁ H₁ h₁ t₁ le₁ X₁ Y₁ r₁ k₁ => ho A env W₁ G H₁ F _ _ _ rm X₁ Y₁ k₁ fun x z W₂ H₂ h₂ t₂ le₂ X₂ Y₂ r₂ k₂ => by
  rw [hn]
  exact Xy X₂ r₂ (r₁.mono le₂) hk k₂ fun H' h' t s' X' k' => q _ _ _ _ _ h' t (le₁.trans le₂) X' (Y₂.move s') .next k') (hs env)
noncomputable def dT (x y : AV) (F : Ag) (k : Fl -> Ag -> Hp -> Prop) : AV -> Hp -> Prop := fun z H => PE x z y H (uZ F k)
noncomputable def dU (y : AV) (i : VE) (F : Ag) (k : Fl -> Ag -> Hp -> Prop) : AV -> Hp -> Prop := fun x H => i F H (dT x y F k)
noncomputable def lR (o i : VE) (F : Ag) (k : Fl -> Ag -> Hp -> Prop) : AV -> Hp -> Prop := fun y H => o F H (dU y i F k)
noncomputable def Bs (e o i : VE) : VS := fun F H k => e F H (lR o i F k)
theorem fg {o i e : Expr} {p pos} {ve vo vi} (he : SE c d sg e ve) (ho : SE c d sg o vo) (hi : SE c d sg i vi) (hs : ∀ env, swapsWith e (some (.Subscript o i p)) pos.line env = pure false) :
  SO c d sg (.Assign [.Subscript o i p] e pos) (Bs ve vo vi) := fun A env W G H F s k Q rm X Y v q =>
 wpAny_Assign_Subscript (he A env W G H F s _ _ rm X Y v fun y u W₁ H₁ h₁ t₁ le₁ X₁ Y₁ r₁ k₁ => ho A env W₁ G H₁ F _ _ _ rm X₁ Y₁ k₁ fun x z W₂ H₂ h₂ t₂ le₂ X₂ Y₂ r₂ k₂ => hi A env W₂ G H₂ F _ _ _ rm X₂ Y₂ k₂ fun x' z' W₃ H₃ h₃ t₃ le₃ X₃ Y₃ r₃ k₃ =>
  cZ A W₃ G H₃ _ _ _ _ _ _ _ _ _ rm X₃ (r₂.mono le₃) r₃ (r₁.mono (le₂.trans le₃)) k₃ fun W' H' h' t s' X' k' => q _ _ _ _ _ h' t (((le₁.trans le₂).trans le₃).trans s'.1) X' (Y₃.move s') .next k') (hs env)
noncomputable def kIf (a b : VS) (F : Ag) (k : Fl -> Ag -> Hp -> Prop) : Bool -> Hp -> Prop := fun r H => KH r (a F H k) (b F H k)
noncomputable def Iw (t : VT) (a b : VS) : VS := fun F H k => t F H (kIf a b F k)
theorem xIf {t : Expr} {a b : List Stmt} {pos vt va vb} (ht : ST c d sg t vt) (ha : SS c d sg a va) (hb : SS c d sg b vb) : SO c d sg (.If t a b pos) (Iw vt va vb) := fun A env W G H F s k Q rm X Y v q =>
 wpAny_If (ht A env W G H F s _ _ rm X Y v fun r W₁ H₁ h₁ t₁ le₁ X₁ Y₁ k₁ => by
  cases r with
  | true => exact ha A env W₁ G H₁ F _ k Q rm X₁ Y₁ k₁ fun fl f W₂ H₂ F₂ h₂ t₂ le₂ X₂ Y₂ r₂ k₂ => q _ _ _ _ _ _ t₂ (le₁.trans le₂) X₂ Y₂ r₂ k₂
  | false => exact hb A env W₁ G H₁ F _ k Q rm X₁ Y₁ k₁ fun fl f W₂ H₂ F₂ h₂ t₂ le₂ X₂ Y₂ r₂ k₂ => q _ _ _ _ _ _ t₂ (le₁.trans le₂) X₂ Y₂ r₂ k₂)
noncomputable def uU (F : Ag) (k : Fl -> Ag -> Hp -> Prop) : AV -> Hp -> Prop := fun x H => k (.ret x) F H
noncomputable def Hs (a : VE) : VS := fun F H k => a F H (uU F k)
theorem pS {e : Expr} {pos va} (a : SE c d sg e va) : SO c d sg (.Return (some e) pos) (Hs va) := fun A env W G H F s k Q rm X Y v q =>
 wpAny_Return_some (a A env W G H F s _ _ rm X Y v fun y u W₁ H₁ h₁ t₁ le₁ X₁ Y₁ r₁ k₁ => q _ _ _ _ _ _ t₁ le₁ X₁ Y₁ (.ret r₁) k₁)
noncomputable def U4 : VS := fun F H k => k (.ret .none) F H
theorem fX {pos} : SO c d sg (.Return none pos) U4 := fun A env W G H F s k Q rm X Y v q => wpAny_Return_none (q _ _ _ _ _ _ s.toks .refl X Y (.ret .none) v)
noncomputable def U6 : VS := fun F H k => k .cont F H
theorem fZ {pos} : SO c d sg (.Continue pos) U6 := fun A env W G H F s k Q rm X Y v q => wpAny_Continue (q _ _ _ _ _ _ s.toks .refl X Y .cont v)
noncomputable def fy : VS := fun _ _ _ => False
theorem xNo {st : Stmt} : SO c d sg st fy := fun A env W G H F s k Q rm X Y v q => v.elim
noncomputable def lG (F : Ag) (k : Fl -> Ag -> Hp -> Prop) : AV -> Hp -> Prop := fun _ H => k .next F H
noncomputable def BE (a : VE) : VS := fun F H k => a F H (lG F k)
theorem fY {e : Expr} {pos va} (a : SE c d sg e va) (hs : ∀ env, swapsWith e none pos.line env = pure false) : SO c d sg (.Expr e pos) (BE va) := fun A env W G H F s k Q rm X Y v q =>
 wpAny_Expr_any (a A env W G H F s _ _ rm X Y v fun y u W₁ H₁ h₁ t₁ le₁ X₁ Y₁ r₁ k₁ => q _ _ _ _ _ _ t₁ le₁ X₁ Y₁ .next k₁) (by
  unfold interactive; rw [Y.kind]; rfl) (hs env)
noncomputable def dR (i : Nat) (p : V2) (x : AV) (F : Ag) (k : Fl -> Ag -> Hp -> Prop) : AV -> Hp -> Prop := fun y H => p x y H (US i F k)
noncomputable def lP (i : Nat) (e : VE) (p : V2) (F : Ag) (k : Fl -> Ag -> Hp -> Prop) : AV -> Hp -> Prop := fun x H => e F H (dR i p x F k)
noncomputable def Sg (i : Nat) (e : VE) (p : V2) : VS := fun F H k => vL i F H (lP i e p F k)
theorem pV {x : Str} {p' pos} {op : Operator} {e : Expr} {i ve vp} (he : SE c d sg e ve) (hi : getL sg.slots i = some (x, .loc)) (hp : S2 c d (inplaceOp op) vp) : SO c d sg (.AugAssign (.Name x p') op e pos) (Sg i ve vp) := fun A env W G H F s k Q rm X Y v q => by
 obtain ⟨av, ea, kv⟩ := Nf v
 obtain ⟨m, hm, hv⟩ := Y.ns
 obtain ⟨u, eu, ru⟩ := hv i x av hi ea
 exact wpAny_AugAssign_Name (wpAny_loadName_local Y.kind (Y.kindOf hi) hm eu (he A env W G H F s _ _ rm X Y kv fun y z W₁ H₁ h₁ t₁ le₁ X₁ Y₁ r₁ k₁ =>
  hp A W₁ G H₁ _ _ _ _ _ _ _ rm X₁ (ru.mono le₁) r₁ k₁ fun o ov W₂ H₂ h₂ t₂ s₂ X₂ r₂ k₂ => Mv X₂ (Y₁.move s₂) hi r₂ fun h₃ t₃ X₃ Y₃ => q _ _ _ _ _ h₃ t₃ (le₁.trans s₂.1) X₃ Y₃ .next k₂) )
end
section
noncomputable abbrev VP := List AV -> Hp -> (AV -> Hp -> Prop) -> Prop
noncomputable def SP (c : Cx) (d : Nat) (f : Value) (vp : VP) : Prop :=
 ∀ (A : Around) (W : Wd) (G : Gm) (H : Hp) (s : Shared) (xs : List AV) (vs : List Value) (k : AV -> Hp -> Prop) (Q : Value -> Shared -> Prop),
  Rm d A -> AM c.prog c.w c.h₀ W G H s.heap -> Cr W xs vs -> vp xs H k ->
  (∀ z r W' H' h' t, C6 W G H s.heap W' H' h' -> AM c.prog c.w c.h₀ W' G H' h' -> RV W' z r -> k z H' -> Q r (sh s h' t)) ->
  wpAny (model c.prog c.w) A (call f vs) Q Ds s
noncomputable def SC (c : Cx) (d : Nat) (f : Value) (vp : VP) : Prop :=
 ∀ (A : Around) (W : Wd) (G : Gm) (H : Hp) (s : Shared) (xs : List AV) (vs : List Value) (k : AV -> Hp -> Prop) (Q : Value -> Shared -> Prop) (R : Result -> Shared -> Prop),
  Rm d A -> AM c.prog c.w c.h₀ W G H s.heap -> Cr W xs vs -> vp xs H k ->
  (∀ z r W' H' h' t, C6 W G H s.heap W' H' h' -> AM c.prog c.w c.h₀ W' G H' h' -> RV W' z r -> k z H' -> Q r (sh s h' t)) ->
  (∀ r s', Q r s' -> R (.ok (.ret r)) s') ->
  codeAny (model c.prog c.w) A (.call f ⟨vs, []⟩) R s
theorem SC.sp {c : Cx} {d : Nat} {f : Value} {vp : VP} (x : SC c d f vp) : SP c d f vp := fun A W G H s xs vs k Q rm X r v q =>
 wpAny_call (x A W G H s xs vs k Q _ rm X r v q fun _ _ h => h)
variable {c : Cx} {d : Nat} {sg : CZ}
noncomputable def Du (W : Wd) (G : Gm) (H : Hp) (h : Heap) : Gm := fun a => open Classical in if Gu W G H a then h.get? a else G a
section
variable {prog : Program} {w : World} {h₀ : Heap} {W W' : Wd} {G : Gm} {H H' : Hp} {h h' : Heap}
theorem Jo {a : Addr} {o : Obj} (e : G a = some o) : Du W G H h a = some o := by
 unfold Du
 rw [if_neg (fun q => by rw [q.G] at e; cases e)]; exact e
theorem NQ {a : Addr} (q : Gu W G H a) : Du W G H h a = h.get? a := if_pos q
theorem Qn {a : Addr} {o : Obj} (X : AM prog w h₀ W G H h) (e : Du W G H h a = some o) : h.get? a = some o := by
 unfold Du at e
 split at e
 ·exact e
 ·exact X.keepG a o e
theorem AM.goBelow (X : AM prog w h₀ W G H h) (k : ∀ a o, h.get? a = some o -> h'.get? a = some o) : AM prog w h₀ W (Du W G H h) H h' := by
 obtain ⟨X', -⟩ := X.keeps k
 refine ⟨X.nx, fun a o e => Jo (X.base a o e), X'.keepP, fun a o e => k a o (Qn X e), X'.obj, X.inj, X.offP, fun n o e => ?_, fun a o e z => ?_, X.low, X.three⟩
 ·unfold Du
  rw [if_neg (fun q => q.H n o e rfl)]; exact X.offG n o e
 ·unfold Du at e
  split at e
  ·rename_i q; exact q.P
  ·exact X.sep a o e z
theorem AM.comeBack (X : AM prog w h₀ W G H h) (le : W.le W') (Y : AM prog w h₀ W' (Du W G H h) H' h') : AM prog w h₀ W' G H' h' /\ C6 W G H h W' H' h' := by
 refine ⟨⟨Y.nx, X.base, Y.keepP, fun a o e => Y.keepG a o (Jo e), Y.obj, Y.inj, Y.offP, fun n o e => ?_, fun a o e z => Y.sep a o (Jo e) z, Y.low, Y.three⟩, le, fun a o q e => ?_⟩
 ·cases g : G (W'.κ n) with
  | none => rfl
  | some ob => have := Y.offG n o e; rw [Jo g] at this; cases this
 ·have eb : Du W G H h a = some o := (NQ q).trans e
  refine ⟨Y.keepG a o eb, Y.sep a o eb ?_, q.G, fun n ao en z => ?_⟩
  ·cases g : h₀.get? a with
   | none => rfl
   | some ob => have := X.base a ob g; rw [q.G] at this; cases this
  ·have := Y.offG n ao en; rw [z, eb] at this; cases this
theorem AM.fresh_ge (X : AM prog w h₀ W G H h) {a : Addr} (ge : h.objs.size <= a) : Gu W (Du W G H h) H a := by
 have no : ∀ o, h.get? a ≠ some o := fun o e => absurd (Heap.lt_size e) (Nat.not_lt.mpr ge)
 refine ⟨?_, ?_, fun n o e q => ?_⟩
 ·cases e : W.P a with
  | none => rfl
  | some o => exact absurd (X.keepP _ _ e) (no o)
 ·cases e : Du W G H h a with
  | none => rfl
  | some o => exact absurd (Qn X e) (no o)
 ·obtain ⟨ob, g⟩ := (X.obj n o e).there
  exact no ob (q ▸ g)
end
noncomputable def fJ : Nat -> List AV -> Ag
 | 0, _ => []
 | m + 1, [] => none :: fJ m []
 | m + 1, x :: xs => some x :: fJ m xs
theorem OQ : ∀ {m : Nat} {xs : List AV}, (fJ m xs).length = m
 | 0, _ => rfl
 | m + 1, [] => congrArg Nat.succ (OQ (m := m))
 | m + 1, _ :: xs => congrArg Nat.succ (OQ (m := m))
theorem QX {W : Wd} {m : Nat} {av : AV} : ∀ {xs : List AV} {vs : List Value} {i : Nat}, Cr W xs vs -> getL (fJ m xs) i = some (some av) -> ∃ v, getL vs i = some v /\ RV W av v := by
 induction m with
 | zero => exact fun _ e => nomatch e
 | succ m ih =>
  intro xs vs i r e
  cases r with
  | nil => cases i with
   | zero => exact nomatch e
   | succ i => have ⟨v, q, _⟩ := ih .nil (i := i) e; exact nomatch q
  | cons a r => cases i with
   | zero => exact ⟨_, rfl, Option.some.inj (Option.some.inj e) ▸ a⟩
   | succ i => exact ih r (i := i) e
theorem MN {kind : Str -> Option NameKind} {x : Str} : ∀ {l : List (Str × Value)} {m : Str -> Option Value}, (∀ p ∈ l, p.1 ≠ x) -> bindL kind l m x = m x
 | [], _, _ => rfl
 | (n, v) :: r, m, h => by
  unfold bindL
  rw [MN (l := r) fun p hp => h p (.tail _ hp)]
  have : x ≠ n := fun e => h (n, v) (.head _) e.symm
  split <;> simp [this]
theorem MO {kind : Str -> Option NameKind} {x : Str} : ∀ {l : List (Str × Value)} {m : Str -> Option Value}, (∀ p ∈ l, p.1 ≠ x) -> bindC kind l m x = m x
 | [], _, _ => rfl
 | (n, v) :: r, m, h => by
  unfold bindC
  rw [MO (l := r) fun p hp => h p (.tail _ hp)]
  have : x ≠ n := fun e => h (n, v) (.head _) e.symm
  split <;> simp [this]
theorem Ql {kind : Str -> Option NameKind} {x : Str} {v : Value} (hk : kind x = some .local) : ∀ {l : List Str} {vs : List Value} {m : Str -> Option Value} {i : Nat}, l.Nodup -> getL l i = some x -> getL vs i = some v -> bindL kind (l.zip vs) m x = some v
 | n :: l, u :: vs, m, 0, nd, e, e' => by
  cases e; cases e'
  have ns : ∀ p ∈ l.zip vs, p.1 ≠ x := fun p hp q => (List.nodup_cons.mp nd).1 (by have := (List.of_mem_zip hp).1; rwa [q] at this)
  show bindL kind (l.zip vs) _ x = some v
  rw [MN ns, if_pos hk]
  simp
 | n :: l, u :: vs, m, i + 1, nd, e, e' => Ql (l := l) (vs := vs) hk (i := i) (List.nodup_cons.mp nd).2 e e'
 | [], _, _, _, _, e, _ => by cases e
 | _ :: _, [], _, _, _, _, e => by cases e
theorem Qm {kind : Str -> Option NameKind} {x : Str} {v : Value} (hk : kind x = some .cell) : ∀ {l : List Str} {vs : List Value} {m : Str -> Option Value} {i : Nat}, l.Nodup -> getL l i = some x -> getL vs i = some v -> bindC kind (l.zip vs) m x = some v
 | n :: l, u :: vs, m, 0, nd, e, e' => by
  cases e; cases e'
  have ns : ∀ p ∈ l.zip vs, p.1 ≠ x := fun p hp q => (List.nodup_cons.mp nd).1 (by have := (List.of_mem_zip hp).1; rwa [q] at this)
  show bindC kind (l.zip vs) _ x = some v
  rw [MO ns, if_neg (by rw [hk]; decide)]
  simp
 | n :: l, u :: vs, m, i + 1, nd, e, e' => Qm (l := l) (vs := vs) hk (i := i) (List.nodup_cons.mp nd).2 e e'
 | [], _, _, _, _, e, _ => by cases e
 | _ :: _, [], _, _, _, _, e => by cases e
theorem Bb {α β : Type} {f : α -> β} : ∀ {l : List α} {i : Nat}, getL (l.map f) i = (getL l i).map f
 | [], _ => rfl
 | _ :: _, 0 => rfl
 | _ :: l, i + 1 => Bb (l := l) (i := i)
theorem Am {α : Type} : ∀ {l : List α} {i : Nat}, i < l.length -> ∃ x, getL l i = some x
 | _ :: _, 0, _ => ⟨_, rfl⟩
 | _ :: l, i + 1, h => Am (l := l) (Nat.lt_of_succ_lt_succ h)
theorem JU {α : Type} : ∀ {l : List α} {x : α}, x ∈ l -> ∃ i, getL l i = some x
 | _ :: _, _, .head _ => ⟨0, rfl⟩
 | _ :: l, _, .tail _ h => let ⟨i, e⟩ := JU (l := l) h; ⟨i + 1, e⟩
noncomputable def WZ (sg : CZ) : Bool := sg.slots.all fun x => match x.2 with
 | .free => false
 | _ => true
structure oJ (c : Cx) (sg : CZ) (f : Addr) (fd : FuncData) (body : List Stmt) (pn : List Str) : Prop where
 at_ : ∃ oc od osl, c.K.lookup f = some ⟨oc, od, .func fd, osl⟩
 glob : fd.globals = mainGlobals
 blt : fd.builtins = builtinsNs
 clo : fd.closure = []
 co : fd.scope.isCoroutine = false
 gen : fd.scope.isGenerator = false
 cd : codeIn c.K fd.code fd.qualname = true
 scope : fd.scope = sg.scope
 ok : HH sg = true
 nofree : WZ sg = true
 body : fd.body = .stmts body
 names : ∃ r, sg.slots.map (·.1) = pn ++ r
 bind : ∀ vs : List Value, vs.length = pn.length -> bindArgs fd ⟨vs, []⟩ = pure (pn.zip vs)
noncomputable def EP (k : AV -> Hp -> Prop) : Fl -> Ag -> Hp -> Prop := fun fl _ H => match fl with
 | .ret x => k x H
 | .next => k .none H
 | .cont => False
noncomputable def AP (n m : Nat) (vb : VS) : VP := fun xs H k => gd (Nat.beq xs.length n) (vb (fJ m xs) H (EP k))
theorem aA {f : Addr} {fd : FuncData} {body : List Stmt} {pn : List Str} {vb : VS} {n m : Nat} (ok : oJ c sg f fd body pn) (hb : SS c d sg body vb) (hn : n = pn.length) (hm : m = sg.slots.length) : SC c (d + 1) (.ref f) (AP n m vb) := by
 intro A W G H s xs vs k Q R rm X rv v q qR
 obtain ⟨oc, od, osl, ho⟩ := ok.at_
 subst hn hm
 have KX := c.X.keeps X.old
 obtain ⟨v1, v⟩ := Ea v
 have hlen : vs.length = pn.length := rv.length.symm.trans (Nat.eq_of_beq_eq_true v1)
 obtain ⟨rest, hrest⟩ := ok.names
 have hnd := Kd ok.ok
 have hpn : pn.Nodup := by rw [hrest, List.nodup_append] at hnd; exact hnd.1
 have slot : ∀ {i : Nat} {x : Str}, getL pn i = some x -> ∃ kd, getL sg.slots i = some (x, kd) := fun {i x} e => by
  have := Cp (r := rest) e
  rw [<- hrest, Bb] at this
  cases g : getL sg.slots i with
  | none => rw [g] at this; cases this
  | some y => rw [g] at this; cases this; exact ⟨y.2, rfl⟩
 have RT : ∀ {i : Nat} {x : Str} {kd : SK} {u : Value}, getL sg.slots i = some (x, kd) -> getL vs i = some u -> getL pn i = some x := fun {i x kd u} e e' => by
  obtain ⟨y, hy⟩ := Am (l := pn) (i := i) (hlen ▸ Bn e')
  obtain ⟨kd', hk'⟩ := slot hy
  rw [e] at hk'; cases hk'; exact hy
 have notFree : ∀ {i : Nat} {x : Str}, getL sg.slots i ≠ some (x, .free) := fun {i x} e => by
  have := List.all_eq_true.mp ok.nofree _ (Dp e)
  cases this
 have hnm : ∀ x, fd.scope.names.lookup x = sg.scope.names.lookup x := fun x => by rw [ok.scope]
 refine (codeAny_call_cells (by have := rm.depth; omega) (KX _ _ ho) rfl (c.T.nolimit.keeps X.old) (codeRec_of KX ok.cd) ok.body (ok.bind vs hlen) ok.clo (fun y hy => ?_) (fun s₁ x => ?_) ok.co ok.gen (by rw [ok.scope]; exact Lc ok.ok))
 ·obtain ⟨i, hi⟩ := JU (List.of_mem_zip hy).1
  obtain ⟨kd, hk⟩ := slot hi
  have := GZ ok.ok hk
  rw [hnm]
  cases kd with
  | loc => exact .inl this
  | cell => exact .inr ⟨this, cellsFrom_some _ _ _ (.inl (by rw [hnm]; exact this))⟩
  | free => exact absurd hk notFree
 ·obtain ⟨h₁, t₁, rfl, keep⟩ := x.done
  have X₁ := X.goBelow keep
  have hL : (callEnvC fd s.heap.objs.size f).locals = s.heap.objs.size := rfl
  have Y₁ : Aw sg W (Du W G H s.heap) H (fJ sg.slots.length xs) (callEnvC fd s.heap.objs.size f) h₁ := by
   refine ⟨ok.ok, ok.scope, ok.glob, ok.blt, OQ, X.fresh_ge (by rw [hL]; exact Nat.le_refl _), ⟨_, x.toInCall.ns, fun i y av e ea => ?_⟩, fun i y e => ?_, fun i j y z cc e e' l l' => ?_, fun i y av e => absurd e notFree⟩
   ·obtain ⟨u, eu, ru⟩ := QX rv ea
    exact ⟨u, Ql (by show fd.scope.names.lookup y = _; rw [hnm]; exact GZ ok.ok e) hpn (RT e eu) eu, ru⟩
   ·have hk : fd.scope.names.lookup y = some .cell := by rw [hnm]; exact GZ ok.ok e
    obtain ⟨cc, hc⟩ := Option.isSome_iff_exists.mp (cellsFrom_some fd.scope.names (s.heap.objs.size + 1) [] (.inl hk))
    obtain ⟨o, g, hd⟩ := x.cell y cc hc
    have hgt := x.above y cc (mem_of_lookup hc)
    refine ⟨cc, o, _, hc, g, hd, X.fresh_ge (Nat.le_of_lt hgt), fun av ea => ?_⟩
    obtain ⟨u, eu, ru⟩ := QX rv ea
    exact ⟨u, Qm hk hpn (RT e eu) eu, ru⟩
   ·have : y = z := name_of_addr x.apart (mem_of_lookup l) (mem_of_lookup l')
    exact Ll hnd (this ▸ e) e'
  refine wpAny_mono (hb (A.deeper (callEnvC fd s.heap.objs.size f)) _ W _ H _ (sh s h₁ t₁) _ (fun fl s' => Q (match fl with | .ret v => v | _ => .none) s') ⟨rm.hand, ?_, ?_⟩ X₁ Y₁ v fun fl f W₂ H₂ F₂ h₂ t₂ le₂ X₂ Y₂ r₂ k₂ => ?_) (fun fl s' h => qR _ _ h) (fun _ _ e => e.elim)
  ·have := rm.depth
   show A.depth + 1 + 4 * d < recursionLimit
   omega
  ·have := rm.units
   show A.units + 3 + 64 * d + 64 < cLine
   omega
  ·obtain ⟨X₃, s₃⟩ := X.comeBack le₂ X₂
   cases r₂ with
   | next => exact q _ _ _ _ _ t₂ s₃ X₃ .none k₂
   | ret r => exact q _ _ _ _ _ t₂ s₃ X₃ r k₂
   | cont => exact k₂.elim
theorem ABy {f : Addr} {fd : FuncData} {body : List Stmt} {pn : List Str} {vb : VS} {n m : Nat} (ok : oJ c sg f fd body pn) (hb : SS c d sg body vb) (hn : n = pn.length) (hm : m = sg.slots.length) : SP c (d + 1) (.ref f) (AP n m vb) := (aA ok hb hn hm).sp
end
section
variable {c : Cx} {d : Nat} {sg : CZ}
theorem SP.le {d d' : Nat} {f vp} (x : SP c d f vp) (h : d <= d') : SP c d' f vp := fun A W G H s xs vs k Q r => x A W G H s xs vs k Q (r.le h)
noncomputable def lJ (vp : VP) (k : AV -> Hp -> Prop) : List AV -> Hp -> Prop := fun xs H => vp xs H k
noncomputable def Ai (va : YE) (vp : VP) : VE := fun F H k => va F H (lJ vp k)
theorem hU {x : Str} {p pos : Pos} {e : Expr} {es : List Expr} {f : Addr} {va vp} (ha : Zp c d sg (e :: es) va) (hf : SP c d (.ref f) vp) (hx : sg.scope.names.lookup x = some .globalImplicit) (hn : nsIn c.K mainGlobals x = some (some (.ref f)))
  (hk : keepIn c.K (.ref f) = true) (hd : (x == ("__debug__" : Str)) = false) (h1 : BP e = false) (h2 : Dl es = true) :
  SE c d sg (.Call (.Name x p) (e :: es) [] pos) (Ai va vp) := fun A env W G H F s k Q rm X Y v q =>
 wpAny_Call_NameR (Hj X Y hx hn hd (callWith_K (K := c.K) (c.X.keeps X.old) hk (ha A env W G H F s _ _ pos rm X Y v fun xs us W₁ H₁ h₁ t₁ le₁ X₁ Y₁ r₁ k₁ =>
  ⟨c.X.keeps X₁.old, hf A W₁ G H₁ _ xs us k _ rm X₁ r₁ k₁ fun z r W₂ H₂ h₂ t₂ s₂ X₂ r₂ k₂ => q _ _ _ _ _ t₂ (le₁.trans s₂.1) X₂ (Y₁.move s₂) r₂ k₂⟩) (B9 h1) (Qo h2)))
theorem cL {x : Str} {p pos : Pos} {f : Addr} {vp} (hf : SP c d (.ref f) vp) (hx : sg.scope.names.lookup x = some .globalImplicit) (hn : nsIn c.K mainGlobals x = some (some (.ref f)))
  (hk : keepIn c.K (.ref f) = true) (hd : (x == ("__debug__" : Str)) = false) : SE c d sg (.Call (.Name x p) [] [] pos) (Ai AQ vp) := fun A env W G H F s k Q rm X Y v q =>
 wpAny_Call_NameR (Hj X Y hx hn hd (callWith_K0 (K := c.K) (c.X.keeps X.old) hk (hf A W G H _ [] [] k _ rm X .nil v fun z r W₂ H₂ h₂ t₂ s₂ X₂ r₂ k₂ => q _ _ _ _ _ t₂ s₂.1 X₂ (Y.move s₂) r₂ k₂)))
noncomputable def hnL (C a : Nat) (p : Prop) : AO -> Prop := fun o => oK (eQ C o) fun l => gd (Dt l a).isNone p
noncomputable def hnK (C a : Nat) (x : AV) (H : Hp) (p : Prop) : Prop := match x with
 | .loc n => hK (AB H n) (hnL C a p)
 | .inst c is l => gd (Nat.beq c C && (Dt (is.zip l) a).isNone) p
 | _ => False
theorem mK {W : Wd} {G : Gm} {H : Hp} {h : Heap} {C a : Nat} {x : AV} {v : Value} {p : Prop} (X : AM c.prog c.w c.h₀ W G H h) (r : RV W x v) (y : hnK C a x H p) : (∃ l, Qs W h C l v /\ Dt l a = none) /\ p := by
 cases x with
 | loc n =>
  obtain ⟨l, g, p⟩ := hO (fun _ _ => YB) y
  obtain ⟨e, p⟩ := Ea p
  exact ⟨⟨l, QG X r g, Option.isNone_iff_eq_none.mp e⟩, p⟩
 | inst C' is l =>
  obtain ⟨z, p⟩ := Ea y
  rw [Bool.and_eq_true] at z
  rw [Nat.eq_of_beq_eq_true z.1] at r
  exact ⟨⟨_, QH X r, Option.isNone_iff_eq_none.mp z.2⟩, p⟩
 | _ => exact False.elim y
theorem ZD {W : Wd} {l : List (Nat × AV)} {es : List DictEntry} {a : Nat} (h : An (EF W) l es) (q : Dt l a = none) : ∀ e ∈ es, e.key.isStr (nm a) = false := by
 induction h with
 | nil => exact fun _ h => absurd h List.not_mem_nil
 | @cons p e' l es h t ih =>
  intro e he
  unfold Dt EN at q
  cases z : Nat.beq p.1 a with
  | true => rw [z] at q; exact nomatch q
  | false =>
   rw [z] at q
   rcases List.mem_cons.mp he with y | he
   ·rw [y, h.isStr, z]
   ·exact ih q e he
theorem R6 {es : List DictEntry} {x : Str} (h : ∀ e ∈ es, e.key.isStr x = false) (nr : es.any (·.refKey) = false) : PySem.W.getL x es = some none := by
 have : es.find? (fun e => e.key.isStr x) = none := by
  rw [List.find?_eq_none]
  intro e he hs
  rw [h e he] at hs
  cases hs
 unfold PySem.W.getL
 rw [this]
 dsimp only
 rw [nr]
 rfl
noncomputable def dH (x : AV) (vp : VP) (k : AV -> Hp -> Prop) : List AV -> Hp -> Prop := fun xs H => vp (x :: xs) H k
noncomputable def kg (C a : Nat) (va : YE) (vp : VP) (F : Ag) (k : AV -> Hp -> Prop) : AV -> Hp -> Prop := fun x H => hnK C a x H (va F H (dH x vp k))
noncomputable def DH (C a : Nat) (vo : VE) (va : YE) (vp : VP) : VE := fun F H k => vo F H (kg C a va vp F k)
noncomputable def J4 (K : Frag) (C : Nat) (name : Str) (f : Addr) : Bool := plainGet K C name && (findIn K (.ref C) name == some (some (.ref f))) && (typeIn K (.ref f) == some (.type "function")) && keepIn K (.ref f)
theorem Wl {A : Around} {W : Wd} {s : Shared} {v : Value} {C a : Nat} {f : Addr} {pl : Sem Bool} {Q : Value × List Value -> Shared -> Prop} (KX : c.K.In s.heap) (hk : J4 c.K C (nm a) f = true) (p : ∃ l, Qs W s.heap C l v /\ Dt l a = none)
  (q : Q (.ref f, [v]) s) : wpAny (model c.prog c.w) A (getMethod v (nm a) pl) Q Ds s := by
 unfold J4 at hk
 rw [Bool.and_eq_true, Bool.and_eq_true, Bool.and_eq_true] at hk
 obtain ⟨l, ⟨ad, dx, es, n, rfl, g1, g2, al⟩, e⟩ := p
 have k1 := plainGet_of hk.1.1.1
 exact method_fn KX (LH g1 g2) k1.1 k1.2 (eq_of_beq hk.1.1.2) (eq_of_beq hk.1.2) (by show (lookIn (nm a) (dictOf _ _)).map _ = _; rw [lookIn_dict, R6 (ZD al e) (aK al)]; rfl) q
theorem P5 {K : Frag} {C : Nat} {name : Str} {f : Addr} (h : J4 K C name f = true) : keepIn K (.ref f) = true := by
 unfold J4 at h
 rw [Bool.and_eq_true] at h
 exact h.2
theorem hC {o : Expr} {name : Str} {p pos : Pos} {e : Expr} {es : List Expr} {C a : Nat} {f : Addr} {vo va vp} (ho : SE c d sg o vo) (ha : Zp c d sg (e :: es) va) (hf : SP c d (.ref f) vp) (hn : name = nm a) (hk : J4 c.K C (nm a) f = true)
  (h1 : BP e = false) (h2 : Dl es = true)
  (pl : Env -> Sem Bool) (he : ∀ env, eval (.Call (.Attribute o name p) (e :: es) [] pos) env = (do
     let ov <- eval o env
     standAt p.atName
     let __x <- holding [ov] (getMethod ov name (pl env))
     match __x with
      | (f, first) => callWith pos f first (backTo pos (starEach (e :: es) env)) [])) :
  SE c d sg (.Call (.Attribute o name p) (e :: es) [] pos) (DH C a vo va vp) := fun A env W G H F s k Q rm X Y v q =>
 MethodCall_ (pl := pl env) (ho A env W G H F s _ _ rm X Y v fun x u W₁ H₁ h₁ t₁ le₁ X₁ Y₁ r₁ k₁ => by
  rw [hn]
  have z := mK X₁ r₁ k₁
  exact Wl (s := sh s h₁ t₁) (c.X.keeps X₁.old) hk z.1 (callWith_K (K := c.K) (c.X.keeps X₁.old) (P5 hk) (ha A env W₁ G H₁ F _ _ _ pos rm X₁ Y₁ z.2 fun xs us W₂ H₂ h₂ t₂ le₂ X₂ Y₂ r₂ k₂ =>
   ⟨c.X.keeps X₂.old, hf A W₂ G H₂ _ (x :: xs) (u :: us) k _ rm X₂ (.cons (r₁.mono le₂) r₂) k₂ fun z r W₃ H₃ h₃ t₃ s₃ X₃ r₃ k₃ => q _ _ _ _ _ t₃ ((le₁.trans le₂).trans s₃.1) X₃ (Y₂.move s₃) r₃ k₃⟩) (B9 h1) (Qo h2))) (he env)
end
section
variable {c : Cx} {d : Nat} {sg : CZ}
noncomputable def lsL (p : Prop) : AO -> Prop := fun o => oK (fP o) fun _ => p
noncomputable def lsK (x : AV) (H : Hp) (p : Prop) : Prop := match x with
 | .loc n => hK (AB H n) (lsL p)
 | _ => False
noncomputable def apL (n : Nat) (y : AV) (H : Hp) (k : AV -> Hp -> Prop) : AO -> Prop := fun o => oK (fP o) fun l => gd (Ii l.length) (k .none (Ab H n (.list (l ++ [y]))))
noncomputable def lV (x : AV) (k : AV -> Hp -> Prop) : AV -> Hp -> Prop := fun y H => match x with
 | .loc n => hK (AB H n) (apL n y H k)
 | _ => False
noncomputable def uf (va : VE) (F : Ag) (k : AV -> Hp -> Prop) : AV -> Hp -> Prop := fun x H => lsK x H (va F H (lV x k))
noncomputable def Di (vo va : VE) : VE := fun F H k => vo F H (uf va F k)
theorem kP {x : AV} {H : Hp} {p : Prop} (y : lsK x H p) : ∃ n, x = .loc n /\ (∃ l, AB H n = some (.list l)) /\ p := by
 cases x with
 | loc n =>
  obtain ⟨l, g, p⟩ := hO (fun _ _ => NS) y
  exact ⟨n, rfl, ⟨l, g⟩, p⟩
 | _ => exact False.elim y
theorem Ir {W : Wd} {G : Gm} {H : Hp} {h : Heap} {n : Nat} {l : List AV} (X : AM c.prog c.w c.h₀ W G H h) (g : AB H n = some (.list l)) : ∃ vs m, W.κ n = W.ρ n /\ h.get? (W.ρ n) = some (BF vs m) /\ Cr W l vs := by
 obtain ⟨e, vs, m, gl, rl⟩ := X.obj n _ g
 exact ⟨vs, m, e, gl, rl⟩
theorem qV {o e : Expr} {p pos : Pos} {vo va} (ho : SE c d sg o vo) (ha : SE c d sg e va) (h1 : BP e = false) (pl : Env -> Sem Bool) (he : ∀ env, eval (.Call (.Attribute o "append" p) [e] [] pos) env = (do
     let ov <- eval o env
     standAt p.atName
     let __x <- holding [ov] (getMethod ov "append" (pl env))
     match __x with
      | (f, first) => callWith pos f first (backTo pos (starEach [e] env)) [])) : SE c d sg (.Call (.Attribute o "append" p) [e] [] pos) (Di vo va) := fun A env W G H F s k Q rm X Y v q =>
 MethodCall_ (pl := pl env) (ho A env W G H F s _ _ rm X Y v fun x u W₁ H₁ h₁ t₁ le₁ X₁ Y₁ r₁ k₁ => by
  obtain ⟨n, rfl, ⟨l, g⟩, k₁⟩ := kP k₁
  obtain ⟨e, hn⟩ := r₁.loc_
  rw [e]
  obtain ⟨vs, m, ek, gl, rl⟩ := Ir X₁ g
  refine getMethod_builtin (s := sh s h₁ t₁) (T := "list") ⟨_, gl, rfl⟩ PySem.F.plainAttrs_list PySem.F.slot_list_append PySem.F.type_list_append (fun a e => by cases e; exact ⟨_, gl, rfl⟩) ?_
  dsimp only
  rw [Tq h1]
  refine callWith_builtin rfl (evalArgs_plain (spliced_cons (ha A env W₁ G H₁ F _ _ _ rm X₁ Y₁ k₁ fun y z W₂ H₂ h₂ t₂ le₂ X₂ Y₂ r₂ k₂ => spliced_nil ?_)))
  obtain ⟨l₂, g₂, k₂⟩ := hO (fun _ _ => NS) k₂
  obtain ⟨hl, k₂⟩ := CW k₂
  obtain ⟨vs₂, m₂, ek₂, gl₂, rl₂⟩ := Ir X₂ g₂
  rw [<- le₂.ρ n hn]
  refine wpAny_list_append_plain (s := sh s h₂ t₂) (items := vs₂.toArray) ⟨m₂, gl₂⟩ (fun h' hp hs => ?_) (by rw [List.size_toArray, <- rl₂.length]; exact Nat.le_trans (Nat.le_of_lt hl) BL)
  obtain ⟨m₃, g₃⟩ := hp
  obtain ⟨X₃, s₃⟩ := X₂.set g₂ (ek₂ ▸ hs) (o' := .list (l₂ ++ [y])) ⟨ek₂, vs₂ ++ [z], m₃, by rw [g₃, List.push_toArray], rl₂.append (.cons r₂ .nil)⟩
  exact q _ _ _ _ _ t₂ ((le₁.trans le₂).trans s₃.1) X₃ (Y₂.move s₃) .none k₂) (he env)
noncomputable def poL (n : Nat) (H : Hp) (k : AV -> Hp -> Prop) : AO -> Prop := fun o => oK (fP o) fun l => gd (Ii l.length) (oK (getL l (l.length - 1)) fun y => k y (Ab H n (.list l.dropLast)))
noncomputable def kY (k : AV -> Hp -> Prop) : AV -> Hp -> Prop := fun x H => match x with
 | .loc n => hK (AB H n) (poL n H k)
 | _ => False
noncomputable def bX (vo : VE) : VE := fun F H k => vo F H (kY k)
theorem dD {x : AV} {H : Hp} {k : AV -> Hp -> Prop} (p : kY k x H) : ∃ n l y, x = .loc n /\ AB H n = some (.list l) /\ l.length < 100000 /\ getL l (l.length - 1) = some y /\ k y (Ab H n (.list l.dropLast)) := by
 cases x with
 | loc n =>
  obtain ⟨l, g, p⟩ := hO (fun _ _ => NS) p
  obtain ⟨hl, p⟩ := CW p
  obtain ⟨y, e, p⟩ := C9 p
  exact ⟨n, l, y, rfl, g, hl, e, p⟩
 | _ => exact False.elim p
theorem Cr.dropLast {W : Wd} {l : List AV} {vs : List Value} (r : Cr W l vs) : Cr W l.dropLast vs.dropLast := by
 rw [List.dropLast_eq_take, List.dropLast_eq_take, r.length]; exact r.take _
theorem R8 {vs : List Value} (h : 0 < vs.length) : vs.toArray.eraseIdxIfInBounds (vs.toArray.size - 1) = vs.dropLast.toArray := by
 rw [Array.eraseIdxIfInBounds, dif_pos (by rw [List.size_toArray]; omega)]
 cases vs with
 | nil => exact absurd h (Nat.lt_irrefl _)
 | cons a r => rw [List.eraseIdx_toArray, List.size_toArray, List.length_cons, Nat.add_sub_cancel, List.eraseIdx_eq_take_drop_succ, List.drop_of_length_le (show (a :: r).length <= r.length + 1 from Nat.le_refl _), List.append_nil, List.dropLast_eq_take]; rfl
theorem qJ {o : Expr} {p pos : Pos} {vo} (ho : SE c d sg o vo) (pl : Env -> Sem Bool) (he : ∀ env, eval (.Call (.Attribute o "pop" p) [] [] pos) env = (do
     let ov <- eval o env
     standAt p.atName
     let __x <- holding [ov] (getMethod ov "pop" (pl env))
     match __x with
      | (f, first) => callWith pos f first (backTo pos (starEach [] env)) [])) : SE c d sg (.Call (.Attribute o "pop" p) [] [] pos) (bX vo) := fun A env W G H F s k Q rm X Y v q =>
 MethodCall_ (pl := pl env) (ho A env W G H F s _ _ rm X Y v fun x u W₁ H₁ h₁ t₁ le₁ X₁ Y₁ r₁ k₁ => by
  obtain ⟨n, l, y, rfl, g, hl, ey, ky⟩ := dD k₁
  rw [r₁.loc_.1]
  obtain ⟨vs, m, ek, gl, rl⟩ := Ir X₁ g
  refine getMethod_builtin (s := sh s h₁ t₁) (T := "list") ⟨_, gl, rfl⟩ PySem.F.plainAttrs_list PySem.F.slot_list_pop PySem.F.type_list_pop (fun a e => by cases e; exact ⟨_, gl, rfl⟩) ?_
  obtain ⟨z, ez, rz⟩ := rl.get ey
  have hlen := rl.length
  refine PySem.P.pop_list (s := sh s h₁ t₁) (items := vs.toArray) gl (by rw [List.size_toArray, <- hlen, List.getElem?_toArray]; exact ez) ?_ (by rw [List.size_toArray, <- hlen]; exact Nat.le_trans (Nat.le_of_lt hl) BL)
  have g₃ := IsL.update gl fun xs => xs.eraseIdxIfInBounds (vs.toArray.size - 1)
  rw [R8 (by have := Bn ey; omega)] at g₃
  obtain ⟨X₃, s₃⟩ := X₁.set g (ek ▸ Heap.SameBut.update ..) (o' := .list l.dropLast) ⟨ek, vs.dropLast, _, g₃, Cr.dropLast rl⟩
  exact q _ _ _ _ _ t₁ (le₁.trans s₃.1) X₃ (Y₁.move s₃) rz ky) (he env)
end
section
variable {c : Cx} {d : Nat} {sg : CZ}
noncomputable def geL {α : Type} (f : AO -> Option α) (p : Prop) : AO -> Prop := fun o => oK (f o) fun _ => p
noncomputable def geK {α : Type} (f : AO -> Option α) (x : AV) (H : Hp) (p : Prop) : Prop := match x with
 | .loc n => hK (AB H n) (geL f p)
 | _ => False
theorem aX {α : Type} {f : AO -> Option α} {g : α -> AO} (hf : ∀ o l, f o = some l -> o = g l) {x : AV} {H : Hp} {p : Prop} (y : geK f x H p) : ∃ n l, x = .loc n /\ AB H n = some (g l) /\ p := by
 cases x with
 | loc n =>
  obtain ⟨l, e, p⟩ := hO hf y
  exact ⟨n, l, rfl, e, p⟩
 | _ => exact False.elim y
noncomputable def giL (y z : AV) (H : Hp) (k : AV -> Hp -> Prop) : AO -> Prop := fun o => oK (ox o) fun l => oK (Us y) fun j => k ((Dn l j).getD z) H
noncomputable def gtL (y z : AV) (H : Hp) (k : AV -> Hp -> Prop) : AO -> Prop := fun o => oK (vQ o) fun l => oK (JK y) fun r => k ((Kh l r).getD z) H
noncomputable def onL (V : AV -> AV -> Hp -> (AV -> Hp -> Prop) -> AO -> Prop) (x y z : AV) (H : Hp) (k : AV -> Hp -> Prop) : Prop := match x with
 | .loc n => hK (AB H n) (V y z H k)
 | _ => False
noncomputable def ku (V : AV -> AV -> Hp -> (AV -> Hp -> Prop) -> AO -> Prop) (x y : AV) (k : AV -> Hp -> Prop) : AV -> Hp -> Prop := fun z H => onL V x y z H k
noncomputable def lA (V : AV -> AV -> Hp -> (AV -> Hp -> Prop) -> AO -> Prop) (vb : VE) (x : AV) (F : Ag) (k : AV -> Hp -> Prop) : AV -> Hp -> Prop := fun y H => vb F H (ku V x y k)
noncomputable def lC {α : Type} (f : AO -> Option α) (V : AV -> AV -> Hp -> (AV -> Hp -> Prop) -> AO -> Prop) (va vb : VE) (F : Ag) (k : AV -> Hp -> Prop) : AV -> Hp -> Prop := fun x H => geK f x H (va F H (lA V vb x F k))
noncomputable def Ou (vo va vb : VE) : VE := fun F H k => vo F H (lC ox giL va vb F k)
noncomputable def Z1 (vo va vb : VE) : VE := fun F H k => vo F H (lC vQ gtL va vb F k)
theorem QW {W : Wd} {a : Option AV} {b : Option Value} {x : AV} {v : Value} (h : ∀ y, a = some y -> ∃ u, b = some u /\ RV W y u) (h0 : a = none -> b = none) (r : RV W x v) : RV W (a.getD x) (b.getD v) := by
 cases a with
 | none => rw [h0 rfl]; exact r
 | some y => obtain ⟨u, rfl, ru⟩ := h y rfl; exact ru
theorem hG {o e f : Expr} {p pos : Pos} {vo va vb} (ho : SE c d sg o vo) (ha : SE c d sg e va) (hb : SE c d sg f vb) (h1 : BP e = false /\ BP f = false) (pl : Env -> Sem Bool)
  (he : ∀ env, eval (.Call (.Attribute o "get" p) [e, f] [] pos) env = (do
     let ov <- eval o env
     standAt p.atName
     let __x <- holding [ov] (getMethod ov "get" (pl env))
     match __x with
      | (fn, first) => callWith pos fn first (backTo pos (starEach [e, f] env)) [])) : SE c d sg (.Call (.Attribute o "get" p) [e, f] [] pos) (Ou vo va vb) := fun A env W G H F s k Q rm X Y v q =>
 MethodCall_ (pl := pl env) (ho A env W G H F s _ _ rm X Y v fun x u W₁ H₁ h₁ t₁ le₁ X₁ Y₁ r₁ k₁ => by
  obtain ⟨n, l, rfl, g, k₁⟩ := aX (fun _ _ => YA) k₁
  obtain ⟨e, hn⟩ := r₁.loc_
  rw [e]
  obtain ⟨ek, kvs, dl, al⟩ := X₁.obj n _ g
  refine getMethod_builtin (s := sh s h₁ t₁) (T := "dict") dl.typeIs PySem.F.plainAttrs_dict PySem.F.slot_dict_get PySem.F.type_dict_get dl.mapOf.noDict ?_
  dsimp only
  rw [a0 h1]
  refine wpAny_dict_get2 (knd := intKind c.prog c.w) (ek ▸ X₁.low n _ g) (ha A env W₁ G H₁ F _ _ _ rm X₁ Y₁ k₁ fun y ky W₂ H₂ h₂ t₂ le₂ X₂ Y₂ r₂ k₂ => hb A env W₂ G H₂ F _ _ _ rm X₂ Y₂ k₂ fun z kz W₃ H₃ h₃ t₃ le₃ X₃ Y₃ r₃ k₃ => ?_)
  obtain ⟨l₃, g₃, k₃⟩ := hO (fun _ _ => YA) k₃
  obtain ⟨j, ey, k₃⟩ := C9 k₃
  rw [Jp ey] at r₂
  obtain ⟨tj, ej⟩ := r₂.int_
  rw [ej]
  obtain ⟨ek₃, kvs₃, dl₃, al₃⟩ := X₃.obj n _ g₃
  rw [(le₂.trans le₃).ρ n hn] at dl₃
  exact ⟨j, _, QF, dl₃.mapOf, q _ _ _ _ _ (t₃ + 1) ((le₁.trans le₂).trans le₃) X₃ Y₃ (QW (fun y e => It al₃ e) (fun e => Rl al₃ e) r₃) k₃⟩) (he env)
theorem hF {o e f : Expr} {p pos : Pos} {vo va vb} (ho : SE c d sg o vo) (ha : SE c d sg e va) (hb : SE c d sg f vb) (h1 : BP e = false /\ BP f = false) (pl : Env -> Sem Bool)
  (he : ∀ env, eval (.Call (.Attribute o "get" p) [e, f] [] pos) env = (do
     let ov <- eval o env
     standAt p.atName
     let __x <- holding [ov] (getMethod ov "get" (pl env))
     match __x with
      | (fn, first) => callWith pos fn first (backTo pos (starEach [e, f] env)) [])) : SE c d sg (.Call (.Attribute o "get" p) [e, f] [] pos) (Z1 vo va vb) := fun A env W G H F s k Q rm X Y v q =>
 MethodCall_ (pl := pl env) (ho A env W G H F s _ _ rm X Y v fun x u W₁ H₁ h₁ t₁ le₁ X₁ Y₁ r₁ k₁ => by
  obtain ⟨n, l, rfl, g, k₁⟩ := aX (fun _ _ => a9) k₁
  obtain ⟨e, hn⟩ := r₁.loc_
  rw [e]
  obtain ⟨ek, xs, dl, al⟩ := X₁.obj n _ g
  obtain ⟨o', es, ep, go, od, _⟩ := dl
  refine getMethod_builtin (s := sh s h₁ t₁) (T := "dict") ⟨_, go, od.1⟩ PySem.F.plainAttrs_dict PySem.F.slot_dict_get PySem.F.type_dict_get (fun a e => by cases e; exact ⟨_, go, od.2.1⟩) ?_
  dsimp only
  rw [a0 h1]
  refine wpAny_dict_get2_heap (knd := Np c.prog c.w) (by show A.units + 1 + 8 < cLine; have := rm.u; omega) (ek ▸ X₁.low n _ g) (ha A env W₁ G H₁ F _ _ _ rm X₁ Y₁ k₁ fun y ky W₂ H₂ h₂ t₂ le₂ X₂ Y₂ r₂ k₂ => hb A env W₂ G H₂ F _ _ _ rm X₂ Y₂ k₂ fun z kz W₃ H₃ h₃ t₃ le₃ X₃ Y₃ r₃ k₃ => ?_)
  obtain ⟨l₃, g₃, k₃⟩ := hO (fun _ _ => a9) k₃
  obtain ⟨kr, ey, k₃⟩ := C9 k₃
  obtain ⟨a, ea, kp⟩ := Sv (prog := c.prog) (w := c.w) (r₂.mono le₃) ey
  rw [ea]
  obtain ⟨ek₃, xs₃, dl₃, al₃⟩ := X₃.obj n _ g₃
  rw [(le₂.trans le₃).ρ n hn] at dl₃
  have z := M5 (k := kr) al₃
  refine ⟨a, kr, xs₃, rfl, kp h₃ X₃.keepP, dl₃, q _ _ _ _ _ _ ((le₁.trans le₂).trans le₃) X₃ Y₃ (QW (fun y e => ?_) (fun e => ?_) r₃) k₃⟩
  ·obtain ⟨p, e1, e2⟩ := z.1 y e; exact ⟨p.2, by rw [e1]; rfl, e2⟩
  ·rw [z.2 e]; rfl) (he env)
end
section
variable {c : Cx} {d : Nat} {sg : CZ}
theorem AM.newInst {prog : Program} {w : World} {h₀ : Heap} {W : Wd} {G : Gm} {H : Hp} {h : Heap} (X : AM prog w h₀ W G H h) (C : Nat) :
  ∃ W', AM prog w h₀ W' G (Af H (.inst C [])) ((h.push emptyDict).push (instObj C h.objs.size)) /\ C6 W G H h W' (Af H (.inst C [])) ((h.push emptyDict).push (instObj C h.objs.size)) /\ RV W' (.loc H.length) (.ref (h.objs.size + 1)) := by
 have k1 : ∀ a ob, h.get? a = some ob -> (h.push emptyDict).get? a = some ob := fun a ob e => Heap.get?_push_of_some emptyDict e
 obtain ⟨X1, S1⟩ := X.keeps k1
 have off1 : Gu W G H h.objs.size := X.off_new
 have g1 : (h.push emptyDict).get? h.objs.size = some emptyDict := Heap.get?_push_size _ rfl
 obtain ⟨X2, S2⟩ := X1.pushP (instObj C h.objs.size) rfl
 have S12 := S1.trans S2
 have sz : (h.push emptyDict).objs.size = h.objs.size + 1 := Heap.size_push ..
 have off2 := (S2.2 _ _ off1 g1).2
 have g2 := (S2.2 _ _ off1 g1).1
 have hnx : (W.froze (h.push emptyDict).objs.size (instObj C h.objs.size)).nx = H.length := X.nx
 refine ⟨_, X2.add (a := h.objs.size + 1) (k := h.objs.size) (ao := .inst C []) off2 X.new_low ⟨?_, ⟨[], _, by rw [Wd.grow_κ]; exact g2, .nil⟩, .nil⟩, ?_, ?_⟩
 ·rw [Wd.grow_ρ, Wd.grow_κ]
  show (if h.objs.size + 1 = (h.push emptyDict).objs.size then _ else _) = _
  rw [if_pos sz.symm]
 ·refine ⟨S12.1.trans Wd.grow_le, fun b o q e => ?_⟩
  obtain ⟨e2, q2⟩ := S12.2 b o q e
  refine ⟨e2, q2.P, q2.G, fun n o' e' => ?_⟩
  rcases Bm e' with e1 | ⟨e1, _⟩
  ·rw [Wd.grow_le.κ n (X2.nx ▸ AX e1)]; exact q2.H n o' e1
  ·rw [e1, <- hnx, Wd.grow_κ]
   exact fun z => absurd (Heap.lt_size e) (by rw [<- z]; exact Nat.lt_irrefl _)
 ·have := RV.loc (W := (W.froze (h.push emptyDict).objs.size (instObj C h.objs.size)).grow (h.objs.size + 1) h.objs.size) (n := H.length) (by show H.length < _ + 1; rw [hnx]; exact Nat.lt_succ_self _)
  rw [<- hnx, Wd.grow_ρ] at this
  rw [<- hnx]; exact this
noncomputable def ke (n : Nat) (k : AV -> Hp -> Prop) : AV -> Hp -> Prop := fun r H' => match r with
 | .none => k (.loc n) H'
 | _ => False
noncomputable def C0 (C : Nat) (vp : VP) : VP := fun xs H k => vp (.loc H.length :: xs) (Af H (.inst C [])) (ke H.length k)
theorem dE {n : Nat} {k : AV -> Hp -> Prop} {z : AV} {H : Hp} (h : ke n k z H) : z = .none := by
 cases z with
 | none => rfl
 | _ => exact False.elim h
noncomputable def S8 (K : Frag) (C f : Nat) : Bool := makesIn K C && (findIn K (.ref C) "__init__" == some (some (.ref f))) && (typeIn K (.ref f) == some (.type "function"))
theorem VB {d : Nat} {A : Around} {C : Nat} {vs : List Value} (rm : Rm (d + 1) A) : Rm d (A.under (.builtin "type.__call__" ⟨.ref C :: vs, []⟩)) := by
 have e1 : Code.weight (.builtin "type.__call__" ⟨.ref C :: vs, []⟩) <= 3 := Nat.le_of_ble_eq_true (by kernel_rfl)
 have e2 : Code.cUnits (.builtin "type.__call__" ⟨.ref C :: vs, []⟩) <= 20 := Nat.le_of_ble_eq_true (by kernel_rfl)
 refine ⟨rm.hand, ?_, ?_⟩
 ·have := rm.depth
  show A.depth + Code.weight _ + 4 * d < recursionLimit
  omega
 ·have := rm.units
  show A.units + Code.cUnits _ + 64 * d + 64 < cLine
  omega
theorem S9 {C f : Nat} {vp : VP} (hf : SC c d (.ref f) vp) (ok : S8 c.K C f = true) {A : Around} {W : Wd} {G : Gm} {H : Hp} {s : Shared} {xs : List AV} {vs : List Value} {kk : AV -> Hp -> Prop} {Q : Value -> Shared -> Prop} {R : Result -> Shared -> Prop}
  (rm : Rm (d + 1) A) (X : AM c.prog c.w c.h₀ W G H s.heap) (rv : Cr W xs vs) (v : vp (.loc H.length :: xs) (Af H (.inst C [])) kk) (hk : ∀ z H', kk z H' -> z = .none)
  (q : ∀ r W' H' h' t, C6 W G H s.heap W' H' h' -> AM c.prog c.w c.h₀ W' G H' h' -> RV W' (.loc H.length) r -> kk .none H' -> Q r (sh s h' t))
  (qR : ∀ r s', Q r s' -> R (.ok (.ret r)) s') : codeAny (model c.prog c.w) A (.call (.ref C) ⟨vs, []⟩) R s := by
 obtain ⟨hh, g, dr, t, os⟩ := s
 unfold S8 at ok
 simp only [Bool.and_eq_true, beq_iff_eq] at ok
 obtain ⟨⟨k1, k2⟩, k3⟩ := ok
 have KX := c.X.keeps X.old
 obtain ⟨W', X', S', r'⟩ := X.newInst C
 refine make_core (makes_of KX k1) (looks_findIn KX k2) (fun self => bind_fn KX self k3) (.inl rfl) ?_
 refine hf _ W' G _ ⟨_, g, dr, t, os⟩ (.loc H.length :: xs) (.ref (hh.objs.size + 1) :: vs) _ (fun r s' => r = .none /\ Q (.ref (hh.objs.size + 1)) s') _ (VB rm) X' (.cons r' (rv.mono S'.1)) v ?_ ?_
 ·intro z r W₂ H₂ h₂ t₂ S₂ X₂ r₂ k₂
  obtain rfl := hk z H₂ k₂
  cases r₂
  exact ⟨rfl, q _ _ _ _ t₂ (S'.trans S₂) X₂ (r'.mono S₂.1) k₂⟩
 ·intro r s' h
  exact ⟨h.1, qR _ _ h.2⟩
theorem HI {C f : Nat} {vp : VP} (hf : SC c d (.ref f) vp) (ok : S8 c.K C f = true) : SC c (d + 1) (.ref C) (C0 C vp) := fun A W G H s xs vs k Q R rm X rv v q qR =>
 S9 hf ok rm X rv v (fun z H' h => dE h) (fun r W' H' h' t S' X' r' k' => q _ r W' H' h' t S' X' r' k') qR
noncomputable def Se (C : Nat) : VP := fun xs H k => gd xs.isEmpty (k (.loc H.length) (Af H (.inst C [])))
noncomputable def Wc (K : Frag) (C : Nat) : Bool := makesIn K C && (findIn K (.ref C) "__init__" == some (some (.builtin "object.__init__")))
theorem VQ {C : Nat} (ok : Wc c.K C = true) : SC c (d + 1) (.ref C) (Se C) := by
 intro A W G H s xs vs k Q R rm X rv v q qR
 obtain ⟨hh, g, dr, t, os⟩ := s
 unfold Wc at ok
 simp only [Bool.and_eq_true, beq_iff_eq] at ok
 obtain ⟨k1, k2⟩ := ok
 obtain ⟨ex, v⟩ := Ea v
 rw [List.isEmpty_iff.mp ex] at rv
 rw [rv.nil_]
 have KX := c.X.keeps X.old
 obtain ⟨W', X', S', r'⟩ := X.newInst C
 have Y := makes_of (M := model c.prog c.w) KX k1
 refine make_core Y (looks_findIn KX k2) (fun self => Looks.of_pure (oi_bind self)) (.inr ⟨rfl, rfl⟩) ?_
 have g1 : ((hh.push emptyDict).push (instObj C hh.objs.size)).get? (hh.objs.size + 1) = some (instObj C hh.objs.size) := by heap_get
 have t1 : Looks (model c.prog c.w) ((hh.push emptyDict).push (instObj C hh.objs.size)) (typeOf (.ref (hh.objs.size + 1))) (.ref C) := (Looks.ld g1).andThen .now
 have t2 : Looks (model c.prog c.w) ((hh.push emptyDict).push (instObj C hh.objs.size)) (isInstance (.ref (hh.objs.size + 1)) (.type "object")) true := t1.andThen (Y.top.keeps fun b o e => Heap.get?_push_of_some _ (Heap.get?_push_of_some _ e))
 refine codeAny_call_builtin oi_plain entry_oi (@check_slot (model c.prog c.w) _ _ _ "object.__init__" "object" "__init__" (.ref (hh.objs.size + 1)) [] [] _ oi_kind oi_split t2 (oi_args (.ref (hh.objs.size + 1))) ?_)
 rw [oi_run]
 exact wpAny_pure (And.intro rfl (qR _ _ (q _ _ _ _ _ t S' X' r' v)))
theorem YD {W : Wd} {l : List (Nat × AV)} {es : List DictEntry} (h : An (EF W) l es) : An KE (l.map (·.1)) es /\ Cr W (l.map (·.2)) (es.map DictEntry.val) := An.rec ⟨.nil, .nil⟩ (fun h _ ih => ⟨.cons h.1 ih.1, .cons h.2 ih.2⟩) h
theorem AM.freeze {prog : Program} {w : World} {h₀ : Heap} {W : Wd} {G : Gm} {H : Hp} {h : Heap} (X : AM prog w h₀ W G H h) {n C : Nat} {l : List (Nat × AV)} (e : AB H n = some (.inst C l)) (hn : n < W.nx) :
  ∃ W', AM prog w h₀ W' G (Ik H n none) h /\ C6 W G H h W' (Ik H n none) h /\ RV W' (.inst C (l.map (·.1)) (l.map (·.2))) (.ref (W.ρ n)) := by
 obtain ⟨e1, ⟨es, m, g1, al⟩, nd⟩ := X.obj n _ e
 have le : W.le (W.froze (W.κ n) (dictOf es m)) := Wd.froze_le (X.offP n _ e)
 have Fe : ∀ j o, AB (Ik H n none) j = some o -> j ≠ n /\ AB H j = some o := fun j o q => by
  by_cases z : j = n
  ·subst z
   have := EC (l := H) (y := (none : Option AO)) (AX e)
   rw [BU, this] at q; cases q
  ·refine ⟨z, ?_⟩
   rw [BU, FN z] at q
   exact BU.mpr q
 have hP : ∀ a ob, (W.froze (W.κ n) (dictOf es m)).P a = some ob -> h.get? a = some ob := fun a ob q => by
  have q' : (if a = W.κ n then some (dictOf es m) else W.P a) = some ob := q
  by_cases z : a = W.κ n
  ·rw [if_pos z] at q'; cases q'; rw [z]; exact g1
  ·rw [if_neg z] at q'; exact X.keepP a ob q'
 refine ⟨_, ⟨by show W.nx = _; rw [AF]; exact X.nx, X.base, hP, X.keepG, fun j o q => ?_, fun i j o o' q q' => X.inj i j o o' (Fe _ _ q).2 (Fe _ _ q').2, fun j o q => ?_, fun j o q => X.offG j o (Fe _ _ q).2, fun a ob g z => ?_, fun j o q => X.low j o (Fe _ _ q).2, X.three⟩, ⟨le, fun a ob q g => ⟨g, ?_, q.G, fun j o z => q.H j o (Fe _ _ z).2⟩⟩, .inst (le.P _ _ e1) (if_pos rfl) (YD al).1 ((YD al).2.mono le)⟩
 ·obtain ⟨z, q'⟩ := Fe j o q
  exact (X.obj j o q').move le (X.nx ▸ AX q') rfl hP
 ·obtain ⟨z, q'⟩ := Fe j o q
  show (if W.κ j = W.κ n then _ else W.P (W.κ j)) = none
  rw [if_neg (fun y => z (X.inj j n o _ q' e y))]
  exact X.offP j o q'
 ·show (if a = W.κ n then _ else W.P a) = none
  rw [if_neg (fun y => by rw [y, X.offG n _ e] at g; cases g)]
  exact X.sep a ob g z
 ·show (if a = W.κ n then _ else W.P a) = none
  rw [if_neg (fun y => q.H n _ e y.symm)]
  exact q.P
noncomputable def ti (n : Nat) (H' : Hp) (k : AV -> Hp -> Prop) : AO -> Prop := fun o => match o with
 | .inst c l => k (.inst c (l.map (·.1)) (l.map (·.2))) (Ik H' n none)
 | _ => False
theorem kM {n : Nat} {H : Hp} {k : AV -> Hp -> Prop} {o : AO} (h : ti n H k o) : ∃ c l, o = .inst c l /\ k (.inst c (l.map (·.1)) (l.map (·.2))) (Ik H n none) := by
 cases o with
 | inst c l => exact ⟨c, l, rfl, h⟩
 | _ => exact False.elim h
noncomputable def aR (n : Nat) (k : AV -> Hp -> Prop) : AV -> Hp -> Prop := fun r H' => match r with
 | .none => hK (AB H' n) (ti n H' k)
 | _ => False
noncomputable def Sd (C : Nat) (vp : VP) : VP := fun xs H k => vp (.loc H.length :: xs) (Af H (.inst C [])) (aR H.length k)
theorem ZE {n : Nat} {k : AV -> Hp -> Prop} {z : AV} {H : Hp} (h : aR n k z H) : z = .none := by
 cases z with
 | none => rfl
 | _ => exact False.elim h
theorem gz {C f : Nat} {vp : VP} (hf : SC c d (.ref f) vp) (ok : S8 c.K C f = true) : SC c (d + 1) (.ref C) (Sd C vp) := fun A W G H s xs vs k Q R rm X rv v q qR =>
 S9 hf ok rm X rv v (fun z H' h => ZE h) (fun r W' H' h' t S' X' r' k' => by
  obtain ⟨o, e, k'⟩ := R5 k'
  obtain ⟨c, l, eo, k'⟩ := kM k'
  rw [eo] at e
  obtain ⟨er, hn⟩ := r'.loc_
  obtain ⟨W₂, X₂, S₂, r₂⟩ := X'.freeze e hn
  exact q _ _ _ _ _ t (S'.trans S₂) X₂ (er ▸ r₂) k') qR
end
section
variable {c : Cx} {d : Nat} {sg : CZ}
noncomputable abbrev Zn := Ag -> Hp -> (List (AV × AV) -> Hp -> Prop) -> Prop
noncomputable def OV (env : Env) (pos : Pos) (ps : List (Expr × Expr)) : List (Sem Value × Sem Value) := ps.map fun p => (eval p.1 env, do let x <- eval p.2 env; standAt pos; pure x)
inductive nH (W : Wd) : List (AV × AV) -> List (Value × Value) -> Prop
 | nil : nH W [] []
 | cons {x y : AV} {u v : Value} {l r} : RV W x u -> RV W y v -> nH W l r -> nH W ((x, y) :: l) ((u, v) :: r)
noncomputable def eW (c : Cx) (d : Nat) (sg : CZ) (ps : List (Expr × Expr)) (vc : Zn) : Prop :=
 ∀ (A : Around) (env : Env) (W : Wd) (G : Gm) (H : Hp) (F : Ag) (s : Shared) (k : List (AV × AV) -> Hp -> Prop) (Q : List (Value × Value) -> Shared -> Prop) (pos : Pos),
  Rm d A -> AM c.prog c.w c.h₀ W G H s.heap -> Aw sg W G H F env s.heap -> vc F H k ->
  (∀ x v W' H' h' t, W.le W' -> AM c.prog c.w c.h₀ W' G H' h' -> Aw sg W' G H' F env h' -> nH W' x v -> k x H' -> Q v (sh s h' t)) ->
  wpAny (model c.prog c.w) A (evalPairs (OV env pos ps)) Q Ds s
noncomputable def Na : Zn := fun _ H k => k [] H
noncomputable def uV (x y : AV) (k : List (AV × AV) -> Hp -> Prop) : List (AV × AV) -> Hp -> Prop := fun l H => k ((x, y) :: l) H
noncomputable def uW (x : AV) (r : Zn) (F : Ag) (k : List (AV × AV) -> Hp -> Prop) : AV -> Hp -> Prop := fun y H => r F H (uV x y k)
noncomputable def kPr (b : VE) (r : Zn) (F : Ag) (k : List (AV × AV) -> Hp -> Prop) : AV -> Hp -> Prop := fun x H => b F H (uW x r F k)
noncomputable def Fp (a b : VE) (r : Zn) : Zn := fun F H k => a F H (kPr b r F k)
theorem qI : eW c d sg [] Na := fun A env W G H F s k Q pos rm X Y v q => evalPairs_nil (q _ _ _ _ _ s.toks .refl X Y .nil v)
theorem qH {e f : Expr} {ps va vb vr} (a : SE c d sg e va) (b : SE c d sg f vb) (r : eW c d sg ps vr) : eW c d sg ((e, f) :: ps) (Fp va vb vr) := fun A env W G H F s k Q pos rm X Y v q =>
 evalPairs_cons (a A env W G H F s _ _ rm X Y v fun x u W₁ H₁ h₁ t₁ le₁ X₁ Y₁ r₁ k₁ => wpAny_bind (b A env W₁ G H₁ F _ _ _ rm X₁ Y₁ k₁ fun y z W₂ H₂ h₂ t₂ le₂ X₂ Y₂ r₂ k₂ => wpAny_bind (wpAny_standAt (wpAny_pure (
  r A env W₂ G H₂ F _ _ _ pos rm X₂ Y₂ k₂ fun l us W₃ H₃ h₃ t₃ le₃ X₃ Y₃ r₃ k₃ => q _ _ _ _ _ t₃ ((le₁.trans le₂).trans le₃) X₃ Y₃ (.cons (r₁.mono (le₂.trans le₃)) (r₂.mono le₃) r₃) k₃)))))
noncomputable def QB {K : Type} (f : AV -> Option K) : List (AV × AV) -> Option (List (K × AV))
 | [] => some []
 | (x, y) :: r => match f x, QB f r with
  | some i, some l => some ((i, y) :: l)
  | _, _ => none
noncomputable def JN {K : Type} (e : K -> K -> Bool) : List (K × AV) -> List (K × AV) -> List (K × AV)
 | a, [] => a
 | a, (k, x) :: r => JN e (Ft e a k x) r
theorem Nl {K : Type} [DecidableEq K] {k : K} {v : Value} {l : List (K × Value)} (h : (l.map (·.1)).Nodup) : ((stored l k v).map (·.1)).Nodup := by
 unfold stored
 split
 ·have e : (l.map (fun kv => if kv.1 = k then (kv.1, v) else kv)).map (·.1) = l.map (·.1) := by
   rw [List.map_map]
   refine List.map_congr_left fun a _ => ?_
   show (if a.1 = k then (a.1, v) else a).1 = a.1
   split <;> rfl
  rw [e]; exact h
 ·rename_i q
  rw [List.map_append, List.nodup_append]
  refine ⟨h, by simp, fun b hb b' hb' z => q ?_⟩
  obtain ⟨p, hp, rfl⟩ := List.mem_map.mp hb
  have : b' = k := by simpa using hb'
  exact List.any_eq_true.mpr ⟨p, hp, by simp [z, this]⟩
theorem Xh {W : Wd} {K K' : Type} [DecidableEq K'] {knd : KeyKind c.prog c.w K'} {f : AV -> Option K} {g : K -> K'} {e : K -> K -> Bool} (hf : ∀ x i v, f x = some i -> RV W x v -> knd.is (g i) v = true) (he : ∀ a b, e a b = true ↔ g a = g b) {ps : List (AV × AV)} {vs : List (Value × Value)} (r : nH W ps vs) : ∀ {l : List (K × AV)}, QB f ps = some l -> ∃ kvs, Carries knd vs kvs /\
  ∀ (acc : List (K × AV)) (acc' : List (K' × Value)), An (EG g W) acc acc' -> (acc'.map (·.1)).Nodup -> An (EG g W) (JN e acc l) (merged acc' kvs) := by
 induction r with
 | nil => exact fun z => ⟨[], trivial, fun _ _ h _ => Option.some.inj z ▸ h⟩
 | @cons x y u v l r ru rv _ ih =>
  intro l' z
  unfold QB at z
  cases z1 : f x with
  | none => rw [z1] at z; exact nomatch z
  | some i => cases z2 : QB f l with
   | none => rw [z1, z2] at z; exact nomatch z
   | some l2 =>
    rw [z1, z2] at z
    obtain ⟨kvs, h1, h2⟩ := ih z2
    exact ⟨(g i, v) :: kvs, ⟨hf _ _ _ z1 ru, rfl, h1⟩, fun acc acc' h nd => Option.some.inj z ▸ h2 _ _ (Lh he h nd rv) (Nl nd)⟩
theorem d8 {prog : Program} {w : World} {W : Wd} {h : Heap} : RO prog w (W.grow h.objs.size h.objs.size) W.nx (h.push emptyDict) (.idict []) :=
 ⟨by rw [Wd.grow_ρ, Wd.grow_κ], [], by rw [Wd.grow_ρ]; exact Heap.DictOf.new _, .nil⟩
theorem d7 {prog : Program} {w : World} {W : Wd} {h : Heap} : RO prog w (W.grow h.objs.size h.objs.size) W.nx (h.push emptyDict) (.sdict []) :=
 ⟨by rw [Wd.grow_ρ, Wd.grow_κ], [], by rw [Wd.grow_ρ]; exact Heap.DictOf.new _, .nil⟩
theorem dz {prog : Program} {w : World} {W : Wd} {h : Heap} : RO prog w (W.grow h.objs.size h.objs.size) W.nx (h.push emptyDict) (.tdict []) :=
 ⟨by rw [Wd.grow_ρ, Wd.grow_κ], [], by rw [Wd.grow_ρ]; exact Heap.DictOfH.new _, .nil⟩
noncomputable def Dh (ao : AO) : VE := fun _ H k => k (.loc H.length) (Af H ao)
noncomputable def Jn : AO -> Bool
 | .idict [] => true
 | .sdict [] => true
 | .tdict [] => true
 | _ => false
theorem Tg {prog : Program} {w : World} {W : Wd} {h : Heap} {ao : AO} (e : Jn ao = true) : RO prog w (W.grow h.objs.size h.objs.size) W.nx (h.push emptyDict) ao := by
 unfold Jn at e
 split at e
 ·exact d8
 ·exact d7
 ·exact dz
 ·cases e
theorem cK {pos} {ao : AO} (e : Jn ao = true) : SE c d sg (.Dict [] [] pos) (Dh ao) := fun A env W G H F s k Q rm X Y v q =>
 wpAny_Dict_empty (by
  obtain ⟨X', S', r'⟩ := X.pushM (o := emptyDict) (ao := ao) rfl (Tg e)
  exact q _ _ _ _ _ s.toks S'.1 X' (Y.move S') r' v)
noncomputable def kDi {K : Type} (mk : List (K × AV) -> AO) (em : AO -> Bool) (f : AV -> Option K) (e : K -> K -> Bool) (n : Nat) (prs : List (AV × AV)) (H' : Hp) (k : AV -> Hp -> Prop) : AO -> Prop := fun o => gd (em o) (oK (QB f prs) fun l => k (.loc n) (Ab H' n (mk (JN e [] l))))
noncomputable def lH {K : Type} (mk : List (K × AV) -> AO) (em : AO -> Bool) (f : AV -> Option K) (e : K -> K -> Bool) (n : Nat) (k : AV -> Hp -> Prop) : List (AV × AV) -> Hp -> Prop := fun prs H' => hK (AB H' n) (kDi mk em f e n prs H' k)
noncomputable def u5 : AO -> Bool
 | .idict [] => true
 | _ => false
noncomputable def u3 : AO -> Bool
 | .sdict [] => true
 | _ => false
theorem mX {o : AO} (h : u5 o = true) : o = .idict [] := by
 unfold u5 at h
 split at h
 ·rfl
 ·exact nomatch h
theorem mW {o : AO} (h : u3 o = true) : o = .sdict [] := by
 unfold u3 at h
 split at h
 ·rfl
 ·exact nomatch h
noncomputable def RC {K : Type} (mk : List (K × AV) -> AO) (em : AO -> Bool) (f : AV -> Option K) (e : K -> K -> Bool) (vps : Zn) : VE := fun F H k => vps F (Af H (mk [])) (lH mk em f e H.length k)
noncomputable def Ih : Zn -> VE := RC .idict u5 Us Hx
noncomputable def Nh : Zn -> VE := RC .sdict u3 Zk Gv
noncomputable def Th : List (Option Expr) -> List Expr -> List (Expr × Expr)
 | some k :: ks, v :: vs => (k, v) :: Th ks vs
 | _, _ => []
noncomputable def fO : List (Option Expr) -> List Expr -> Bool
 | [], [] => true
 | some _ :: ks, _ :: vs => fO ks vs
 | _, _ => false
theorem d9 {env : Env} {pos : Pos} {keys : List (Option Expr)} : ∀ {values : List Expr}, fO keys values = true -> (evalEachOpt keys env).zip ((evalEach values env).map fun v => do let x <- v; standAt pos; pure x) = (OV env pos (Th keys values)).map fun p => (some p.1, p.2) := by
 induction keys with
 | nil => intro values h; cases values with
  | nil => rfl
  | cons _ _ => exact nomatch h
 | cons k ks ih => intro values h; cases k with
  | none => exact nomatch h
  | some k => cases values with
   | nil => exact nomatch h
   | cons v vs => exact congrArg ((some (eval k env), do let x <- eval v env; standAt pos; pure x) :: ·) (ih h)
theorem VR {K K' : Type} [DecidableEq K'] {knd : KeyKind c.prog c.w K'} {mk : List (K × AV) -> AO} {em : AO -> Bool} (hm : ∀ o, em o = true -> o = mk []) {f : AV -> Option K} {g : K -> K'} {e : K -> K -> Bool} (hf : ∀ W x i v, f x = some i -> RV W x v -> knd.is (g i) v = true) (he : ∀ a b, e a b = true ↔ g a = g b)
  (hro : ∀ W n h l, RO c.prog c.w W n h (mk l) = (W.κ n = W.ρ n /\ ∃ kvs, h.DictOf knd (W.ρ n) kvs /\ An (EG g W) l kvs)) (hem : Jn (mk []) = true)
  {keys : List (Option Expr)} {values : List Expr} {pos vps} (a : eW c d sg (Th keys values) vps) (h0 : (Th keys values).length ≠ 0) (h1 : Nat.ble (Th keys values).length 15 = true)
  (hsh : fO keys values = true) : SE c d sg (.Dict keys values pos) (RC mk em f e vps) := fun A env W G H F s k Q rm X Y v q => by
 obtain ⟨X', S', r'⟩ := X.pushM (o := emptyDict) (ao := mk []) rfl (Tg hem)
 refine wpAny_Dict_pairs (knd := knd) (d9 hsh) (fun z => h0 (by have := congrArg List.length z; rwa [OV, List.length_map] at this)) (by rw [OV, List.length_map]; exact Nat.le_of_ble_eq_true h1) (a A env _ G _ F (sh s (s.heap.push emptyDict) s.toks) _ _ pos rm X' (Y.move S') v fun x u W₁ H₁ h₁ t₁ le₁ X₁ Y₁ r₁ k₁ => ?_)
 obtain ⟨o, g0, k₁⟩ := R5 k₁
 obtain ⟨eo, k₁⟩ := Ea k₁
 obtain ⟨l, el, kk⟩ := C9 k₁
 rw [hm _ eo] at g0
 obtain ⟨kvs, c1, c2⟩ := Xh (hf W₁) he r₁ el
 have ro := X₁.obj _ _ g0
 rw [hro] at ro
 obtain ⟨ek, kvs0, dl, al⟩ := ro
 have e0 : kvs0 = [] := List.length_eq_zero_iff.mp al.length.symm
 rw [e0] at dl
 have rl := (r'.mono le₁).loc_
 have hz := Value.ref.inj rl.1
 rw [<- hz] at dl ek
 refine ⟨kvs, c1, dl, fun h' dl' hs => ?_⟩
 obtain ⟨X₂, S₂⟩ := X₁.set g0 (ek ▸ hs) (o' := mk (JN e [] l)) (by rw [hro, <- hz]; exact ⟨ek, _, dl', c2 _ _ .nil .nil⟩)
 exact q _ _ _ _ h' _ ((S'.1.trans le₁).trans S₂.1) X₂ (Y₁.move S₂) (hz ▸ .loc rl.2) kk
theorem cJ {keys : List (Option Expr)} {values : List Expr} {pos vps} (a : eW c d sg (Th keys values) vps) (h0 : (Th keys values).length ≠ 0) (h1 : Nat.ble (Th keys values).length 15 = true)
  (hsh : fO keys values = true) : SE c d sg (.Dict keys values pos) (Ih vps) := VR (knd := intKind c.prog c.w) (fun _ => mX) (g := id) (fun _ _ _ _ h r => by rw [Jp h] at r; obtain ⟨t, rfl⟩ := r.int_; exact QF) oq (fun _ _ _ _ => rfl) rfl a h0 h1 hsh
theorem cH {keys : List (Option Expr)} {values : List Expr} {pos vps} (a : eW c d sg (Th keys values) vps) (h0 : (Th keys values).length ≠ 0) (h1 : Nat.ble (Th keys values).length 15 = true)
  (hsh : fO keys values = true) : SE c d sg (.Dict keys values pos) (Nh vps) := VR (knd := strKind c.prog c.w) (fun _ => mW) (fun _ _ _ _ h r => by rw [Kx h] at r; obtain ⟨t, rfl⟩ := r.str_; exact strKind_is c.prog c.w _ _) oo (fun _ _ _ _ => rfl) rfl a h0 h1 hsh
end
section
variable {c : Cx} {d : Nat} {sg : CZ}
theorem AM.pushAny {prog : Program} {w : World} {h₀ : Heap} {W : Wd} {G : Gm} {H : Hp} {h : Heap} (X : AM prog w h₀ W G H h) (o : Obj) : AM prog w h₀ W G H (h.push o) /\ C6 W G H h W H (h.push o) :=
 X.keeps fun a ob e => Heap.get?_push_of_some o e
noncomputable def Co (x : AV) (H : Hp) : Option (List AV) := match x with
 | .lst l => some l
 | .loc n => match AB H n with
  | some (.list l) => some l
  | _ => none
 | _ => none
theorem C3 {W : Wd} {G : Gm} {H : Hp} {h : Heap} {x : AV} {v : Value} {l : List AV} (X : AM c.prog c.w c.h₀ W G H h) (r : RV W x v) (p : Co x H = some l) : ∃ a vs, v = .ref a /\ h.IsList a vs.toArray /\ Cr W l vs := by
 cases x with
 | lst l' =>
  obtain ⟨a, o, vs, e, g, t, rs⟩ := r.lst_
  exact ⟨a, vs, e, ⟨o, X.keepP _ _ g, t⟩, Option.some.inj p ▸ rs⟩
 | loc n =>
  unfold Co at p
  dsimp only at p
  split at p
  ·rename_i l' g
   obtain ⟨vs, m, _, gl, rl⟩ := Ir X g
   exact ⟨_, vs, r.loc_.1, ⟨_, gl, rfl, m, rfl⟩, Option.some.inj p ▸ rl⟩
  ·exact nomatch p
 | _ => exact nomatch p
noncomputable def ZF (P : List AV -> Prop) : AO -> Prop := fun o => oK (fP o) P
noncomputable def MZ (x : AV) (H : Hp) (P : List AV -> Prop) : Prop := match x with
 | .lst l => P l
 | .loc n => hK (AB H n) (ZF P)
 | _ => False
theorem Gd {x : AV} {H : Hp} {P : List AV -> Prop} (p : MZ x H P) : ∃ l, Co x H = some l /\ P l := by
 cases x with
 | lst l => exact ⟨l, rfl, p⟩
 | loc n =>
  obtain ⟨l, g, p⟩ := hO (fun _ _ => NS) p
  exact ⟨l, by unfold Co; dsimp only; rw [g], p⟩
 | _ => exact False.elim p
theorem AM.newLst {prog : Program} {w : World} {h₀ : Heap} {W : Wd} {G : Gm} {H : Hp} {h : Heap} (X : AM prog w h₀ W G H h) {l : List AV} {vs : List Value} {m : Nat} (r : Cr W l vs) :
  ∃ W', AM prog w h₀ W' G H (h.push (BF vs m)) /\ C6 W G H h W' H (h.push (BF vs m)) /\ RV W' (.lst l) (.ref h.objs.size) := by
 obtain ⟨X₂, s₂⟩ := X.pushP (BF vs m) rfl
 exact ⟨_, X₂, s₂, .lst (if_pos rfl) ⟨rfl, _, rfl⟩ (r.mono s₂.1)⟩
theorem AM.newTup {prog : Program} {w : World} {h₀ : Heap} {W : Wd} {G : Gm} {H : Hp} {h : Heap} (X : AM prog w h₀ W G H h) {l : List AV} {vs : List Value} (r : Cr W l vs) :
  ∃ W', AM prog w h₀ W' G H (h.push { cls := .type "tuple", data := .seq vs.toArray }) /\ C6 W G H h W' H (h.push { cls := .type "tuple", data := .seq vs.toArray }) /\ RV W' (.tup l) (.ref h.objs.size) := by
 obtain ⟨X₂, s₂⟩ := X.pushP ({ cls := .type "tuple", data := .seq vs.toArray } : Obj) rfl
 exact ⟨_, X₂, s₂, .tup (if_pos rfl) ⟨rfl, _, rfl⟩ (r.mono s₂.1)⟩
noncomputable def upA (l : List AV) (j : Int) : List AV := match j with
 | .ofNat n => l.take n
 | .negSucc _ => l.dropLast
noncomputable def cE (u l : Value) : Obj := { cls := .type "slice", data := .fields #[l, u, .none] }
noncomputable abbrev VJ := AV -> Int -> Hp -> (AV -> Hp -> Prop) -> Prop
noncomputable def kW (V : VJ) (x : AV) (k : AV -> Hp -> Prop) : AV -> Hp -> Prop := fun y H => match y with
 | .int j => V x j H k
 | _ => False
noncomputable def kSl (V : VJ) (vj : VE) (F : Ag) (k : AV -> Hp -> Prop) : AV -> Hp -> Prop := fun x H => vj F H (kW V x k)
noncomputable def Uo (V : VJ) (vo vj : VE) : VE := fun F H k => vo F H (kSl V vj F k)
theorem W7 {V : VJ} {x y : AV} {k : AV -> Hp -> Prop} {H : Hp} (p : kW V x k y H) : ∃ j, y = .int j /\ V x j H k := by
 cases y with
 | int j => exact ⟨j, rfl, p⟩
 | _ => exact False.elim p
noncomputable def SL (c : Cx) (up : Bool) (V : VJ) : Prop :=
 ∀ (A : Around) (W : Wd) (G : Gm) (H : Hp) (s : Shared) (x : AV) (j : Int) (tj : Tok) (u sl : Value) (k : AV -> Hp -> Prop) (Q : Value -> Shared -> Prop), sl = (if up then Value.none else .int j tj) ->
  AM c.prog c.w c.h₀ W G H s.heap -> RV W x u -> V x j H k -> (∀ z r W' H' h' t, C6 W G H s.heap W' H' h' -> AM c.prog c.w c.h₀ W' G H' h' -> RV W' z r -> k z H' -> Q r (sh s h' t)) ->
  ∃ T id, (sh s (s.heap.push (cE (if up then .int j tj else .none) sl)) s.toks).TypeIs u T /\ typeLookup (.type T) "__getitem__" = pure (some (.builtin id)) /\ wpAny (model c.prog c.w) A (getItem u (.ref s.heap.objs.size)) Q Ds (sh s (s.heap.push (cE (if up then .int j tj else .none) sl)) s.toks)
theorem cG {V : VJ} {o e : Expr} {p pos : Pos} {vo va} (hv : SL c true V) (ho : SE c d sg o vo) (ha : SE c d sg e va) : SE c d sg (.Subscript o (.Slice none (some e) none p) pos) (Uo V vo va) := fun A env W G H F s k Q rm X Y v q =>
 Subscript_ (ho A env W G H F s _ _ rm X Y v fun x u W₁ H₁ h₁ t₁ le₁ X₁ Y₁ r₁ k₁ => wpAny_Slice (by
  rw [evalPart_none]
  refine wpAny_pure ?_
  rw [evalPart_some]
  refine ha A env W₁ G H₁ F _ _ _ rm X₁ Y₁ k₁ fun y z W₂ H₂ h₂ t₂ le₂ X₂ Y₂ r₂ k₂ => wpAny_pure ?_
  obtain ⟨j, ey, k₂⟩ := W7 k₂
  rw [ey] at r₂
  obtain ⟨tj, ez⟩ := r₂.int_
  rw [ez]
  obtain ⟨T, id, h1, h2, h3⟩ := hv A W₂ G H₂ (sh s h₂ t₂) x j tj u .none k Q rfl X₂ (r₁.mono le₂) k₂ fun z r W' H' h' t S' X' r' k' => q _ _ _ _ _ t ((le₁.trans le₂).trans S'.1) X' (Y₂.move S') r' k'
  exact tail_any (ops := [_, _]) h1 h2 h3 rfl))
theorem gx {V : VJ} {o e : Expr} {p pos : Pos} {vo va} (hv : SL c false V) (ho : SE c d sg o vo) (ha : SE c d sg e va) : SE c d sg (.Subscript o (.Slice (some e) none none p) pos) (Uo V vo va) := fun A env W G H F s k Q rm X Y v q =>
 Subscript_ (ho A env W G H F s _ _ rm X Y v fun x u W₁ H₁ h₁ t₁ le₁ X₁ Y₁ r₁ k₁ => wpAny_Slice (by
  rw [evalPart_some]
  refine ha A env W₁ G H₁ F _ _ _ rm X₁ Y₁ k₁ fun y z W₂ H₂ h₂ t₂ le₂ X₂ Y₂ r₂ k₂ => ?_
  rw [evalPart_none]
  refine wpAny_pure (wpAny_pure ?_)
  obtain ⟨j, ey, k₂⟩ := W7 k₂
  rw [ey] at r₂
  obtain ⟨tj, ez⟩ := r₂.int_
  rw [ez]
  obtain ⟨T, id, h1, h2, h3⟩ := hv A W₂ G H₂ (sh s h₂ t₂) x j tj u (.int j tj) k Q rfl X₂ (r₁.mono le₂) k₂ fun z r W' H' h' t S' X' r' k' => q _ _ _ _ _ t ((le₁.trans le₂).trans S'.1) X' (Y₂.move S') r' k'
  exact tail_any (ops := [_, _]) h1 h2 h3 rfl))
noncomputable def kSu (j : Int) (H : Hp) (k : AV -> Hp -> Prop) : List AV -> Prop := fun l => gd (Ii l.length) (k (.lst (upA l j)) H)
noncomputable def kSd (j : Int) (H : Hp) (k : AV -> Hp -> Prop) : List AV -> Prop := fun l => gd (Ii l.length) (k (.lst (l.drop j.toNat)) H)
noncomputable def SuL : VJ := fun x j H k => gd (decide (-1 <= j)) (MZ x H (kSu j H k))
noncomputable def vV : VJ := fun x j H k => gd (decide (0 <= j)) (MZ x H (kSd j H k))
noncomputable def cF (j : Int) (n : Nat) : Bool := decide (0 <= j) && (Nat.ble j.toNat n && Ii n)
noncomputable def vT : VJ := fun x j H k => oK (Zk x) fun s => gd (cF j s.length) (k (.str (s.take j.toNat)) H)
noncomputable def vU : VJ := fun x j H k => oK (Zk x) fun s => gd (cF j s.length) (k (.str (s.drop j.toNat)) H)
noncomputable def pA : VJ := fun x j H k => oK (Qz x) fun s => gd (cF j s.length) (k (.tup (s.take j.toNat)) H)
theorem Nm {j : Int} {n : Nat} : cF j n = true ↔ 0 <= j /\ j.toNat <= n /\ n < 100000 := by
 unfold cF
 rw [Bool.and_eq_true, Bool.and_eq_true, decide_eq_true_iff]
 exact ⟨fun h => ⟨h.1, Nat.le_of_ble_eq_true h.2.1, Nat.le_of_ble_eq_true h.2.2⟩, fun h => ⟨h.1, Nat.ble_eq_true_of_le h.2.1, Nat.ble_eq_true_of_le h.2.2⟩⟩
theorem U9 {W : Wd} {l : List AV} {vs : List Value} {j : Int} (hj : -1 <= j) (r : Cr W l vs) : ∃ us, slicePick vs.toArray none (some j) none = us.toArray /\ Cr W (upA l j) us := by
 cases j with
 | ofNat n => exact ⟨_, slicePick_upto' .., r.take n⟩
 | negSucc n =>
  have : n = 0 := by omega
  subst this
  exact ⟨_, slicePick_butLast vs.toArray 1 (Nat.le_refl _), by rw [List.size_toArray, <- List.dropLast_eq_take]; exact Cr.dropLast r⟩
theorem P7 {W : Wd} {G : Gm} {H : Hp} {s : Shared} {k : AV -> Hp -> Prop} {Q : Value -> Shared -> Prop} {us : List Value} {l' : List AV} {o : Obj} (X : AM c.prog c.w c.h₀ W G H s.heap)
  (q : ∀ z r W' H' h' t, C6 W G H s.heap W' H' h' -> AM c.prog c.w c.h₀ W' G H' h' -> RV W' z r -> k z H' -> Q r (sh s h' t)) (r : Cr W l' us) (kk : k (.lst l') H) : Q (.ref (s.heap.push o).objs.size) (sh s ((s.heap.push o).push (BF us 0)) s.toks) := by
 obtain ⟨X₃, S₃⟩ := X.pushAny o
 obtain ⟨W₄, X₄, S₄, r₄⟩ := X₃.newLst (m := 0) (r.mono S₃.1)
 exact q _ _ _ _ _ s.toks (S₃.trans S₄) X₄ r₄ kk
theorem tL : SL c true SuL := fun A W G H s x j tj u sl k Q e X r p q => by
 obtain ⟨hj, p⟩ := Ea p
 obtain ⟨l, el, p⟩ := Gd p
 obtain ⟨hl, kk⟩ := CW p
 have hj := of_decide_eq_true hj
 obtain ⟨a, vs, rfl, il, rl⟩ := C3 X r el
 obtain ⟨us, ep, ra⟩ := U9 hj rl
 subst e
 refine ⟨"list", _, (il.push _).typeIs, list_getitem_lookup, wpAny_getItem_list_slice (il.push _) (Heap.IsSliceOf.new ..) .none (.int j tj) .none (by simp) ?_ (by rw [List.size_toArray, <- rl.length]; exact Nat.le_trans (Nat.le_of_lt hl) BL)⟩
 rw [ep]
 exact P7 X q ra kk
theorem tO : SL c false vV := fun A W G H s x j tj u sl k Q e X r p q => by
 obtain ⟨hj, p⟩ := Ea p
 obtain ⟨l, el, p⟩ := Gd p
 obtain ⟨hl, kk⟩ := CW p
 have hj := of_decide_eq_true hj
 obtain ⟨a, vs, rfl, il, rl⟩ := C3 X r el
 subst e
 refine ⟨"list", _, (il.push _).typeIs, list_getitem_lookup, wpAny_getItem_list_slice (il.push _) (Heap.IsSliceOf.new ..) (.int j tj) .none .none (by simp) ?_ (by rw [List.size_toArray, <- rl.length]; exact Nat.le_trans (Nat.le_of_lt hl) BL)⟩
 rw [show slicePick vs.toArray (some j) none none = (vs.drop j.toNat).toArray by obtain ⟨n, rfl⟩ := Int.eq_ofNat_of_zero_le hj; rw [slicePick_from']; rfl]
 exact P7 X q (rl.drop _) kk
theorem Oy {up : Bool} {A : Around} {W : Wd} {G : Gm} {H : Hp} {s : Shared} {sx su : List Nat} {tx tj : Tok} {j : Int} {k : AV -> Hp -> Prop} {Q : Value -> Shared -> Prop} (X : AM c.prog c.w c.h₀ W G H s.heap)
  (q : ∀ z r W' H' h' t, C6 W G H s.heap W' H' h' -> AM c.prog c.w c.h₀ W' G H' h' -> RV W' z r -> k z H' -> Q r (sh s h' t)) (e : StrLaws.sliceText ⟨sx.toArray⟩ (if up then none else some j) (if up then some j else none) = ⟨su.toArray⟩) (hl : su.length < 100000) (kk : k (.str su) H) :
  ∃ T id, (sh s (s.heap.push (cE (if up then .int j tj else .none) (if up then .none else .int j tj))) s.toks).TypeIs (.str ⟨sx.toArray⟩ tx) T /\ typeLookup (.type T) "__getitem__" = pure (some (.builtin id)) /\
   wpAny (model c.prog c.w) A (getItem (.str ⟨sx.toArray⟩ tx) (.ref s.heap.objs.size)) Q Ds (sh s (s.heap.push (cE (if up then .int j tj else .none) (if up then .none else .int j tj))) s.toks) := by
 obtain ⟨X₃, S₃⟩ := X.pushAny (cE (if up then .int j tj else .none) (if up then .none else .int j tj))
 refine ⟨"str", _, typeIs_str _ _ _, PySem.F.slot_str_getitem.lookup, ?_⟩
 have sz : (⟨su.toArray⟩ : Str).length <= sizeLine := by show su.toArray.size <= sizeLine; rw [List.size_toArray]; exact Nat.le_trans (Nat.le_of_lt hl) BL
 have Et := fun t' k' => q (.str su) (.str ⟨su.toArray⟩ t') _ _ _ k' S₃ X₃ (.str _ _) kk
 rw [<- e] at sz Et
 cases up
 ·exact wpAny_getItem_str_slice (l := some (j, tj)) (u := none) (st := none) ⟨_, Heap.get?_push_size _ rfl, rfl, rfl⟩ rfl (post_val_or_str ⟨sz, Et⟩)
 ·exact wpAny_getItem_str_slice (l := none) (u := some (j, tj)) (st := none) ⟨_, Heap.get?_push_size _ rfl, rfl, rfl⟩ rfl (post_val_or_str ⟨sz, Et⟩)
theorem tK : SL c true vT := fun A W G H s x j tj u sl k Q e X r p q => by
 obtain ⟨sx, ex, p⟩ := C9 p
 obtain ⟨hb, kk⟩ := Ea p
 obtain ⟨h0, h1, h2⟩ := Nm.mp hb
 rw [Kx ex] at r
 obtain ⟨tx, rfl⟩ := r.str_
 subst e
 exact Oy (up := true) X q (by
  show StrLaws.sliceText ⟨sx.toArray⟩ none (some j) = _
  rw [StrLaws.sliceText_to ⟨h0, by show j <= ((sx.toArray.toList.length : Nat) : Int); rw [List.toList_toArray]; omega⟩, Int.sub_zero]; rfl) (by rw [List.length_take]; omega) kk
theorem tN : SL c false vU := fun A W G H s x j tj u sl k Q e X r p q => by
 obtain ⟨sx, ex, p⟩ := C9 p
 obtain ⟨hb, kk⟩ := Ea p
 obtain ⟨h0, h1, h2⟩ := Nm.mp hb
 rw [Kx ex] at r
 obtain ⟨tx, rfl⟩ := r.str_
 subst e
 exact Oy (up := false) X q (by
  show StrLaws.sliceText ⟨sx.toArray⟩ (some j) none = _
  rw [StrLaws.sliceText_from ⟨h0, by show j <= ((sx.toArray.toList.length : Nat) : Int); rw [List.toList_toArray]; omega⟩, List.toList_toArray, List.take_of_length_le (by rw [List.length_drop]; omega)]) (by rw [List.length_drop]; omega) kk
theorem Qp (b n : Nat) (hb : b <= n) : Builtin.Slice.sliceAdjust none (some (b : Int)) 1 (n : Int) = ((0 : Int), (b : Int)) := by
 unfold Builtin.Slice.sliceAdjust
 have h1 : ¬ ((1 : Int) < 0) := by omega
 have h2 : ¬ ((b : Int) < 0) := by omega
 simp only [h1, h2, if_false]
 congr 1
 omega
theorem PD (b : Nat) : Builtin.Slice.slicePlaces (0 : Int) (b : Int) 1 = b := by
 unfold Builtin.Slice.slicePlaces
 have h1 : (1 : Int) > 0 := by omega
 simp only [h1, if_true, Int.ediv_one]
 split <;> omega
section
variable {A : Around} {s : Shared}
theorem Oe {sl : Addr} {b n : Nat} {u : Tok} {Q : Int × Int × Nat -> Shared -> Prop} (hs : s.heap.IsSliceOf sl .none (.int b u) .none) (hb : b <= n) (h : Q ((0 : Int), 1, b) s) :
  wpAny (model c.prog c.w) A (Builtin.Slice.sliceApplied (.ref sl) (pure (n : Int))) Q Ds s := by
 obtain ⟨os, hos, hcs, hds⟩ := id hs
 unfold Builtin.Slice.sliceApplied Builtin.Slice.sliceFields
 refine wpAny_bind (wpAny_bind (wpAny_field hos hds (x := .none) rfl (wpAny_bind (wpAny_field hos hds (x := .int b u) rfl (wpAny_bind (wpAny_field hos hds (x := .none) rfl (wpAny_pure ?_)))))))
 refine wpAny_bind (slicePart_none ?_)
 show wpAny _ _ (if ((1 : Int) == 0) = true then _ else _) _ _ s
 rw [if_neg (by decide)]
 refine wpAny_bind (slicePart_none (wpAny_bind (slicePart_int (wpAny_bind (wpAny_pure ?_)))))
 show wpAny _ _ (match Builtin.Slice.sliceAdjust none (some (b : Int)) 1 (n : Int) with | (lo, hi) => pure (lo, (1 : Int), Builtin.Slice.slicePlaces lo hi 1)) _ _ s
 rw [Qp b n hb]
 show wpAny _ _ (pure ((0 : Int), (1 : Int), Builtin.Slice.slicePlaces (0 : Int) (b : Int) 1)) _ _ s
 rw [PD b]
 exact wpAny_pure h
theorem UG (xs : Array Value) (b : Nat) (hb : b <= xs.size) : ((List.range b).filterMap fun (k : Nat) => xs[((0 : Int) + (k : Int) * 1).toNat]?).toArray = (xs.toList.take b).toArray := by
 have e : (fun (k : Nat) => xs[((0 : Int) + (k : Int) * 1).toNat]?) = fun k => xs[0 + k]? := by
  funext k
  have : ((0 : Int) + (k : Int) * 1).toNat = 0 + k := by omega
  rw [this]
 rw [e]
 have := pick_run xs 0 b
 rw [List.filterMap_map] at this
 have e2 : ((fun x => xs[x]?) ∘ fun x => 0 + x) = fun k => xs[0 + k]? := rfl
 rw [e2] at this
 rw [this]
 simp
theorem RF {t sl : Addr} {items : Array Value} {b : Nat} {u : Tok} {Q : Value -> Shared -> Prop} (ht : IsTup s.heap t items) (hs : s.heap.IsSliceOf sl .none (.int b u) .none) (hb : b <= items.size)
  (h1 : b = items.size -> Q (.ref t) s) (h : Q (.ref s.heap.objs.size) { s with heap := s.heap.push { cls := .type "tuple", data := .seq (items.toList.take b).toArray } })
  (hsz : items.size <= sizeLine) : wpAny (model c.prog c.w) A (getItem (.ref t) (.ref sl)) Q Ds s := by
 have htake : sizeOk (.seq (items.toList.take b).toArray) := by
  show (items.toList.take b).toArray.size <= sizeLine
  rw [List.size_toArray, List.length_take, Array.length_toList]
  omega
 obtain ⟨os, hos, hcs, hds⟩ := id hs
 have hTs : s.TypeIs (.ref sl) "slice" := ⟨os, hos, hcs⟩
 unfold getItem
 try with_reducible refine wpAny_holding ?_
 first | refine wpAny_bind (wpAny_pure ?_) | skip
 refine wpAny_bind (wpAny_sequenceKey ht.typeIs (by decide) ?_)
 refine wpAny_bind (wpAny_callSpecial?_slot (name := Str.ofString "__getitem__") ht.typeIs slot_tuple_getitem
  (wpAny_call_entry slot_tuple_getitem ht.typeIs entry_tuple_getitem ?_ (args_tuple_getitem _ _)))
 show wpAny _ _ (Builtin.Tuple.tupleItemsOf (.ref t) >>= _) _ _ s
 refine wpAny_bind (tupleItemsOf_ ht ?_)
 refine wpAny_bind (wpAny_typeOf hTs ?_)
 rw [if_pos (by decide)]
 refine wpAny_bind (Oe hs hb ?_)
 show wpAny _ _ (if ((0 : Int) == 0 && (1 : Int) == 1 && b == items.size) = true then _ else _) _ _ s
 by_cases hno : b = items.size
 ·rw [if_pos (by simp [hno])]
  unfold Builtin.Tuple.tupleIsExact
  refine wpAny_bind (wpAny_bind (wpAny_typeOf ht.typeIs (wpAny_pure ?_)))
  rw [if_pos (by decide)]
  first
   | exact wpAny_bind (wpAny_rule (wpAny_pure ⟨_, rfl, wpAny_pure (h1 hno)⟩))
   | exact wpAny_bind (wpAny_rule (wpAny_bind (wpAny_pure ⟨_, rfl, wpAny_pure (h1 hno)⟩)))
 ·rw [if_neg (by simp [hno]), UG items b hb]
  first
   | exact wpAny_bind (m := Builtin.Tuple.tupleExact _) (wpAny_newObj_type (wpAny_pure ⟨_, rfl, wpAny_pure h⟩) htake)
   | exact wpAny_bind (m := Builtin.Tuple.tupleExact _) (wpAny_newObj_type (wpAny_bind (wpAny_pure (wpAny_pure ⟨_, rfl, wpAny_pure h⟩))) htake)
   | exact wpAny_bind (wpAny_bind (m := Builtin.Tuple.tupleExact _) (wpAny_newObj_type (wpAny_pure (wpAny_pure ⟨_, rfl, wpAny_pure h⟩)) htake))
   | exact wpAny_bind (wpAny_bind (m := Builtin.Tuple.tupleExact _) (wpAny_newObj_type (wpAny_pure ⟨_, rfl, wpAny_pure h⟩) htake))
end
theorem tJ : SL c true pA := fun A W G H s x j tj u sl k Q e X r p q => by
 obtain ⟨l, ex, p⟩ := C9 p
 obtain ⟨hb, kk⟩ := Ea p
 obtain ⟨h0, h1, h2⟩ := Nm.mp hb
 rw [NR ex] at r
 obtain ⟨a, o, vs, rfl, g, ⟨ht, nv, hnv⟩, rl⟩ := r.tup_
 subst e
 obtain ⟨X₃, S₃⟩ := X.pushAny (cE (.int j tj) .none)
 obtain ⟨n, rfl⟩ := Int.eq_ofNat_of_zero_le h0
 have it : IsTup (s.heap.push (cE (.int (n : Int) tj) .none)) a vs.toArray := ⟨o, X₃.keepP _ _ (S₃.1.P _ _ g), ht, nv, hnv⟩
 have hlen := rl.length
 refine ⟨"tuple", _, it.typeIs, slot_tuple_getitem.lookup, RF it (Heap.IsSliceOf.new ..) (by rw [List.size_toArray, <- hlen]; exact h1) (fun e => ?_) ?_ (by rw [List.size_toArray, <- hlen]; exact Nat.le_trans (Nat.le_of_lt h2) BL)⟩
 ·rw [List.size_toArray, <- hlen] at e
  rw [e, Int.toNat_natCast, List.take_length] at kk
  exact q _ _ _ _ _ s.toks S₃ X₃ (.tup (S₃.1.P _ _ g) ⟨ht, nv, hnv⟩ (rl.mono S₃.1)) kk
 ·obtain ⟨W₄, X₄, S₄, r₄⟩ := X₃.newTup ((rl.mono S₃.1).take n)
  exact q _ _ _ _ _ s.toks (S₃.trans S₄) X₄ r₄ kk
end
section
variable {c : Cx} {d : Nat} {sg : CZ}
noncomputable def dK (vp : V1) (k : AV -> Hp -> Prop) : AV -> Hp -> Prop := fun x H => vp x H k
noncomputable def BR (va : VE) (vp : V1) : VE := fun F H k => va F H (dK vp k)
noncomputable def Zq (c : Cx) (d : Nat) (f : Value) (vp : V1) : Prop := S1 c d (fun v => call f [v]) vp
theorem qS {x : Str} {id : String} {p pos : Pos} {e : Expr} {va vp} (ha : SE c d sg e va) (hf : Zq c d (.builtin id) vp) (hx : sg.scope.names.lookup x = some .globalImplicit) (hn : nsIn c.K mainGlobals x = some none) (hv : bootBuiltins x = some (.builtin id))
  (hnn : x ≠ "__name__") (hd : (x == ("__debug__" : Str)) = false) (h1 : BP e = false) : SE c d sg (.Call (.Name x p) [e] [] pos) (BR va vp) := fun A env W G H F s k Q rm X Y v q =>
 wpAny_Call_NameR (Lo X Y hx hn hv hnn hd (by
  rw [Tq h1]
  exact callWith_builtin rfl (evalArgs_plain (spliced_cons (ha A env W G H F s _ _ rm X Y v fun y z W₁ H₁ h₁ t₁ le₁ X₁ Y₁ r₁ k₁ => spliced_nil (
   hf A W₁ G H₁ _ y z k _ rm X₁ r₁ k₁ fun o ov W₂ H₂ h₂ t₂ s₂ X₂ r₂ k₂ => q _ _ _ _ _ t₂ (le₁.trans s₂.1) X₂ (Y₁.move s₂) r₂ k₂))))))
theorem hW {x : Str} {T : String} {p pos : Pos} {e : Expr} {va vp} (ha : SE c d sg e va) (hf : Zq c d (.type T) vp) (hx : sg.scope.names.lookup x = some .globalImplicit) (hn : nsIn c.K mainGlobals x = some none) (hv : bootBuiltins x = some (.type T))
  (hnn : x ≠ "__name__") (hd : (x == ("__debug__" : Str)) = false) (h1 : BP e = false) : SE c d sg (.Call (.Name x p) [e] [] pos) (BR va vp) := fun A env W G H F s k Q rm X Y v q =>
 wpAny_Call_NameR (Lo X Y hx hn hv hnn hd (by
  rw [Tq h1]
  exact PySem.callWith_type rfl (evalArgs_plain (spliced_cons (ha A env W G H F s _ _ rm X Y v fun y z W₁ H₁ h₁ t₁ le₁ X₁ Y₁ r₁ k₁ => spliced_nil (
   hf A W₁ G H₁ _ y z k _ rm X₁ r₁ k₁ fun o ov W₂ H₂ h₂ t₂ s₂ X₂ r₂ k₂ => q _ _ _ _ _ t₂ (le₁.trans s₂.1) X₂ (Y₁.move s₂) r₂ k₂))))))
noncomputable def kQ (n : Nat) (H : Hp) (k : AV -> Hp -> Prop) : Prop := gd (Ii n) (k (.int (n : Int)) H)
noncomputable def lnL (H : Hp) (k : AV -> Hp -> Prop) : AO -> Prop := fun o => match o with
 | .list l => kQ l.length H k
 | .idict l => kQ l.length H k
 | _ => False
noncomputable def Hu : V1 := fun x H k => match x with
 | .tup l => kQ l.length H k
 | .lst l => kQ l.length H k
 | .str l => kQ l.length H k
 | .loc n => hK (AB H n) (lnL H k)
 | _ => False
theorem tV : Zq c d (.builtin "len") Hu := fun A W G H s x u k Q rm X r p q => by
 have ls : ∀ {l : List AV} {a : Addr} {vs : List Value}, s.heap.IsList a vs.toArray -> Cr W l vs -> l.length < 100000 -> k (.int (l.length : Int)) H -> wpAny (model c.prog c.w) A (call (.builtin "len") [.ref a]) Q Ds s := fun {l a vs} il rl hl kk => by
  refine len_list il (by rw [List.size_toArray, <- rl.length]; omega) ?_
  rw [List.size_toArray, <- rl.length]
  exact q _ _ _ _ _ _ .refl X (.int _ _) kk
 cases x with
 | tup l =>
  obtain ⟨hl, kk⟩ := CW p
  obtain ⟨a, o, vs, rfl, e, t, rl⟩ := r.tup_
  refine len_tuple ⟨_, X.keepP _ _ e, t⟩ (by rw [List.size_toArray, <- rl.length]; omega) ?_
  rw [List.size_toArray, <- rl.length]
  exact q _ _ _ _ _ _ .refl X (.int _ _) kk
 | str sx =>
  obtain ⟨hl, kk⟩ := CW p
  obtain ⟨tx, rfl⟩ := r.str_
  refine len_str (by show ¬ ((sx.toArray.size : Int) >= 2 ^ 63); rw [List.size_toArray]; omega) ?_
  have := q (.int (sx.length : Int)) (.int (sx.length : Int) (s.toks + 1)) W H s.heap (s.toks + 1 + 1) .refl X (.int _ _) kk
  rwa [show ((Str.length ⟨sx.toArray⟩ : Nat) : Int) = sx.length from congrArg Nat.cast (List.size_toArray (as := sx))]
 | lst l =>
  obtain ⟨hl, kk⟩ := CW p
  obtain ⟨a, o, vs, rfl, e, t, rl⟩ := r.lst_
  exact ls ⟨_, X.keepP _ _ e, t⟩ rl hl kk
 | loc m =>
  rw [r.loc_.1]
  obtain ⟨o, g, p⟩ := R5 p
  cases o with
  | list l =>
   obtain ⟨hl, kk⟩ := CW p
   obtain ⟨vs, m, _, gl, rl⟩ := Ir X g
   exact ls ⟨_, gl, rfl, m, rfl⟩ rl hl kk
  | idict l =>
   obtain ⟨hl, kk⟩ := CW p
   obtain ⟨ek, kvs, hd, al⟩ := X.obj m _ g
   have hlen := al.length
   refine call_len_dict (ek ▸ X.low m _ g) hd (by omega) ?_
   rw [<- hlen]
   exact q _ _ _ _ _ _ .refl X (.int _ _) kk
  | _ => exact False.elim p
 | none => exact False.elim p
 | bool _ => exact False.elim p
 | int _ => exact False.elim p
 | inst _ _ _ => exact False.elim p
noncomputable def uP (H : Hp) (k : AV -> Hp -> Prop) : List AV -> Prop := fun l => gd (Ii l.length) (k (.tup l) H)
noncomputable def Nu : V1 := fun x H k => match x with
 | .tup l => k (.tup l) H
 | .lst l => uP H k l
 | .loc n => hK (AB H n) (ZF (uP H k))
 | _ => False
theorem cY : Zq c d (.type "tuple") Nu := fun A W G H s x u k Q rm X r p q => by
 have main : MZ x H (uP H k) -> wpAny (model c.prog c.w) A (call (.type "tuple") [u]) Q Ds s := fun p => by
  obtain ⟨l, el, p⟩ := Gd p
  obtain ⟨hl, kk⟩ := CW p
  obtain ⟨a, vs, rfl, il, rl⟩ := C3 X r el
  refine call_tuple_list il (fun h' hk => ?_) (by rw [List.size_toArray, <- rl.length]; exact Nat.le_trans (Nat.le_of_lt hl) BL)
  obtain ⟨X₂, S₂⟩ := X.keeps hk
  obtain ⟨W₃, X₃, S₃, r₃⟩ := X₂.newTup (rl.mono S₂.1)
  exact q _ _ _ _ _ s.toks (S₂.trans S₃) X₃ r₃ kk
 cases x with
 | tup l =>
  obtain ⟨a, o, vs, rfl, e, t, rl⟩ := r.tup_
  exact call_tuple_tup (items := vs.toArray) ⟨_, X.keepP _ _ e, t⟩ (q _ _ _ _ _ s.toks .refl X r p)
 | lst l => exact main p
 | loc n => exact main p
 | _ => exact False.elim p
noncomputable def CM : List Nat -> List AV
 | [] => []
 | a :: r => .str [a] :: CM r
noncomputable def dY (x : AV) (H : Hp) (P : List AV -> Prop) : Prop := match x with
 | .tup l => P l
 | .str s => P (CM s)
 | .lst l => P l
 | .loc n => hK (AB H n) (ZF P)
 | _ => False
noncomputable def kLi (H : Hp) (k : AV -> Hp -> Prop) : List AV -> Prop := fun l => gd (Ii l.length) (k (.loc H.length) (Af H (.list l)))
noncomputable def j0 : V1 := fun x H k => dY x H (kLi H k)
theorem Ee {s : List Nat} : (CM s).length = s.length := by
 induction s with
 | nil => rfl
 | cons _ _ ih => exact congrArg Nat.succ ih
theorem Nk {W : Wd} {s : List Nat} : ∀ {vs : List Value}, vs.length = s.length -> (∀ (i n : Nat), s[i]? = some n -> ∃ t, vs[i]? = some (Value.str ⟨#[n]⟩ t)) -> Cr W (CM s) vs := by
 induction s with
 | nil => exact fun e _ => List.length_eq_zero_iff.mp e ▸ .nil
 | cons a s ih =>
  intro vs e h
  cases vs with
  | nil => exact nomatch e
  | cons v vs =>
   obtain ⟨t, ht⟩ := h 0 a rfl
   rw [Option.some.inj ht]
   exact .cons (.str [a] t) (ih (Nat.succ.inj e) fun i => h (i + 1))
theorem Vz {prog : Program} {w : World} {h₀ : Heap} {W : Wd} {G : Gm} {H : Hp} {h h' : Heap} (X : AM prog w h₀ W G H h) {l : List AV} {vs : List Value} {m : Nat} (r : Cr W l vs) (hk : ∀ b o, h.get? b = some o -> h'.get? b = some o)
  (hg : h'.get? h.objs.size = some (BF vs m)) : ∃ W', AM prog w h₀ W' G (Af H (.list l)) h' /\ C6 W G H h W' (Af H (.list l)) h' /\ RV W' (.loc H.length) (.ref h.objs.size) := by
 obtain ⟨X', S'⟩ := X.keeps hk
 refine ⟨W.grow h.objs.size h.objs.size, X'.add X.off_new X.new_low ⟨by rw [Wd.grow_ρ, Wd.grow_κ], vs, m, by rw [Wd.grow_ρ]; exact hg, r.mono Wd.grow_le⟩, C6.add X.nx (fun b ob q e => ⟨(Nat.ne_of_lt (Heap.lt_size e)).symm, hk b ob e⟩), ?_⟩
 rw [<- X.nx]
 have := RV.loc (W := W.grow h.objs.size h.objs.size) (n := W.nx) (Nat.lt_succ_self _)
 rwa [Wd.grow_ρ] at this
theorem M6 {A : Around} {W : Wd} {G : Gm} {H : Hp} {s : Shared} {x : AV} {u : Value} {P : List AV -> Prop} {Q : Value -> Shared -> Prop} (rm : Rm d A) (X : AM c.prog c.w c.h₀ W G H s.heap) (r : RV W x u) (p : dY x H P) (sm : ∀ l, P l -> l.length < 100000)
  (Et : ∀ l vs m h' tk, P l -> Cr W l vs -> (∀ b o, s.heap.get? b = some o -> h'.get? b = some o) -> h'.get? s.heap.objs.size = some (BF vs m) -> Q (.ref s.heap.objs.size) (sh s h' tk)) : wpAny (model c.prog c.w) A (call (.type "list") [u]) Q Ds s := by
 have main : MZ x H P -> wpAny (model c.prog c.w) A (call (.type "list") [u]) Q Ds s := fun p => by
  obtain ⟨l, el, p⟩ := Gd p
  obtain ⟨a, vs, rfl, ⟨o, ho, hc, n, hd⟩, rl⟩ := C3 X r el
  exact call_list_seq (hsz := by rw [List.size_toArray, <- rl.length]; exact Nat.le_trans (Nat.le_of_lt (sm _ p)) BL) a (.inl rfl) ho hc hd fun h' c' hk hD => Et _ _ _ h' s.toks p rl hk hD
 cases x with
 | tup l =>
  obtain ⟨a, o, vs, rfl, e, ⟨ht, n, hd⟩, rl⟩ := r.tup_
  exact call_list_seq (hsz := by rw [List.size_toArray, <- rl.length]; exact Nat.le_trans (Nat.le_of_lt (sm _ p)) BL) a (.inr rfl) (X.keepP _ _ e) ht hd fun h' c' hk hD => Et _ _ _ h' s.toks p rl hk hD
 | str sx =>
  have hl := sm _ p
  rw [Ee] at hl
  obtain ⟨tx, rfl⟩ := r.str_
  refine call_list_str (hn := by rw [List.size_toArray]; exact Nat.le_trans (Nat.le_of_lt hl) BL) rm.hand ⟨sx.toArray⟩ tx fun h' tk acc c' hk hD hi => ?_
  obtain ⟨hs, hi⟩ := hi
  have rl : Cr W (CM sx) acc.toList := Nk (by rw [Array.length_toList, hs, List.size_toArray]) fun i n hn => by
   have hlt : i < acc.size := by rw [hs, List.size_toArray]; exact (List.getElem?_eq_some_iff.mp hn).1
   obtain ⟨cc, u, e1, e2⟩ := hi i acc[i] (Array.getElem?_eq_getElem hlt)
   rw [List.getElem?_toArray, hn] at e1
   exact ⟨u, by rw [Array.getElem?_toList, Array.getElem?_eq_getElem hlt, e2, Option.some.inj e1]⟩
  exact Et _ _ c' h' tk p rl hk (by rw [hD])
 | lst l => exact main p
 | loc n => exact main p
 | _ => exact False.elim p
theorem AAU : Zq c d (.type "list") j0 := fun A W G H s x u k Q rm X r p q =>
 M6 rm X r p (fun l h => (CW h).1) fun l vs m h' tk kk rl hk hD => by
  obtain ⟨W₃, X₃, S₃, r₃⟩ := Vz X rl hk hD
  exact q _ _ _ _ _ tk S₃ X₃ r₃ (CW kk).2
noncomputable def GY (a : Int) : List Nat := (Str.ofString (toString a)).cps.toList
noncomputable def bx (a : Int) : Bool := Nat.ble (a.natAbs + 1) 1000000000000
theorem gX {a : Int} (h : bx a = true) : Fq a := by have := Nat.le_of_ble_eq_true h; unfold Fq; omega
noncomputable def UH : V1 := fun x H k => match x with
 | .int a => gd (bx a) (k (.str (GY a)) H)
 | _ => False
theorem cz {n : Nat} (h : n < 2 ^ 40) : n.log2 <= 40 := by
 by_cases h0 : n = 0
 ·rw [h0]; exact Nat.zero_le _
 ·exact Nat.le_of_lt ((Nat.log2_lt h0).mpr h)
theorem tM : Zq c d (.type "str") UH := fun A W G H s x u k Q rm X r p q => by
 cases x with
 | int a =>
  obtain ⟨hs, p⟩ := Ea p
  have hs := gX hs
  obtain ⟨t, rfl⟩ := r.int_
  refine PySem.P.str_of_int ?_ ?_
  ·have := cz (n := a.natAbs) (by have := hs.1; have := hs.2; omega)
   omega
  ·have := q (.str (GY a)) (.str ⟨(GY a).toArray⟩ s.toks) W H s.heap (s.toks + 1) .refl X (.str _ _) p
   rwa [show (⟨(GY a).toArray⟩ : Str) = Str.ofString (toString a) by unfold GY; rw [Array.toArray_toList]] at this
 | _ => exact False.elim p
noncomputable def Lz : List AV -> Option (List Int)
 | [] => some []
 | .int i :: r => match Lz r with
  | some l => some (i :: l)
  | none => none
 | _ => none
noncomputable def uQ (H : Hp) (k : AV -> Hp -> Prop) : List AV -> Prop := fun l => oK (Lz l) fun ns => k (.int ns.sum) H
noncomputable def cS : V1 := fun x H k => MZ x H (uQ H k)
theorem QE {W : Wd} {l : List AV} {vs : List Value} (r : Cr W l vs) : ∀ {ns : List Int}, Lz l = some ns -> ∃ xs : List (Int × Tok), vs = xs.map (fun p => .int p.1 p.2) /\ xs.map (·.1) = ns := by
 induction r with
 | nil => exact fun e => ⟨[], rfl, Option.some.inj e⟩
 | @cons x v l vs a _ ih =>
  intro ns e
  cases x with
  | int i =>
   unfold Lz at e
   cases el : Lz l with
   | none => rw [el] at e; exact nomatch e
   | some l' =>
    rw [el] at e
    obtain ⟨xs, e1, e2⟩ := ih el
    obtain ⟨t, ev⟩ := a.int_
    exact ⟨(i, t) :: xs, by rw [ev, e1]; rfl, by rw [<- Option.some.inj e, <- e2]; rfl⟩
  | _ => exact nomatch e
theorem tG : Zq c d (.builtin "sum") cS := fun A W G H s x u k Q rm X r p q => by
 obtain ⟨l, el, p⟩ := Gd p
 obtain ⟨ns, ei, kk⟩ := C9 p
 obtain ⟨a, vs, rfl, il, rl⟩ := C3 X r el
 obtain ⟨xs, e1, e2⟩ := QE rl ei
 have e3 : vs.toArray = intItems xs.toArray := by rw [e1, intItems, List.map_toArray]
 rw [e3] at il
 refine sum_intListG rm.hand il fun h' tk t' hk => ?_
 obtain ⟨X₂, S₂⟩ := X.keeps hk
 rw [show preSum (numAt xs.toArray) xs.toArray.size = ns.sum by rw [preSum_eq, List.take_of_length_le (by simp), List.toList_toArray, e2]]
 exact q _ _ _ _ _ tk S₂ X₂ (.int _ _) kk
end
end Mine
end
section
namespace Mine
open PySem PySem.W PyProof.Rows PySem.Calls Builtin
section
theorem J0 : fillsNumberSlot (Value.type "tuple") "mul" = pure false := by kernel_rfl
theorem Nr : seqRepeat? (Value.type "tuple") = pure (some (Value.builtin "tuple.__mul__")) := by kernel_rfl
theorem RN (a : Int) (t : Tok) (l : Addr) (items : Array Value) (n : Nat) (d : Option Addr) (sl : Array (Option Value)) :
  Meets (Builtin.«int.__rmul__» ⟨[.int a t, .ref l], []⟩) (fun _ R s => s.heap.get? l = some { cls := .type "tuple", dict := d, data := .seq items n, slots := sl } /\ R (.ok (.ret Value.notImplemented)) s) :=
 .of_wp fun prog w A R s h => by obtain ⟨hp, g, d, tk, os⟩ := s; obtain ⟨hl, h⟩ := h; wp_walk; exact ⟨_, rfl, h⟩
theorem Rc (l : Addr) (items : Array Value) (n : Nat) (d : Option Addr) (sl : Array (Option Value)) (u : Tok) :
  Meets (Builtin.«tuple.__mul__» ⟨[.ref l, .int 1 u], []⟩) (fun _ R s => s.heap.get? l = some { cls := .type "tuple", dict := d, data := .seq items n, slots := sl } /\ R (.ok (.ret (Value.ref l))) s) :=
 .of_wp fun prog w A R s h => by
  obtain ⟨hp, g, d, tk, os⟩ := s; obtain ⟨hl, h⟩ := h
  wp_walk
  exact ⟨_, rfl, h⟩
theorem Rd (l : Addr) (items : Array Value) (n : Nat) (d : Option Addr) (sl : Array (Option Value)) (u : Tok) (he : items.isEmpty = false) :
  Meets (Builtin.«tuple.__mul__» ⟨[.ref l, .int 0 u], []⟩) (fun _ R s => s.heap.get? l = some { cls := .type "tuple", dict := d, data := .seq items n, slots := sl } /\
   R (.ok (.ret (Value.ref s.heap.objs.size))) { s with heap := s.heap.push { cls := Value.type "tuple", data := Data.seq #[] } }) :=
 .of_wp fun prog w A R s h => by
  obtain ⟨hp, g, d, tk, os⟩ := s; obtain ⟨hl, h⟩ := h
  wp_walk
  exact ⟨_, rfl, h⟩
theorem Rb (l : Addr) (items : Array Value) (n : Nat) (d : Option Addr) (sl : Array (Option Value)) (x : Int) (u : Tok) (he : items.isEmpty = false) (h0 : 2 <= x) (h1 : x < 1000) (h2 : items.size <= 1000) :
  Meets (Builtin.«tuple.__mul__» ⟨[.ref l, .int x u], []⟩) (fun _ R s => s.heap.get? l = some { cls := .type "tuple", dict := d, data := .seq items n, slots := sl } /\
   R (.ok (.ret (Value.ref s.heap.objs.size))) { s with heap := s.heap.push { cls := Value.type "tuple", data := Data.seq (List.foldl (fun x1 x2 => x1 ++ x2) #[] (List.replicate x.toNat items)) } }) :=
 .of_wp fun prog w A R s h => by
  obtain ⟨hp, g, d, tk, os⟩ := s; obtain ⟨hl, h⟩ := h
  have hb : (items.size : Int) * x <= 1000 * 1000 := by
   have a : (items.size : Int) <= 1000 := by omega
   exact Int.mul_le_mul a (by omega) (by omega) (by omega)
  have hz : (List.foldl (fun x1 x2 => x1 ++ x2) #[] (List.replicate x.toNat items)).size <= sizeLine := by
   rw [listMul_foldl, List.size_toArray]
   show (#[].toList ++ _ : List Value).length <= sizeLine
   rw [List.nil_append, lm_len_rep_flat, Array.length_toList]
   refine Nat.le_trans ?_ (show 1000000 <= sizeLine by rw [sizeLine_eq]; omega)
   have : x.toNat * items.size <= 1000 * 1000 := Nat.mul_le_mul (by omega) h2
   omega
  wp_walk
  rw [if_neg (by simp; omega)]
  wp_walk
  rw [if_neg (by simp [he]; omega)]
  wp_walk
  rw [if_neg (by simp [he]; omega)]
  wp_walk
  rw [if_neg (by omega)]
  wp_walk
  rw [if_neg (by unfold Tuple.tupleTooMany; simp; rw [sizeLine_eq]; omega)]
  wp_walk
  exact ⟨_, rfl, h⟩
variable {c : Cx} {d : Nat} {sg : CZ}
theorem Sy {W : Wd} {l : List AV} {vs : List Value} (r : Cr W l vs) (n : Nat) : Cr W (List.replicate n l).flatten (List.replicate n vs).flatten := by
 induction n with
 | zero => exact .nil
 | succ n ih => rw [List.replicate_succ, List.replicate_succ, List.flatten_cons, List.flatten_cons]; exact r.append ih
noncomputable abbrev Yd (T : String) (xs : Array Value) (n : Nat) (d : Option Addr) (sl : Array (Option Value)) : Obj := { cls := .type T, dict := d, data := .seq xs n, slots := sl }
theorem So {T : String} {o : Obj} {xs : Array Value} (h : o.cls = .type T /\ ∃ n, o.data = .seq xs n) : ∃ n d sl, o = Yd T xs n d sl := by
 obtain ⟨oc, od, da, sl⟩ := o
 obtain ⟨h1, n, h2⟩ := h
 exact ⟨n, od, sl, by rw [show oc = _ from h1, show da = _ from h2]⟩
theorem Nj {W : Wd} {G : Gm} {H : Hp} {h : Heap} {l : List AV} {u : Value} (X : AM c.prog c.w c.h₀ W G H h) (r : RV W (.tup l) u) : ∃ a vs n d sl, u = .ref a /\ h.get? a = some (Yd "tuple" vs.toArray n d sl) /\ Cr W l vs := by
 obtain ⟨a, o, vs, e, g, t, rl⟩ := r.tup_
 obtain ⟨n, d, sl, eo⟩ := So t
 exact ⟨a, vs, n, d, sl, e, eo ▸ X.keepP _ _ g, rl⟩
theorem P9 {W : Wd} {G : Gm} {H : Hp} {h : Heap} {x : AV} {l : List AV} {u : Value} (X : AM c.prog c.w c.h₀ W G H h) (r : RV W x u) (e : Co x H = some l) : ∃ a vs n d sl, u = .ref a /\ h.get? a = some (Yd "list" vs.toArray n d sl) /\ Cr W l vs := by
 obtain ⟨a, vs, eu, ⟨o, ho, t⟩, rl⟩ := C3 X r e
 obtain ⟨n, d, sl, eo⟩ := So t
 exact ⟨a, vs, n, d, sl, eu, eo ▸ ho, rl⟩
noncomputable def Qu {α β : Type} (f : AV -> Option α) (g : AV -> Option β) (x y : AV) (P : α -> β -> Prop) : Prop := oK (f x) fun a => oK (g y) fun b => P a b
theorem Sj {α β : Type} {f : AV -> Option α} {g : AV -> Option β} {x y : AV} {P : α -> β -> Prop} (p : Qu f g x y P) : ∃ a b, f x = some a /\ g y = some b /\ P a b := by
 obtain ⟨a, e1, p⟩ := C9 p
 obtain ⟨b, e2, p⟩ := C9 p
 exact ⟨a, b, e1, e2, p⟩
noncomputable def kO (l : List AV) (n : Int) : Bool := decide (0 <= n) && (Nat.ble (n.toNat + 1) 1000 && (!l.isEmpty && Nat.ble l.length 1000))
noncomputable def jy : V2 := fun x y H k => Qu Qz Us x y fun l n => gd (kO l n) (k (.tup (List.replicate n.toNat l).flatten) H)
theorem j8 : S2 c d (binaryOp .Mult) jy := fun A W G H s x y u v k Q rm X r1 r2 p q => by
 obtain ⟨l, n, ex, ey, p⟩ := Sj p
 rw [NR ex] at r1
 rw [Jp ey] at r2
 obtain ⟨hb, kk⟩ := Ea p
 unfold kO at hb
 rw [Bool.and_eq_true, Bool.and_eq_true, Bool.and_eq_true] at hb
 have h0 := of_decide_eq_true hb.1
 obtain ⟨a, vs, m, od, sl, rfl, ho, rl⟩ := Nj X r1
 obtain ⟨tn, rfl⟩ := r2.int_
 have he : vs.toArray.isEmpty = false := Bool.not_inj ((Cr.emp rl).trans hb.2.2.1)
 have tI : s.TypeIs (.ref a) "tuple" := ⟨_, ho, rfl⟩
 refine wpAny_binaryOp_repeat_ref (T := "tuple") (U := "int") (by decide) tI (fun s' => typeIs_int s' n tn) J0 PySem.F.fills_int_mul PySem.F.slot_int_rmul Nr PySem.F.slot_int_index.lookup
  (call_meets PySem.F.slot_int_rmul (typeIs_int s n tn) PySem.F.entry_int_rmul (PySem.F.args_int_rmul_2 _ _) (RN n tn a vs.toArray m od sl) ⟨ho, rfl, tI, ?_⟩)
 rcases (by omega : n = 0 \/ n = 1 \/ 2 <= n) with rfl | rfl | h4
 ·refine call_meets PySem.F.slot_tuple_mul tI PySem.F.entry_tuple_mul (PySem.F.args_tuple_mul_2 _ _) (Rd a vs.toArray m od sl tn he) ⟨ho, ?_⟩
  obtain ⟨W₂, X₂, S₂, r₂⟩ := X.newTup (l := []) (vs := []) .nil
  exact q _ _ _ _ _ s.toks S₂ X₂ r₂ kk
 ·refine call_meets PySem.F.slot_tuple_mul tI PySem.F.entry_tuple_mul (PySem.F.args_tuple_mul_2 _ _) (Rc a vs.toArray m od sl tn) ⟨ho, ?_⟩
  exact q _ _ _ _ _ s.toks .refl X r1 (by rwa [show (List.replicate (1 : Int).toNat l).flatten = l from List.append_nil l] at kk)
 ·refine call_meets PySem.F.slot_tuple_mul tI PySem.F.entry_tuple_mul (PySem.F.args_tuple_mul_2 _ _) (Rb a vs.toArray m od sl n tn he h4 (by have := Nat.le_of_ble_eq_true hb.2.1; omega) (by rw [List.size_toArray, <- rl.length]; exact Nat.le_of_ble_eq_true hb.2.2.2)) ⟨ho, ?_⟩
  rw [show List.foldl (fun x1 x2 => x1 ++ x2) #[] (List.replicate n.toNat vs.toArray) = (List.replicate n.toNat vs).flatten.toArray by rw [listMul_foldl]; simp]
  obtain ⟨W₂, X₂, S₂, r₂⟩ := X.newTup (Sy rl n.toNat)
  exact q _ _ _ _ _ s.toks S₂ X₂ r₂ kk
noncomputable def kMl (n : Int) (H : Hp) (k : AV -> Hp -> Prop) : List AV -> Prop := fun l => gd (Nat.ble l.length 1000) (k (.loc H.length) (Af H (.list (List.replicate n.toNat l).flatten)))
noncomputable def jz : V2 := fun x y H k => oK (Us y) fun n => gd (decide (0 <= n) && decide (n < 1000)) (MZ x H (kMl n H k))
theorem j9 : S2 c d (binaryOp .Mult) jz := fun A W G H s x y u v k Q rm X r1 r2 p q => by
 obtain ⟨n, ey, p⟩ := C9 p
 obtain ⟨hb, p⟩ := Ea p
 obtain ⟨l, el, p⟩ := Gd p
 obtain ⟨hl, kk⟩ := Ea p
 rw [Bool.and_eq_true] at hb
 have h0 := of_decide_eq_true hb.1
 have h1 := of_decide_eq_true hb.2
 rw [Jp ey] at r2
 obtain ⟨tn, rfl⟩ := r2.int_
 obtain ⟨a, vs, m, od, sl, rfl, ho, rl⟩ := P9 X r1 el
 have hs' : vs.length * n.toNat <= 1000 * 1000 := Nat.mul_le_mul (rl.length ▸ Nat.le_of_ble_eq_true hl) (by omega)
 have hs : vs.toArray.size * n.toNat <= 1000 * 1000 := by rw [List.size_toArray]; exact hs'
 have tI : s.TypeIs (.ref a) "list" := ⟨_, ho, rfl⟩
 refine wpAny_binaryOp_repeat_ref (T := "list") (U := "int") (by decide) tI (fun s' => typeIs_int s' n tn) noFill_list_mul PySem.F.fills_int_mul PySem.F.slot_int_rmul repeat_list PySem.F.slot_int_index.lookup
  (call_meets PySem.F.slot_int_rmul (typeIs_int s n tn) PySem.F.entry_int_rmul (PySem.F.args_int_rmul_2 _ _) (lm_int_rmul_list_any n tn a vs.toArray m od sl) ⟨ho, rfl, tI,
   call_meets PySem.F.slot_list_mul tI PySem.F.entry_list_mul (PySem.F.args_list_mul_2 _ _) (lm_list_mul_any a vs.toArray m od sl n tn (by simp [Builtin.List.listFitsIndex]; omega) (by omega) (by simp [Builtin.List.listTooLong, sizeLine]; omega)) ⟨ho, ?_⟩⟩)
 rw [listMul_foldl_if vs.toArray n.toNat]
 obtain ⟨W₂, X₂, S₂, r₂⟩ := X.newList (Sy rl n.toNat) 0
 exact q _ _ _ _ _ s.toks S₂ X₂ r₂ kk
noncomputable def aI : V2 := fun x y H k => Qu Zk Zk x y fun a b => gd (Ii a.length && Ii b.length) (k (.str (a ++ b)) H)
theorem VK {a b : Nat} {p : Prop} (h : gd (Ii a && Ii b) p) : a < 100000 /\ b < 100000 /\ p := by
 obtain ⟨h, p⟩ := Ea h
 rw [Bool.and_eq_true] at h
 exact ⟨Nat.le_of_ble_eq_true h.1, Nat.le_of_ble_eq_true h.2, p⟩
theorem kF : S2 c d (binaryOp .Add) aI := fun A W G H s x y u v k Q rm X r1 r2 p q => by
 obtain ⟨a, b, ex, ey, p⟩ := Sj p
 obtain ⟨h1, h2, kk⟩ := VK p
 rw [Kx ex] at r1
 rw [Kx ey] at r2
 obtain ⟨ta, rfl⟩ := r1.str_
 obtain ⟨tb, rfl⟩ := r2.str_
 refine add_str (fun t' tk => ?_) ?_
 ·have := q (.str (a ++ b)) (.str ⟨(a ++ b).toArray⟩ t') W H s.heap tk .refl X (.str _ _) kk
  rwa [show (⟨(a ++ b).toArray⟩ : Str) = (⟨a.toArray⟩ : Str) ++ ⟨b.toArray⟩ by show _ = Str.append _ _; simp [Str.append]] at this
 ·show a.toArray.size + b.toArray.size <= sizeLine
  rw [List.size_toArray, List.size_toArray, sizeLine_eq]
  omega
noncomputable def M0 : V2 := fun x y H k => Qu Qz Qz x y fun a b => gd (Ii a.length && Ii b.length) (k (.tup (a ++ b)) H)
theorem kD : S2 c d (binaryOp .Add) M0 := fun A W G H s x y u v k Q rm X r1 r2 p q => by
 obtain ⟨la, lb, ex, ey, p⟩ := Sj p
 obtain ⟨h1, h2, kk⟩ := VK p
 rw [NR ex] at r1
 rw [NR ey] at r2
 obtain ⟨a, vs, m, od, sl, rfl, g1, rl⟩ := Nj X r1
 obtain ⟨a', vs', m', od', sl', rfl, g2, rl'⟩ := Nj X r2
 have t1 : s.TypeIs (.ref a) "tuple" := ⟨_, g1, rfl⟩
 have t2 : s.TypeIs (.ref a') "tuple" := ⟨_, g2, rfl⟩
 cases vs with
 | nil =>
  rw [show la = [] from List.length_eq_zero_iff.mp rl.length] at kk
  exact concat_meets t1 t2 noFill_tuple_add seq_tuple_add PySem.F.slot_tuple_add PySem.F.entry_tuple_add (PySem.F.args_tuple_add_2 _ _) (tuple_addW0 a a' #[] vs'.toArray m m' od od' sl sl' rfl) ⟨g1, g2, q _ _ _ _ _ s.toks .refl X r2 kk⟩
 | cons v1 vr =>
  have h3 := rl.length
  have h4 := rl'.length
  cases vs' with
  | nil =>
   rw [show lb = [] from List.length_eq_zero_iff.mp h4, List.append_nil] at kk
   exact concat_meets t1 t2 noFill_tuple_add seq_tuple_add PySem.F.slot_tuple_add PySem.F.entry_tuple_add (PySem.F.args_tuple_add_2 _ _) (tuple_addW1 a a' (v1 :: vr).toArray #[] m m' od od' sl sl' (by simp) rfl) ⟨g1, g2, q _ _ _ _ _ s.toks .refl X r1 kk⟩
  | cons w1 wr =>
   refine concat_meets t1 t2 noFill_tuple_add seq_tuple_add PySem.F.slot_tuple_add PySem.F.entry_tuple_add (PySem.F.args_tuple_add_2 _ _) (tuple_addW2 a a' (v1 :: vr).toArray (w1 :: wr).toArray m m' od od' sl sl' (by simp) (by simp) (by
    rw [List.size_toArray, List.size_toArray, sizeLine_eq, <- h3, <- h4]; omega)) ⟨g1, g2, ?_⟩
   obtain ⟨W₂, X₂, S₂, r₂⟩ := X.newTup (rl.append rl')
   rw [List.append_toArray]
   exact q _ _ _ _ _ s.toks S₂ X₂ r₂ kk
noncomputable def kf (k : AV -> Hp -> Prop) : AV -> Hp -> Prop := fun x H => match x with
 | .int i => k (.int (-i)) H
 | _ => False
noncomputable def Nb (a : VE) : VE := fun F H k => a F H (kf k)
theorem dF {x : AV} {H : Hp} {k : AV -> Hp -> Prop} (p : kf k x H) : ∃ i, x = .int i /\ k (.int (-i)) H := by
 cases x with
 | int i => exact ⟨i, rfl, p⟩
 | _ => exact False.elim p
theorem qL {e : Expr} {pos va} (a : SE c d sg e va) : SE c d sg (.UnaryOp .USub e pos) (Nb va) := fun A env W G H F s k Q rm X Y v q =>
 wpAny_UnaryOp (a A env W G H F s _ _ rm X Y v fun x u W₁ H₁ h₁ t₁ le₁ X₁ Y₁ r₁ k₁ => by
  obtain ⟨i, ex, k₁⟩ := dF k₁
  rw [ex] at r₁
  obtain ⟨t, rfl⟩ := r₁.int_
  exact neg_int (q _ _ _ _ _ (t₁ + 1) le₁ X₁ Y₁ (.int _ _) k₁))
end
section
open PySem.AutoSeq1 (wpAny_loadPart')
open PySem.MeetsSeq PySem.MeetsSeq2 PySem.MeetsSeq3 PySem.SeqRoads2
variable {c : Cx} {d : Nat} {sg : CZ}
noncomputable def MM (x : AV) (H : Hp) : Prop := ∃ n, x = .loc n /\ (AB H n = some (.idict []) \/ AB H n = some (.sdict []))
inductive Qt : AV -> AV -> Prop
 | none : Qt .none .none
 | bool (b : Bool) : Qt (.bool b) (.bool b)
 | int (i : Int) : Qt (.int i) (.int i)
 | str (s : List Nat) : Qt (.str s) (.str s)
noncomputable def DE (H : Hp) : Nat -> AV -> AV -> Prop
 | 0, x, y => Qt x y
 | n + 1, x, y => Qt x y \/ (∃ l l', x = .tup l /\ y = .tup l' /\ An (DE H n) l l') \/ (∃ l l', Co x H = some l /\ Co y H = some l' /\ An (DE H n) l l') \/ (MM x H /\ MM y H)
noncomputable abbrev YK (H : Hp) (n : Nat) := An (DE H n)
section
variable {H : Hp} {n : Nat} {x y : AV} {l l' : List AV}
theorem DE.flat (h : Qt x y) : DE H n x y := match n with
 | 0 => h
 | _ + 1 => .inl h
theorem DE.int (i : Int) : DE H n (.int i) (.int i) := .flat (.int i)
theorem DE.str (i : List Nat) : DE H n (.str i) (.str i) := .flat (.str i)
theorem DE.bool (i : Bool) : DE H n (.bool i) (.bool i) := .flat (.bool i)
theorem DE.none : DE H n .none .none := .flat .none
theorem DE.tup (h : YK H n l l') : DE H (n + 1) (.tup l) (.tup l') := .inr (.inl ⟨l, l', rfl, rfl, h⟩)
theorem DE.list (e : Co x H = some l) (e' : Co y H = some l') (h : YK H n l l') : DE H (n + 1) x y := .inr (.inr (.inl ⟨l, l', e, e', h⟩))
theorem DE.emp (e : MM x H) (e' : MM y H) : DE H (n + 1) x y := .inr (.inr (.inr ⟨e, e'⟩))
end
theorem HJ (n : Nat) : ((List.range n).all fun _ => true) = true := by simp
theorem Qe {K : Type} [DecidableEq K] {prog : Program} {w : World} {knd : KeyKind prog w K} {h : Heap} {a : Addr} (x : h.DictOf knd a []) (prog' : Program) (w' : World) : h.DictOf (intKind prog' w') a [] := by
 obtain ⟨o, es, ep, ho, hc, hd, _, hp, _⟩ := x
 have e : es = #[] := Array.toList_inj.mp (List.length_eq_zero_iff.mp hp.length)
 exact ⟨o, es, ep, ho, hc, hd, (fun _ hx => by rw [e] at hx; exact absurd hx (Array.not_mem_empty _)), by rw [e]; exact .nil, .nil⟩
theorem Qd {W : Wd} {G : Gm} {H : Hp} {h : Heap} {x : AV} {v : Value} (X : AM c.prog c.w c.h₀ W G H h) (r : RV W x v) (p : MM x H) : ∃ a, v = .ref a /\ (a == sysModules) = false /\ ∀ (prog : Program) (w : World), h.DictOf (intKind prog w) a [] := by
 obtain ⟨n, rfl, g⟩ := p
 refine ⟨_, r.loc_.1, ?_⟩
 rcases g with g | g
 ·obtain ⟨ek, kvs, d, al⟩ := X.obj n _ g
  rw [List.length_eq_zero_iff.mp al.length.symm] at d
  exact ⟨ek ▸ X.low n _ g, Qe d⟩
 ·obtain ⟨ek, kvs, d, al⟩ := X.obj n _ g
  rw [List.length_eq_zero_iff.mp al.length.symm] at d
  exact ⟨ek ▸ X.low n _ g, Qe d⟩
theorem Fs {h : Heap} {W : Wd} {G : Gm} {H : Hp} {a : Addr} {o : Obj} {vs : List Value} (X : AM c.prog c.w c.h₀ W G H h) (e : W.P a = some o) (t : MT o vs) : h.IsTuple a vs.toArray := ⟨o, X.keepP _ _ e, t.1, t.2⟩
theorem NG {A : Around} {s : Shared} {a b : Addr} (h : a ≠ b -> SeqAt.RcAt A s (.ref a) (.ref b) true) : SeqAt.EqAt A s (.ref a) (.ref b) true := by
 by_cases e : a = b
 ·rw [e]; exact SeqAt.EqAt.same _
 ·exact SeqAt.EqAt.of_refs e (h e)
theorem VW {A : Around} {s : Shared} {a b : Addr} (h1 : (a == sysModules) = false) (h2 : (b == sysModules) = false) (d1 : ∀ (prog : Program) (w : World), s.heap.DictOf (intKind prog w) a []) (d2 : ∀ (prog : Program) (w : World), s.heap.DictOf (intKind prog w) b []) (hu : A.units < cLine) : SeqAt.RcAt A s (.ref a) (.ref b) true := fun prog w E Q h =>
 keq_eq (knd := intKind prog w) (r := true) h1 h2 (d1 prog w) (d2 prog w) hu (fun _ => .nil) h
theorem Zm {R : AV -> AV -> Prop} {W : Wd} {l l' : List AV} (q : An R l l') : ∀ {vs us : List Value}, Cr W l vs -> Cr W l' us -> ∀ j (h1 : j < vs.length) (h2 : j < us.length), ∃ x y, R x y /\ RV W x vs[j] /\ RV W y us[j] := by
 induction q with
 | nil => intro vs us r r' j h1; rw [r.nil_] at h1; exact absurd h1 (Nat.not_lt_zero _)
 | cons p _ ih =>
  intro vs us r r' j h1 h2
  cases r with
  | cons a r => cases r' with
   | cons b r' => cases j with
    | zero => exact ⟨_, _, p, a, b⟩
    | succ j => exact ih r r' j (Nat.lt_of_succ_lt_succ h1) (Nat.lt_of_succ_lt_succ h2)
theorem NH {W : Wd} {s : Shared} {x y : AV} {u v : Value} {A : Around} (h : Qt x y) (r : RV W x u) (r' : RV W y v) : SeqAt.EqAt A s u v true := by
 cases h with
 | none => rw [r.none_, r'.none_]; exact SeqAt.EqAt.same _
 | bool b => rw [r.bool_, r'.bool_]; exact SeqAt.EqAt.same _
 | int i =>
  obtain ⟨t, rfl⟩ := r.int_
  obtain ⟨t', rfl⟩ := r'.int_
  have := SeqAt.EqAt.int_int (A := A) (s := s) i t i t'
  rwa [beq_self_eq_true] at this
 | str z =>
  obtain ⟨t, rfl⟩ := r.str_
  obtain ⟨t', rfl⟩ := r'.str_
  have := SeqAt.EqAt.str_str (A := A) (s := s) ⟨z.toArray⟩ t ⟨z.toArray⟩ t'
  rwa [beq_self_eq_true] at this
theorem Te {W : Wd} {s : Shared} {n : Nat} {H : Hp} {l l' : List AV} {vs us : List Value} {A : Around} (ih : ∀ {x y : AV} {u v : Value}, DE H n x y -> RV W x u -> RV W y v -> SeqAt.EqAt A s u v true) (q : YK H n l l') (r : Cr W l vs) (r' : Cr W l' us) :
  ∀ j (h1 : j < vs.toArray.size) (h2 : j < us.toArray.size), SeqAt.EqAt A s vs.toArray[j] us.toArray[j] true := fun j h1 h2 => by
 obtain ⟨x, y, h, a, b⟩ := Zm q r r' j h1 h2
 exact ih h a b
theorem Sz {W : Wd} {G : Gm} {s : Shared} {n : Nat} {H : Hp} {x y : AV} {l l' : List AV} {u v : Value} {A : Around} (X : AM c.prog c.w c.h₀ W G H s.heap) (ih : ∀ {x y : AV} {u v : Value}, DE H n x y -> RV W x u -> RV W y v -> SeqAt.EqAt A.in1 s u v true) (hu : A.units < cLine)
  (h : (x = .tup l /\ y = .tup l') \/ (Co x H = some l /\ Co y H = some l')) (q : YK H n l l') (r : RV W x u) (r' : RV W y v) : ∃ a b, u = .ref a /\ v = .ref b /\ SeqAt.RcAt A s (.ref a) (.ref b) true /\ SeqAt.RcNeAt A s (.ref a) (.ref b) false := by
 have sz : ∀ {vs us : List Value}, Cr W l vs -> Cr W l' us -> vs.toArray.size = us.toArray.size := fun r r' => by rw [List.size_toArray, List.size_toArray, <- r.length, <- r'.length, q.length]
 rcases h with ⟨e1, e2⟩ | ⟨e1, e2⟩
 ·rw [e1] at r
  rw [e2] at r'
  obtain ⟨a, o, vs, ea, g, t, rl⟩ := r.tup_
  obtain ⟨b, o', us, eb, g', t', rl'⟩ := r'.tup_
  have h1 := SeqAt.RcAt.tuples (A := A) (e := fun _ => true) (Fs X g t) (Fs X g' t') hu (Te ih q rl rl')
  have h2 := SeqAt.RcNeAt.tuples (A := A) (e := fun _ => true) (Fs X g t) (Fs X g' t') hu (Te ih q rl rl')
  rw [HJ, sz rl rl', beq_self_eq_true] at h1 h2
  exact ⟨a, b, ea, eb, h1, h2⟩
 ·obtain ⟨a, vs, ea, il, rl⟩ := C3 X r e1
  obtain ⟨b, us, eb, il', rl'⟩ := C3 X r' e2
  have h1 := SeqAt.RcAt.lists (A := A) (e := fun _ => true) il il' (sz rl rl') hu (Te ih q rl rl')
  have h2 := SeqAt.RcNeAt.lists (A := A) (e := fun _ => true) il il' (sz rl rl') hu (Te ih q rl rl')
  rw [HJ] at h1 h2
  exact ⟨a, b, ea, eb, h1, h2⟩
theorem Tf {W : Wd} {G : Gm} {H : Hp} {s : Shared} (X : AM c.prog c.w c.h₀ W G H s.heap) {n : Nat} : ∀ {x y : AV} {u v : Value} {A : Around}, A.units + n < cLine -> DE H n x y -> RV W x u -> RV W y v -> SeqAt.EqAt A s u v true := by
 induction n with
 | zero => exact fun _ h r r' => NH h r r'
 | succ n ih =>
  intro x y u v A hu h r r'
  have step : ∀ {l l' : List AV}, (x = .tup l /\ y = .tup l') \/ (Co x H = some l /\ Co y H = some l') -> YK H n l l' -> SeqAt.EqAt A s u v true := fun h q => by
   obtain ⟨a, b, rfl, rfl, h1, _⟩ := Sz (A := A) X (ih (A := A.in1) (by show A.units + 1 + n < cLine; omega)) (by omega) h q r r'
   exact NG fun _ => h1
  rcases h with h | ⟨l, l', e1, e2, q⟩ | ⟨l, l', e1, e2, q⟩ | ⟨e1, e2⟩
  ·exact NH h r r'
  ·exact step (.inl ⟨e1, e2⟩) q
  ·exact step (.inr ⟨e1, e2⟩) q
  ·obtain ⟨a, ea, ha, da⟩ := Qd X r e1
   obtain ⟨b, eb, hb, db⟩ := Qd X r' e2
   rw [ea, eb]
   exact NG fun _ => VW ha hb da db (by omega)
structure nB (x y : AV) (H : Hp) : Prop where
 p : ∃ n l l', n <= 40 /\ ((x = .tup l /\ y = .tup l') \/ (Co x H = some l /\ Co y H = some l')) /\ YK H n l l'
structure nD (out : Bool) (x y : AV) (H : Hp) (k : AV -> Hp -> Prop) : Prop where
 p : nB x y H
 k : k (.bool out) H
noncomputable def IH (out : Bool) : V2 := fun x y H k => nD out x y H k
theorem Sq {W : Wd} {G : Gm} {H : Hp} {s : Shared} {A : Around} {x y : AV} {u v : Value} (X : AM c.prog c.w c.h₀ W G H s.heap) (rm : Rm d A) (r : RV W x u) (r' : RV W y v) (p : nB x y H) : ∃ a b, u = .ref a /\ v = .ref b /\ SeqAt.RcAt A s (.ref a) (.ref b) true /\ SeqAt.RcNeAt A s (.ref a) (.ref b) false := by
 obtain ⟨n, l, l', hn, h, q⟩ := p.p
 have hu := rm.units
 exact Sz X (Tf X (A := A.in1) (by show A.units + 1 + n < cLine; omega)) (by omega) h q r r'
theorem tZ : S2 c d (compareOp .Eq) (IH true) := fun A W G H s x y u v k Q rm X r1 r2 p q => by
 obtain ⟨a, b, rfl, rfl, h, _⟩ := Sq X rm r1 r2 (nD.p p)
 exact h _ _ _ _ (q _ _ _ _ _ s.toks .refl X (.bool true) (nD.k p))
theorem tS : S2 c d (compareOp .NotEq) (IH false) := fun A W G H s x y u v k Q rm X r1 r2 p q => by
 obtain ⟨a, b, rfl, rfl, _, h⟩ := Sq X rm r1 r2 (nD.p p)
 exact h _ _ _ _ (q _ _ _ _ _ s.toks .refl X (.bool false) (nD.k p))
noncomputable def ZM {K : Type} (look : List (K × AV) -> K -> Option AV) (H : Hp) (l l' : List (K × AV)) : Prop := l.length = l'.length /\ ∀ p ∈ l, ∃ z, look l' p.1 = some z /\ ∃ n, n <= 40 /\ DE H n p.2 z
theorem ZL {K K' : Type} [DecidableEq K'] {f : K -> K'} {look : List (K × AV) -> K -> Option AV} {W : Wd} {G : Gm} {H : Hp} {s : Shared} {A : Around} {l' : List (K × AV)} {kb : List (K' × Value)} (X : AM c.prog c.w c.h₀ W G H s.heap) (hu : A.units + 40 < cLine)
  (hl : ∀ k x, look l' k = some x -> ∃ v, valueAt kb (f k) = some v /\ RV W x v) {l : List (K × AV)} {ka : List (K' × Value)} (al : An (EG f W) l ka) : (∀ p ∈ l, ∃ z, look l' p.1 = some z /\ ∃ n, n <= 40 /\ DE H n p.2 z) -> KeqHits A s kb ka true := by
 induction al with
 | nil => exact fun _ => .nil
 | @cons p e l r h _ ih =>
  intro q
  obtain ⟨z, e1, n, hn, de⟩ := q p (.head _)
  obtain ⟨w, e2, rw'⟩ := hl _ _ e1
  have := KeqHits.hit (A := A) (s := s) (k := e.1) (v := e.2) (by rw [<- h.1]; exact e2) (Tf X (by omega) de h.2 rw') (ih fun p' hp => q p' (.tail _ hp))
  rwa [Bool.and_self] at this
structure AAF {K : Type} (look : List (K × AV) -> K -> Option AV) (H : Hp) (l l' : List (K × AV)) (p : Prop) : Prop where
 h : ZM look H l l'
 p : p
noncomputable def tq {K : Type} (f : AO -> Option (List (K × AV))) (look : List (K × AV) -> K -> Option AV) (l : List (K × AV)) (H : Hp) (p : Prop) : AO -> Prop := fun o => oK (f o) fun l' => AAF look H l l' p
noncomputable def oW {K : Type} (f : AO -> Option (List (K × AV))) (look : List (K × AV) -> K -> Option AV) (b : Nat) (H : Hp) (p : Prop) : AO -> Prop := fun o => oK (f o) fun l => hK (AB H b) (tq f look l H p)
noncomputable def Yq {K : Type} (f : AO -> Option (List (K × AV))) (look : List (K × AV) -> K -> Option AV) : V2 := fun x y H k => match x with
 | .loc a => match y with
  | .loc b => hK (AB H a) (oW f look b H (k (.bool false) H))
  | _ => False
 | _ => False
theorem kN {K : Type} {f : AO -> Option (List (K × AV))} {mk : List (K × AV) -> AO} (hf : ∀ o l, f o = some l -> o = mk l) {look : List (K × AV) -> K -> Option AV} {a b : Nat} {H : Hp} {p : Prop} (h : hK (AB H a) (oW f look b H p)) : ∃ l l', AB H a = some (mk l) /\ AB H b = some (mk l') /\ ZM look H l l' /\ p := by
 obtain ⟨l, g, h⟩ := hO hf h
 obtain ⟨l', g', h⟩ := hO hf h
 exact ⟨l, l', g, g', h.h, h.p⟩
theorem cV {K : Type} {f : AO -> Option (List (K × AV))} {look : List (K × AV) -> K -> Option AV} {x y : AV} {H : Hp} {k : AV -> Hp -> Prop} (p : Yq f look x y H k) : ∃ a b, x = .loc a /\ y = .loc b /\ hK (AB H a) (oW f look b H (k (.bool false) H)) := by
 cases x with
 | loc a => cases y with
  | loc b => exact ⟨a, b, rfl, rfl, p⟩
  | _ => exact False.elim p
 | _ => exact False.elim p
noncomputable def UI : V2 := Yq ox Dn
noncomputable def cU : V2 := Yq m7 Ao
theorem NI {K K' : Type} [DecidableEq K'] {knd : KeyKind c.prog c.w K'} {f : K -> K'} {mk : List (K × AV) -> AO} {look : List (K × AV) -> K -> Option AV} (hro : ∀ W n h l, RO c.prog c.w W n h (mk l) = (W.κ n = W.ρ n /\ ∃ kvs, h.DictOf knd (W.ρ n) kvs /\ An (EG f W) l kvs))
  (hl : ∀ {W : Wd} {l : List (K × AV)} {kb : List (K' × Value)} {k x}, An (EG f W) l kb -> look l k = some x -> ∃ v, valueAt kb (f k) = some v /\ RV W x v) {W : Wd} {G : Gm} {H : Hp} {s : Shared} {A : Around} {a b : Nat} {l l' : List (K × AV)}
  (X : AM c.prog c.w c.h₀ W G H s.heap) (hu : A.units + 40 < cLine) (g1 : AB H a = some (mk l)) (g2 : AB H b = some (mk l')) (h : ZM look H l l') :
  ∃ ka kb, (W.ρ a == sysModules) = false /\ (W.ρ b == sysModules) = false /\ s.heap.DictOf knd (W.ρ a) ka /\ s.heap.DictOf knd (W.ρ b) kb /\ (ka.length == kb.length) = true /\ KeqHits A s kb ka true := by
 have o1 := X.obj a _ g1
 have o2 := X.obj b _ g2
 rw [hro] at o1 o2
 obtain ⟨e1, ka, d1, al⟩ := o1
 obtain ⟨e2, kb, d2, al'⟩ := o2
 exact ⟨ka, kb, e1 ▸ X.low a _ g1, e2 ▸ X.low b _ g2, d1, d2, by rw [<- al.length, <- al'.length, h.1, beq_self_eq_true], ZL X hu (fun k x => hl al') al h.2⟩
theorem j7 {K K' : Type} [DecidableEq K'] {knd : KeyKind c.prog c.w K'} {f : K -> K'} {mk : List (K × AV) -> AO} {fo : AO -> Option (List (K × AV))} (hf : ∀ o l, fo o = some l -> o = mk l) {look : List (K × AV) -> K -> Option AV} (hro : ∀ W n h l, RO c.prog c.w W n h (mk l) = (W.κ n = W.ρ n /\ ∃ kvs, h.DictOf knd (W.ρ n) kvs /\ An (EG f W) l kvs))
  (hl : ∀ {W : Wd} {l : List (K × AV)} {kb : List (K' × Value)} {k x}, An (EG f W) l kb -> look l k = some x -> ∃ v, valueAt kb (f k) = some v /\ RV W x v) : S2 c d (compareOp .NotEq) (Yq fo look) := fun A W G H s x y u v k Q rm X r1 r2 p q => by
 obtain ⟨a, b, rfl, rfl, p⟩ := cV p
 obtain ⟨l, l', g1, g2, h, kk⟩ := kN hf p
 have hu := rm.units
 obtain ⟨ka, kb, l1, l2, d1, d2, ez, hh⟩ := NI hro hl (A := A.in1) X (by show A.units + 1 + 40 < cLine; omega) g1 g2 h
 rw [r1.loc_.1, r2.loc_.1]
 refine keq_ne (knd := knd) (r := true) l1 l2 d1 d2 (by omega) (fun _ => hh) ?_
 rw [ez]
 exact q _ _ _ _ _ s.toks .refl X (.bool false) kk
theorem tR : S2 c d (compareOp .NotEq) UI := j7 (knd := intKind c.prog c.w) (fun _ _ => YA) (f := id) (fun _ _ _ _ => rfl) It
theorem tQ : S2 c d (compareOp .NotEq) cU := j7 (knd := strKind c.prog c.w) (fun _ _ => Ts) (f := fun l : List Nat => (⟨l.toArray⟩ : Str)) (fun _ _ _ _ => rfl) FA
theorem Wv (prog : Program) (w : World) (l b : Addr) (u v : Value) (items items2 : Array Value) (hu : items[0]? = some u) (hv : items2[0]? = some v) (h1 : items[1]? = none) (h2 : items2[1]? = none) (hs : items.size = items2.size) (n n2 : Nat) (dd dd2 : Option Addr) (sl sl2 : Array (Option Value)) :
  MeetsIn prog w (Builtin.«list.__ne__» ⟨[.ref l, .ref b], []⟩)
   (fun A R s => s.heap.get? l = some { cls := .type "list", dict := dd, data := .seq items n, slots := sl } /\ s.heap.get? b = some { cls := .type "list", dict := dd2, data := .seq items2 n2, slots := sl2 } /\
    (∀ (E : Value -> Shared -> Prop) (Q : Bool -> Shared -> Prop), Q true s -> wpAny (model prog w) A.in1 (eqBool u v) Q E s) /\ R (.ok (.ret (.bool false))) s) := by
 intro A R s h
 obtain ⟨hp, g, d, tk, os⟩ := s; obtain ⟨hl, hb, he, h⟩ := h
 have f3 := AutoSeq1.sub_list_list
 have hne : ¬ (items.size != items2.size) = true := by simp [hs]
 wp_walk using wpAny_loadPart' hl, wpAny_loadPart' hb
 refine ⟨plainId_quiet plain_eq_loop _, codeAny_builtin entry_eq_loop ?_⟩
 rw [Around.under_plainId plain_eq_loop _]
 wp_walk using wpAny_loadPart' hl, wpAny_loadPart' hb
 rw [show items[Int.toNat 0]? = some u from hu, show items2[Int.toNat 0]? = some v from hv]
 refine wpAny_bind (he _ _ ?_)
 wp_walk
 refine ⟨plainId_quiet plain_eq_loop _, codeAny_builtin entry_eq_loop ?_⟩
 rw [Around.under_plainId plain_eq_loop _]
 wp_walk using wpAny_loadPart' hl, wpAny_loadPart' hb
 rw [show items[Int.toNat (0 + 1)]? = none from h1, show items2[Int.toNat (0 + 1)]? = none from h2]
 wp_walk using wpAny_loadPart' hl, wpAny_loadPart' hb
 show R (.ok (.ret (.bool (items.size != items2.size)))) _
 rw [show (items.size != items2.size) = false by simp [hs]]
 exact h
noncomputable def ow : List AV -> Option Nat
 | [.loc a] => some a
 | _ => none
theorem a8 {l : List AV} {a : Nat} (h : ow l = some a) : l = [.loc a] := by
 unfold ow at h
 split at h
 ·rw [Option.some.inj h]
 ·exact nomatch h
noncomputable def uR (a : Nat) (H : Hp) (p : Prop) : List AV -> Prop := fun l => oK (ow l) fun b => hK (AB H a) (oW m7 Ao b H p)
noncomputable def kSc (y : AV) (H : Hp) (p : Prop) : List AV -> Prop := fun l => oK (ow l) fun a => MZ y H (uR a H p)
noncomputable def aG : V2 := fun x y H k => MZ x H (kSc y H (k (.bool false) H))
theorem S6 {W : Wd} {G : Gm} {H : Hp} {h : Heap} {x : AV} {a : Nat} {u : Value} (X : AM c.prog c.w c.h₀ W G H h) (r : RV W x u) (e : Co x H = some [.loc a]) : ∃ ad n d sl, u = .ref ad /\ h.get? ad = some (Yd "list" #[.ref (W.ρ a)] n d sl) := by
 obtain ⟨ad, vs, n, d, sl, eu, ho, rl⟩ := P9 X r e
 obtain ⟨v, us, e1, r1, r2⟩ := rl.cons_
 rw [e1, r2.nil_, r1.loc_.1] at ho
 exact ⟨ad, n, d, sl, eu, ho⟩
theorem j6 : S2 c d (compareOp .NotEq) aG := fun A W G H s x y u v k Q rm X r1 r2 p q => by
 obtain ⟨lx, ex, p⟩ := Gd p
 obtain ⟨a, ea, p⟩ := C9 p
 obtain ⟨ly, ey, p⟩ := Gd p
 obtain ⟨b, eb, p⟩ := C9 p
 rw [a8 ea] at ex
 rw [a8 eb] at ey
 obtain ⟨l, l', g1, g2, hh, kk⟩ := kN (fun _ _ => Ts) p
 obtain ⟨a1, m, od, sl, rfl, ho⟩ := S6 X r1 ex
 obtain ⟨b1, m', od', sl', rfl, ho'⟩ := S6 X r2 ey
 have hu := rm.units
 obtain ⟨ka, kb, l1, l2, d1, d2, ez, hs⟩ := NI (knd := strKind c.prog c.w) (f := fun l : List Nat => (⟨l.toArray⟩ : Str)) (fun _ _ _ _ => rfl) FA (A := A.in1.in1) X (by show A.units + 1 + 1 + 40 < cLine; omega) g1 g2 hh
 refine wpAny_richCompare_same_room (op := .NotEq) ⟨_, ho, rfl⟩ ⟨_, ho', rfl⟩ PySem.F.slot_list_ne (call_meetsIn PySem.F.slot_list_ne ⟨_, ho, rfl⟩ PySem.F.entry_list_ne (PySem.F.args_list_ne_2 _ _)
  (Wv c.prog c.w a1 b1 (.ref (W.ρ a)) (.ref (W.ρ b)) #[.ref (W.ρ a)] #[.ref (W.ρ b)] rfl rfl rfl rfl rfl m m' od od' sl sl') ⟨ho, ho', fun E Q hQ => ?_, (fun x => nomatch x), q _ _ _ _ _ s.toks .refl X (.bool false) kk⟩) (by omega)
 unfold eqBool
 refine wpAny_holding (wpAny_ite_split (fun hab => wpAny_bind (wpAny_rule (wpAny_pure hQ))) fun _ => wpAny_bind ?_)
 refine keq_eq (knd := strKind c.prog c.w) (r := true) l1 l2 d1 d2 (by show A.units + 1 < cLine; omega) (fun _ => hs) ?_
 rw [ez]
 exact wpAny_truthy_bool hQ
end
end Mine
end
section
namespace Mine
open PySem PySem.W PyProof.Rows PySem.Calls
section
variable {c : Cx} {d : Nat} {sg : CZ}
noncomputable def Rf : List AV -> Int -> Option Bool
 | [], _ => some false
 | .int i :: r, j => match Rf r j with
  | some b => some (decide (i = j) || b)
  | none => none
 | _, _ => none
noncomputable def Rg : List AV -> Bool -> Option Bool
 | [], _ => some false
 | .bool i :: r, j => match Rg r j with
  | some b => some ((i == j) || b)
  | none => none
 | _, _ => none
noncomputable def fI (j : Int) (v : Value) : Bool := match v with | .int i _ => i == j | _ => false
noncomputable def uh (j : Bool) (v : Value) : Bool := match v with | .bool i => i == j | _ => false
theorem Wm {W : Wd} {A : Around} {s : Shared} {j : Int} {t : Tok} {l : List AV} {vs : List Value} (r : Cr W l vs) : ∀ {b : Bool}, Rf l j = some b -> (∀ y, y ∈ vs -> SeqAt.EqAt A s y (.int j t) (fI j y)) /\ vs.any (fI j) = b := by
 induction r with
 | nil => exact fun h => ⟨fun _ h => absurd h List.not_mem_nil, Option.some.inj h⟩
 | @cons x v l vs a _ ih =>
  intro b h
  cases x with
  | int i =>
   unfold Rf at h
   cases e : Rf l j with
   | none => rw [e] at h; exact nomatch h
   | some b' =>
    rw [e] at h
    obtain ⟨h1, h2⟩ := ih e
    obtain ⟨u, rfl⟩ := a.int_
    refine ⟨fun y hy => ?_, (congrArg _ h2).trans (Option.some.inj h)⟩
    rcases List.mem_cons.mp hy with hy | hy
    ·rw [hy]; exact SeqAt.EqAt.int_int _ _ _ _
    ·exact h1 y hy
  | _ => exact nomatch h
theorem Wn {W : Wd} {A : Around} {s : Shared} {j : Bool} {l : List AV} {vs : List Value} (r : Cr W l vs) : ∀ {b : Bool}, Rg l j = some b -> (∀ y, y ∈ vs -> SeqAt.EqAt A s y (.bool j) (uh j y)) /\ vs.any (uh j) = b := by
 induction r with
 | nil => exact fun h => ⟨fun _ h => absurd h List.not_mem_nil, Option.some.inj h⟩
 | @cons x v l vs a _ ih =>
  intro b h
  cases x with
  | bool i =>
   unfold Rg at h
   cases e : Rg l j with
   | none => rw [e] at h; exact nomatch h
   | some b' =>
    rw [e] at h
    obtain ⟨h1, h2⟩ := ih e
    rw [a.bool_]
    refine ⟨fun y hy => ?_, (congrArg _ h2).trans (Option.some.inj h)⟩
    rcases List.mem_cons.mp hy with hy | hy
    ·rw [hy]; exact SeqAt.EqAt.bool_bool _ _
    ·exact h1 y hy
  | _ => exact nomatch h
noncomputable def j1 : V2 := fun x y H k => Qu Us Qz x y fun j l => oK (Rf l j) fun b => k (.bool b) H
noncomputable def Yo : V2 := fun x y H k => Qu Us Qz x y fun j l => oK (Rf l j) fun b => k (.bool (!b)) H
noncomputable def ud (j : Bool) (H : Hp) (k : AV -> Hp -> Prop) : List AV -> Prop := fun l => oK (Rg l j) fun b => k (.bool b) H
noncomputable def sk : V2 := fun x y H k => match x with
 | .bool j => MZ y H (ud j H k)
 | _ => False
theorem XI {W : Wd} {G : Gm} {H : Hp} {s : Shared} {A : Around} {x y : AV} {u v : Value} {K : Bool -> Prop} (X : AM c.prog c.w c.h₀ W G H s.heap) (r1 : RV W x u) (r2 : RV W y v) (p : Qu Us Qz x y fun j l => oK (Rf l j) K) :
  ∃ j t a vs, u = .int j t /\ v = .ref a /\ s.heap.IsTuple a vs /\ (∀ y, y ∈ vs -> SeqAt.EqAt A s y u (fI j y)) /\ K (vs.any (fI j)) := by
 obtain ⟨j, l, ex, ey, p⟩ := Sj p
 obtain ⟨b, hb, kk⟩ := C9 p
 rw [Jp ex] at r1
 rw [NR ey] at r2
 obtain ⟨t, rfl⟩ := r1.int_
 obtain ⟨a, o, vs, ev, g, tt, rl⟩ := r2.tup_
 obtain ⟨h1, h2⟩ := Wm (A := A) (s := s) (t := t) rl hb
 exact ⟨j, t, a, vs.toArray, rfl, ev, Fs X g tt, fun y hy => h1 y (List.mem_toArray.mp hy), by rw [List.any_toArray, h2]; exact kk⟩
theorem tW : S2 c d (compareOp .In) j1 := fun A W G H s x y u v k Q rm X r1 r2 p q => by
 obtain ⟨j, t, a, vs, rfl, rfl, it, h1, kk⟩ := XI (A := A.in1) X r1 r2 p
 exact SeqAt.in_tupleAt (fI j) it h1 (q _ _ _ _ _ s.toks .refl X (.bool _) kk)
theorem Yu : S2 c d (compareOp .NotIn) Yo := fun A W G H s x y u v k Q rm X r1 r2 p q => by
 obtain ⟨j, t, a, vs, rfl, rfl, it, h1, kk⟩ := XI (A := A.in1) X r1 r2 p
 exact SeqAt.notIn_tupleAt (fI j) it h1 (q _ _ _ _ _ s.toks .refl X (.bool _) kk)
theorem tY : S2 c d (compareOp .In) sk := fun A W G H s x y u v k Q rm X r1 r2 p q => by
 cases x with
 | bool j =>
  obtain ⟨l, el, p⟩ := Gd p
  obtain ⟨b, hb, kk⟩ := C9 p
  obtain ⟨a, vs, rfl, il, rl⟩ := C3 X r2 el
  obtain ⟨h1, h2⟩ := Wn (A := A.in1) (s := s) rl hb
  rw [r1.bool_]
  refine SeqAt.in_listAt (uh j) il (fun y hy => h1 y (List.mem_toArray.mp hy)) ?_
  rw [List.any_toArray, h2]
  exact q _ _ _ _ _ s.toks .refl X (.bool b) kk
 | _ => exact False.elim p
noncomputable def inL (s : List Nat) (P : Bool -> Prop) : AO -> Prop := fun o => oK (m7 o) fun l => P (Ao l s).isSome
noncomputable def oh (x y : AV) (H : Hp) (P : Bool -> Prop) : Prop := match x with
 | .str s => match y with
  | .loc n => hK (AB H n) (inL s P)
  | _ => False
 | _ => False
theorem mD {x y : AV} {H : Hp} {P : Bool -> Prop} (p : oh x y H P) : ∃ s n l, x = .str s /\ y = .loc n /\ AB H n = some (.sdict l) /\ P (Ao l s).isSome := by
 cases x with
 | str s => cases y with
  | loc n => obtain ⟨l, g, p⟩ := hO (fun _ _ => Ts) p; exact ⟨s, n, l, rfl, rfl, g, p⟩
  | _ => exact False.elim p
 | _ => exact False.elim p
noncomputable def kIn (H : Hp) (k : AV -> Hp -> Prop) : Bool -> Prop := fun b => k (.bool b) H
noncomputable def ua (H : Hp) (k : AV -> Hp -> Prop) : Bool -> Prop := fun b => k (.bool (!b)) H
noncomputable def sj : V2 := fun x y H k => oh x y H (kIn H k)
noncomputable def Yp : V2 := fun x y H k => oh x y H (ua H k)
theorem N2 {W : Wd} {l : List (List Nat × AV)} {kvs : List (Str × Value)} {k : List Nat} (al : An (ES W) l kvs) : (valueAt kvs (⟨k.toArray⟩ : Str)).isSome = (Ao l k).isSome := by
 cases e : Ao l k with
 | none => rw [Rk al e]; rfl
 | some x => obtain ⟨v, e1, _⟩ := FA al e; rw [e1]; rfl
theorem XJ {W : Wd} {G : Gm} {H : Hp} {s : Shared} {x y : AV} {u v : Value} {P : Bool -> Prop} (X : AM c.prog c.w c.h₀ W G H s.heap) (r1 : RV W x u) (r2 : RV W y v) (p : oh x y H P) :
  ∃ (k : Str) (a : Addr) (kvs : List (Str × Value)) (t : Tok), u = .str k t /\ v = .ref a /\ (a == sysModules) = false /\ s.heap.DictOf (strKind c.prog c.w) a kvs /\ P (valueAt kvs k).isSome := by
 obtain ⟨sx, n, l, rfl, rfl, g, p⟩ := mD p
 obtain ⟨t, rfl⟩ := r1.str_
 obtain ⟨e0, kvs, dl, al⟩ := X.obj n _ g
 exact ⟨_, _, kvs, t, rfl, r2.loc_.1, e0 ▸ X.low n _ g, dl, by rw [N2 al]; exact p⟩
theorem tX : S2 c d (compareOp .In) sj := fun A W G H s x y u v k Q rm X r1 r2 p q => by
 obtain ⟨sx, a, kvs, t, rfl, rfl, lo, dl, kk⟩ := XJ X r1 r2 p
 exact wpAny_in_of (knd := strKind c.prog c.w) (strKind_is c.prog c.w _ _) lo dl.mapOf (q _ _ _ _ _ _ .refl X (.bool _) kk)
theorem Yv : S2 c d (compareOp .NotIn) Yp := fun A W G H s x y u v k Q rm X r1 r2 p q => by
 obtain ⟨sx, a, kvs, t, rfl, rfl, lo, dl, kk⟩ := XJ X r1 r2 p
 exact wpAny_notIn_of (knd := strKind c.prog c.w) (strKind_is c.prog c.w _ _) lo dl.mapOf (q _ _ _ _ _ _ .refl X (.bool _) kk)
noncomputable def IJ : List Int -> Int -> Bool
 | [], _ => false
 | i :: r, j => decide (i = j) || IJ r j
structure YJ (c : Cx) (a : Nat) (keys : List Int) : Prop where
 at_ : ∃ ob kvs, c.K.lookup a = some ob /\ ob.IsDictOf (intKind c.prog c.w) kvs /\ kvs.map (·.1) = keys
 low : (a == sysModules) = false
noncomputable def uc (keys : List Int) (k : Bool -> Hp -> Prop) : AV -> Hp -> Prop := fun y H => oK (Us y) fun j => k (IJ keys j) H
noncomputable def fz (keys : List Int) (va : VE) : VT := fun F H k => va F H (uc keys k)
theorem W6 {kvs : List (Int × Value)} {j : Int} : (valueAt kvs j).isSome = IJ (kvs.map (·.1)) j := by
 induction kvs with
 | nil => rfl
 | cons p r ih =>
  rw [List.map_cons, IJ, <- ih]
  unfold valueAt
  rw [List.find?_cons]
  cases decide (p.1 = j) <;> rfl
theorem qA {l : Expr} {x : Str} {p pos va} {a : Nat} {keys : List Int} (ha : SE c d sg l va) (hx : sg.scope.names.lookup x = some .globalImplicit) (e : nsIn c.K mainGlobals x = some (some (.ref a))) (hd : (x == ("__debug__" : Str)) = false) (g : YJ c a keys)
  (hm : behindInMarks .In (.Name x p) = false) : ST c d sg (.Compare l [.In] [.Name x p] pos) (fz keys va) := fun A env W G H F s k Q rm X Y v q =>
 wpAny_isTrue_Compare1 (ha A env W G H F s _ _ rm X Y v fun y u W₁ H₁ h₁ t₁ le₁ X₁ Y₁ r₁ k₁ => Hj (s := sh s h₁ t₁) X₁ Y₁ hx e hd (by
  obtain ⟨j, ey, k₁⟩ := C9 k₁
  rw [Jp ey] at r₁
  obtain ⟨tj, rfl⟩ := r₁.int_
  obtain ⟨ob, kvs, h1, h2, h3⟩ := g.at_
  have dl : Heap.DictOf (intKind c.prog c.w) h₁ a kvs := Heap.dictOf_iff.mpr ⟨ob, X₁.old _ _ (c.X _ _ h1), h2⟩
  refine wpAny_in_of (s := sh s h₁ t₁) (knd := intKind c.prog c.w) (k := j) QF g.low dl.mapOf ?_
  rw [W6, h3]
  exact wpAny_truthy_bool (q _ _ _ _ _ le₁ X₁ Y₁ k₁))) hm
end
section
variable {c : Cx} {d : Nat} {sg : CZ}
noncomputable abbrev VG := AV -> Ag -> Hp -> (Ag -> Hp -> Prop) -> Prop
noncomputable def SG (c : Cx) (d : Nat) (sg : CZ) (t : Expr) (vt : VG) : Prop :=
 ∀ (A : Around) (env : Env) (W : Wd) (G : Gm) (H : Hp) (F : Ag) (s : Shared) (x : AV) (v : Value) (k : Ag -> Hp -> Prop) (Q : Unit -> Shared -> Prop),
  Rm d A -> AM c.prog c.w c.h₀ W G H s.heap -> Aw sg W G H F env s.heap -> RV W x v -> vt x F H k ->
  (∀ W' H' F' h' t, W.le W' -> AM c.prog c.w c.h₀ W' G H' h' -> Aw sg W' G H' F' env h' -> k F' H' -> Q () (sh s h' t)) ->
  wpAny (model c.prog c.w) A (assign t env v) Q Ds s
noncomputable def nE (c : Cx) (d : Nat) (sg : CZ) (ts : List Expr) (vt : List AV -> Ag -> Hp -> (Ag -> Hp -> Prop) -> Prop) : Prop :=
 ∀ (A : Around) (env : Env) (W : Wd) (G : Gm) (H : Hp) (F : Ag) (s : Shared) (x : List AV) (v : List Value) (k : Ag -> Hp -> Prop) (Q : Unit -> Shared -> Prop),
  Rm d A -> AM c.prog c.w c.h₀ W G H s.heap -> Aw sg W G H F env s.heap -> Cr W x v -> vt x F H k ->
  (∀ W' H' F' h' t, W.le W' -> AM c.prog c.w c.h₀ W' G H' h' -> Aw sg W' G H' F' env h' -> k F' H' -> Q () (sh s h' t)) ->
  wpAny (model c.prog c.w) A (assignInOrder ((assignEach ts env).map (·.2)) v) Q Ds s
noncomputable def gN (i : Nat) : VG := fun x F H k => k (MV i x F) H
theorem XS {x : Str} {p i} (hi : Jq sg x i) : SG c d sg (.Name x p) (gN i) := fun A env W G H F s y v k Q rm X Y r vt q =>
 assign_Name (Mw X Y hi r fun h' t X' Y' => q _ _ _ h' t .refl X' Y' vt)
noncomputable def uM (x y : AV) (F : Ag) (k : Ag -> Hp -> Prop) : AV -> Hp -> Prop := fun z H => PE x z y H (k F)
noncomputable def kgS (y : AV) (i : VE) (F : Ag) (k : Ag -> Hp -> Prop) : AV -> Hp -> Prop := fun x H => i F H (uM x y F k)
noncomputable def gS (o i : VE) : VG := fun y F H k => o F H (kgS y i F k)
theorem uy {o i : Expr} {p} {vo vi} (ho : SE c d sg o vo) (hi : SE c d sg i vi) : SG c d sg (.Subscript o i p) (gS vo vi) := fun A env W G H F s y v k Q rm X Y r vt q => by
 rw [assign_Subscript]
 refine wpAny_bind (wpAny_holding (ho A env W G H F s _ _ rm X Y vt fun x u W₁ H₁ h₁ t₁ le₁ X₁ Y₁ r₁ k₁ => wpAny_bind (wpAny_holding (hi A env W₁ G H₁ F _ _ _ rm X₁ Y₁ k₁ fun z w W₂ H₂ h₂ t₂ le₂ X₂ Y₂ r₂ k₂ =>
  wpAny_bind (wpAny_standAt (wpAny_bind (wpAny_holding (cZ A W₂ G H₂ _ _ _ _ _ _ _ _ _ rm X₂ (r₁.mono le₂) r₂ (r.mono (le₁.trans le₂)) k₂ fun W₃ H₃ h₃ t₃ S₃ X₃ k₃ => ?_))))))))
 exact fun Γ p hΓ => by
  rw [Sem.wp_release]
  exact q _ _ _ h₃ t₃ ((le₁.trans le₂).trans S₃.1) X₃ (Y₂.move S₃) k₃
noncomputable abbrev nA := List AV -> Ag -> Hp -> (Ag -> Hp -> Prop) -> Prop
noncomputable def du : nA := fun l F H k => match l with
 | [] => k F H
 | _ => False
noncomputable def kgC (xs : List AV) (r : nA) (k : Ag -> Hp -> Prop) : Ag -> Hp -> Prop := fun F H => r xs F H k
noncomputable def TZ (a : VG) (r : nA) : nA := fun l F H k => match l with
 | x :: xs => a x F H (kgC xs r k)
 | _ => False
theorem uz : nE c d sg [] du := fun A env W G H F s x v k Q rm X Y r vt q => by
 cases r with
 | nil => exact assignInOrder_nil (q _ _ _ _ s.toks .refl X Y vt)
 | cons _ _ => exact False.elim vt
theorem mP {t : Expr} {ts va vr} (a : SG c d sg t va) (b : nE c d sg ts vr) (he : ∀ env, assignEach (t :: ts) env = (false, assign t env) :: assignEach ts env) : nE c d sg (t :: ts) (TZ va vr) := fun A env W G H F s x v k Q rm X Y r vt q => by
 cases r with
 | nil => exact False.elim vt
 | cons r₀ rs =>
  rw [he]
  exact assignInOrder_cons (a A env W G H F s _ _ _ _ rm X Y r₀ vt fun W₁ H₁ F₁ h₁ t₁ le₁ X₁ Y₁ k₁ => b A env W₁ G H₁ F₁ _ _ _ _ _ rm X₁ Y₁ (Cr.mono le₁ rs) k₁ fun W₂ H₂ F₂ h₂ t₂ le₂ X₂ Y₂ k₂ => q _ _ _ _ t₂ (le₁.trans le₂) X₂ Y₂ k₂)
noncomputable def gT (n : Nat) (r : nA) : VG := fun x F H k => oK (Qz x) fun l => gd (Nat.beq l.length n) (r l F H k)
theorem ux {ts : List Expr} {e p n vr} (b : nE c d sg ts vr) (hn : ∀ env, (assignEach ts env).length = n) (hs : ∀ env, (assignEach ts env).findIdx? (·.1) = none) : SG c d sg (.Tuple ts e p) (gT n vr) := fun A env W G H F s x v k Q rm X Y r vt q => by
 obtain ⟨l, ex, vt⟩ := C9 vt
 obtain ⟨en, vt⟩ := Ea vt
 rw [NR ex] at r
 obtain ⟨a, o, vs, rfl, g, t, rl⟩ := r.tup_
 refine assign_Tuple_tuple (items := vs.toArray) rm.hand ⟨_, X.keepP _ _ g, t⟩ (by rw [hn, List.size_toArray, <- rl.length]; exact (Nat.eq_of_beq_eq_true en).symm) (hs env) fun h' he => ?_
 obtain ⟨X₁, S₁⟩ := X.keeps (h' := h') fun a o e => he a o (Nat.ne_of_lt (Heap.lt_size e)) e
 exact b A env W G H F (sh s h' s.toks) _ _ k Q rm X₁ (Y.move S₁) rl vt fun W₂ H₂ F₂ h₂ t₂ le₂ X₂ Y₂ k₂ => q _ _ _ h₂ t₂ le₂ X₂ Y₂ k₂
noncomputable def lT (g : VG) (F : Ag) (k : Fl -> Ag -> Hp -> Prop) : AV -> Hp -> Prop := fun x H => g x F H (k .next)
noncomputable def Ms (a : VE) (g : VG) : VS := fun F H k => a F H (lT g F k)
theorem fe {ts : List Expr} {n p pos} {e : Expr} {va vg} (a : SE c d sg e va) (g : SG c d sg (.Tuple ts n p) vg) (hs : ∀ env, swapsWithSole [.Tuple ts n p] e pos.line env = pure false) (hw : ∀ env, swappedStores [.Tuple ts n p] e env = pure none) :
  SO c d sg (.Assign [.Tuple ts n p] e pos) (Ms va vg) := fun A env W G H F s k Q rm X Y v q =>
 Assign_Tuple (a A env W G H F s _ _ rm X Y v fun y u W₁ H₁ h₁ t₁ le₁ X₁ Y₁ r₁ k₁ => g A env W₁ G H₁ F _ _ _ _ _ rm X₁ Y₁ r₁ k₁ fun W₂ H₂ F₂ h₂ t₂ le₂ X₂ Y₂ k₂ => q _ _ _ _ _ _ t₂ (le₁.trans le₂) X₂ Y₂ .next k₂) (hs env) (hw env)
noncomputable def siL (s : List Nat) (H : Hp) (k : AV -> Hp -> Prop) : AO -> Prop := fun o => oK (m7 o) fun l => oK (Ao l s) (kH H k)
noncomputable def V8 : V2 := fun x y H k => match x with
 | .loc n => oK (Zk y) fun s => hK (AB H n) (siL s H k)
 | _ => False
theorem cf : S2 c d getItem V8 := fun A W G H s x y u v k Q rm X r1 r2 p q => by
 cases x with
 | loc n =>
  obtain ⟨sx, ey, p⟩ := C9 p
  obtain ⟨l, g, p⟩ := hO (fun _ _ => Ts) p
  obtain ⟨z, e, kz⟩ := C9 p
  rw [Kx ey] at r2
  obtain ⟨t, rfl⟩ := r2.str_
  obtain ⟨e0, kvs, dl, al⟩ := X.obj n _ g
  obtain ⟨zv, e1, rz⟩ := FA al e
  rw [r1.loc_.1]
  exact wpAny_getItem_of (knd := strKind c.prog c.w) (strKind_is c.prog c.w _ _) dl.mapOf e1 (q _ _ _ _ _ _ .refl X rz kz)
 | _ => exact False.elim p
noncomputable def dM (x y : AV) (F : Ag) (k : Fl -> Ag -> Hp -> Prop) : AV -> Hp -> Prop := fun new H => PE x y new H (uZ F k)
noncomputable def dO (x y old : AV) (p : V2) (F : Ag) (k : Fl -> Ag -> Hp -> Prop) : AV -> Hp -> Prop := fun z H => p old z H (dM x y F k)
noncomputable def dP (x y : AV) (e : VE) (p : V2) (F : Ag) (k : Fl -> Ag -> Hp -> Prop) : AV -> Hp -> Prop := fun old H => e F H (dO x y old p F k)
noncomputable def dQ (x : AV) (e : VE) (p : V2) (F : Ag) (k : Fl -> Ag -> Hp -> Prop) : AV -> Hp -> Prop := fun y H => V8 x y H (dP x y e p F k)
noncomputable def lO (i e : VE) (p : V2) (F : Ag) (k : Fl -> Ag -> Hp -> Prop) : AV -> Hp -> Prop := fun x H => i F H (dQ x e p F k)
noncomputable def Z3 (o i e : VE) (p : V2) : VS := fun F H k => o F H (lO i e p F k)
theorem kC : S2 c d (inplaceOp .Add) HK := JP fun h => wpAny_iadd_int h
theorem fc {o i e : Expr} {tp pos : Pos} {op : Operator} {vo vi ve vp} (ho : SE c d sg o vo) (hi : SE c d sg i vi) (he : SE c d sg e ve) (hp : S2 c d (inplaceOp op) vp)
  (hs : ∀ ov iv new, augStore i ov iv new = (do holding [new, ov, iv] (setItem ov iv new); release [new, ov, iv] []; pure .next)) : SO c d sg (.AugAssign (.Subscript o i tp) op e pos) (Z3 vo vi ve vp) := fun A env W G H F s k Q rm X Y v q =>
 wpAny_AugAssign_SubscriptAny (ho A env W G H F s _ _ rm X Y v fun x u W₁ H₁ h₁ t₁ le₁ X₁ Y₁ r₁ k₁ => hi A env W₁ G H₁ F _ _ _ rm X₁ Y₁ k₁ fun y w W₂ H₂ h₂ t₂ le₂ X₂ Y₂ r₂ k₂ =>
  cf A W₂ G H₂ _ _ _ _ _ _ _ rm X₂ (r₁.mono le₂) r₂ k₂ fun old ov W₃ H₃ h₃ t₃ S₃ X₃ r₃ k₃ => he A env W₃ G H₃ F _ _ _ rm X₃ (Y₂.move S₃) k₃ fun z zv W₄ H₄ h₄ t₄ le₄ X₄ Y₄ r₄ k₄ =>
   hp A W₄ G H₄ _ _ _ _ _ _ _ rm X₄ (r₃.mono le₄) r₄ k₄ fun new nv W₅ H₅ h₅ t₅ S₅ X₅ r₅ k₅ => cZ A W₅ G H₅ _ _ _ _ _ _ _ _ _ rm X₅ (r₁.mono (((le₂.trans S₃.1).trans le₄).trans S₅.1)) (r₂.mono ((S₃.1.trans le₄).trans S₅.1)) r₅ k₅ fun W₆ H₆ h₆ t₆ S₆ X₆ k₆ =>
    q _ _ _ _ _ h₆ t₆ (((((le₁.trans le₂).trans S₃.1).trans le₄).trans S₅.1).trans S₆.1) X₆ ((Y₄.move S₅).move S₆) .next k₆) hs
end
section
variable {c : Cx} {d : Nat} {sg : CZ}
section
variable {prog : Program} {w : World} {h₀ : Heap} {W W' : Wd} {G : Gm} {H H' : Hp} {h h' : Heap} {F F' : Ag} {env : Env}
theorem AM.offKeep {a : Addr} (X : AM prog w h₀ W G H h) (o : Gu W G H a) (hs : ∀ b ob, b ≠ a -> h.get? b = some ob -> h'.get? b = some ob) : AM prog w h₀ W G H h' := by
 have hP : ∀ b ob, W.P b = some ob -> h'.get? b = some ob := fun b ob e => hs b ob (fun z => by rw [z, o.P] at e; cases e) (X.keepP b ob e)
 refine ⟨X.nx, X.base, hP, fun b ob e => hs b ob (fun z => by rw [z, o.G] at e; cases e) (X.keepG b ob e), fun n ao e => ?_, X.inj, X.offP, X.offG, X.sep, X.low, X.three⟩
 obtain ⟨ob, g⟩ := (X.obj n ao e).there
 exact (X.obj n ao e).move .refl (X.nx ▸ AX e) (by rw [g]; exact hs _ _ (o.H n ao e) g) hP
structure El (sg : CZ) (env : Env) (a : Addr) : Prop where
 loc : env.locals ≠ a
 cell : ∀ i x cc, getL sg.slots i = some (x, .cell) -> env.cells.lookup x = some cc -> cc ≠ a
theorem Aw.notMine (Y : Aw sg W G H F env h) {a : Addr} (ha : h.objs.size <= a) : El sg env a := by
 obtain ⟨m, ⟨o, es, ep, g, _⟩, _⟩ := Y.ns
 refine ⟨Nat.ne_of_lt (Nat.lt_of_lt_of_le (Heap.lt_size g) ha), fun i x cc e l => ?_⟩
 obtain ⟨c', oc, u, e1, e2, _⟩ := Y.cell i x e
 rw [l] at e1; cases e1
 exact Nat.ne_of_lt (Nat.lt_of_lt_of_le (Heap.lt_size e2) ha)
theorem Aw.offKeep {a : Addr} (Y : Aw sg W G H F env h) (n : El sg env a) (hs : ∀ b ob, b ≠ a -> h.get? b = some ob -> h'.get? b = some ob) : Aw sg W G H F env h' := by
 obtain ⟨m, ⟨o, es, ep, g, r⟩, hv⟩ := Y.ns
 refine ⟨Y.ok, Y.scope, Y.globals, Y.builtins, Y.len, Y.off, ⟨m, ⟨o, es, ep, hs _ _ n.loc g, r⟩, hv⟩, fun i x e => ?_, Y.apart, Y.free⟩
 obtain ⟨cc, oc, u, e1, e2, e3, e4, e5⟩ := Y.cell i x e
 exact ⟨cc, oc, u, e1, hs _ _ (n.cell i x cc e e1) e2, e3, e4, e5⟩
noncomputable def hold (G : Gm) (a : Addr) (o : Obj) : Gm := fun b => if b = a then some o else G b
theorem Fz {a : Addr} {o : Obj} : hold G a o a = some o := if_pos rfl
theorem Eh {a b : Addr} {o : Obj} (h : b ≠ a) : hold G a o b = G b := if_neg h
theorem AM.hold {a : Addr} {o : Obj} (X : AM prog w h₀ W G H h) (q : Gu W G H a) (e : h.get? a = some o) : AM prog w h₀ W (Mine.hold G a o) H h := by
 refine ⟨X.nx, fun b ob z => ?_, X.keepP, fun b ob z => ?_, X.obj, X.inj, X.offP, fun n ao z => ?_, fun b ob z z0 => ?_, X.low, X.three⟩
 ·rw [Eh (fun y => by rw [y] at z; have := X.base _ _ z; rw [q.G] at this; cases this)]; exact X.base b ob z
 ·by_cases y : b = a
  ·subst y; rw [Fz] at z; cases z; exact e
  ·rw [Eh y] at z; exact X.keepG b ob z
 ·rw [Eh (q.H n ao z)]; exact X.offG n ao z
 ·by_cases y : b = a
  ·rw [y]; exact q.P
  ·rw [Eh y] at z; exact X.sep b ob z z0
theorem AM.unhold {a : Addr} {o : Obj} (X : AM prog w h₀ W G H h) (qa : G a = none) (X' : AM prog w h₀ W' (Mine.hold G a o) H' h') : AM prog w h₀ W' G H' h' /\ Gu W' G H' a /\ h'.get? a = some o := by
 have sub : ∀ b ob, G b = some ob -> Mine.hold G a o b = some ob := fun b ob e => by rw [Eh (fun y => by rw [y, qa] at e; cases e)]; exact e
 have h0 : h₀.get? a = none := by
  cases e : h₀.get? a with
  | none => rfl
  | some ob => have := X.base a ob e; rw [qa] at this; cases this
 refine ⟨⟨X'.nx, X.base, X'.keepP, fun b ob e => X'.keepG b ob (sub b ob e), X'.obj, X'.inj, X'.offP, fun n ao e => ?_, fun b ob e z => X'.sep b ob (sub b ob e) z, X'.low, X'.three⟩, ⟨X'.sep a o Fz h0, qa, fun n ao e z => ?_⟩, X'.keepG a o Fz⟩
 ·cases e' : G (W'.κ n) with
  | none => rfl
  | some ob => have := X'.offG n ao e; rw [sub _ _ e'] at this; cases this
 ·have := X'.offG n ao e; rw [z, Fz] at this; cases this
theorem Gu.hold {a b : Addr} {o : Obj} (q : Gu W G H b) (h : b ≠ a) : Gu W (Mine.hold G a o) H b := ⟨q.P, by rw [Eh h]; exact q.G, q.H⟩
theorem Gu.unhold {a b : Addr} {o : Obj} (q : Gu W (Mine.hold G a o) H b) (qa : G a = none) : Gu W G H b := ⟨q.P, by
 by_cases y : b = a
 ·rw [y]; exact qa
 ·have := q.G; rwa [Eh y] at this, q.H⟩
theorem Aw.hold {a : Addr} {o : Obj} (Y : Aw sg W G H F env h) (n : El sg env a) (qa : G a = none) : Aw sg W (Mine.hold G a o) H F env h := by
 refine ⟨Y.ok, Y.scope, Y.globals, Y.builtins, Y.len, Y.off.hold n.loc, Y.ns, fun i x e => ?_, Y.apart, fun i x av e ea => ?_⟩
 ·obtain ⟨cc, oc, u, e1, e2, e3, e4, e5⟩ := Y.cell i x e
  exact ⟨cc, oc, u, e1, e2, e3, e4.hold (n.cell i x cc e e1), e5⟩
 ·obtain ⟨cc, oc, v, e1, e2, e3, e4⟩ := Y.free i x av e ea
  exact ⟨cc, oc, v, e1, by rw [Eh (fun y => by rw [y, qa] at e2; cases e2)]; exact e2, e3, e4⟩
noncomputable def Lm (o : Obj) : Prop := ∀ u, o.data ≠ .cell u
theorem Aw.unhold {a : Addr} {o : Obj} (Y : Aw sg W (Mine.hold G a o) H F env h) (qa : G a = none) (nc : Lm o) : Aw sg W G H F env h := by
 refine ⟨Y.ok, Y.scope, Y.globals, Y.builtins, Y.len, Y.off.unhold qa, Y.ns, fun i x e => ?_, Y.apart, fun i x av e ea => ?_⟩
 ·obtain ⟨cc, oc, u, e1, e2, e3, e4, e5⟩ := Y.cell i x e
  exact ⟨cc, oc, u, e1, e2, e3, e4.unhold qa, e5⟩
 ·obtain ⟨cc, oc, v, e1, e2, e3, e4⟩ := Y.free i x av e ea
  refine ⟨cc, oc, v, e1, ?_, e3, e4⟩
  by_cases y : cc = a
  ·rw [y, Fz] at e2; cases e2; exact absurd e3 (nc _)
  ·rw [Eh y] at e2; exact e2
end
end
section
variable {c : Cx} {d : Nat} {sg : CZ}
inductive KI where
 | fl (l : List AV)
 | ft (l : List AV)
 | ml (n : Nat)
 | rg (n : Nat)
 | st (s : List Nat)
noncomputable def EK : Nat -> List AV
 | 0 => []
 | n + 1 => EK n ++ [.int (n : Int)]
theorem Dj {n : Nat} : (EK n).length = n := by
 induction n with
 | zero => rfl
 | succ n ih => rw [EK, List.length_append, ih]; rfl
theorem U7 {n i : Nat} (h : i < n) : getL (EK n) i = some (.int (i : Int)) := by
 induction n with
 | zero => exact absurd h (Nat.not_lt_zero _)
 | succ n ih =>
  rw [EK]
  by_cases e : i = n
  ·have := Dq (l := EK n) (y := AV.int (n : Int))
   rw [e]
   rwa [Dj] at this
  ·exact Cp (ih (by omega))
noncomputable def KI.items (H : Hp) : KI -> Option (List AV)
 | .fl l => some l
 | .ft l => some l
 | .ml n => match AB H n with
  | some (.list l) => some l
  | _ => none
 | .rg n => some (EK n)
 | .st s => some (CM s)
noncomputable def Oi (W : Wd) (h : Heap) (I : Addr) (i : Nat) : KI -> Prop
 | .fl l => ∃ a o vs, W.P a = some o /\ SU o vs /\ Cr W l vs /\ h.IsListIter I a i
 | .ft l => ∃ a o vs, W.P a = some o /\ MT o vs /\ Cr W l vs /\ h.IsTupleIter I a i
 | .ml n => n < W.nx /\ h.IsListIter I (W.ρ n) i
 | .rg n => IsRangeIter h I (0 + (i : Int) * 1) ((n : Int) - (i : Int)) 1 /\ i <= n
 | .st s => ∃ t, h.IsStrIter I "str_ascii_iterator" ⟨s.toArray⟩ t i \/ h.IsStrIter I "str_iterator" ⟨s.toArray⟩ t i
theorem Oi.obj {W : Wd} {h : Heap} {I : Addr} {i : Nat} {sr : KI} (r : Oi W h I i sr) : ∃ o n, h.get? I = some o /\ o.cls = .type n /\ Lm o /\ (["enumerate", "zip", "dict_itemiterator", "dict_reverseitemiterator", "odict_iterator", "itertools.zip_longest", "itertools.pairwise"].contains n) = false := by
 have nf : ∀ {d : Data} {o : Obj}, o.data = d -> (∀ u, d ≠ .cell u) -> Lm o := fun e h u q => h u (e.symm.trans q)
 cases sr with
 | fl l => obtain ⟨a, o, vs, e, t, r, o', g, z⟩ := r; exact ⟨o', _, g, z.1, nf z.2 (fun _ => nofun), by decide⟩
 | ft l => obtain ⟨a, o, vs, e, t, r, o', g, z⟩ := r; exact ⟨o', _, g, z.1, nf z.2 (fun _ => nofun), by decide⟩
 | ml n => obtain ⟨hn, o', g, z⟩ := r; exact ⟨o', _, g, z.1, nf z.2 (fun _ => nofun), by decide⟩
 | rg n => exact ⟨_, _, r.1, rfl, nf rfl (fun _ => nofun), by decide⟩
 | st s =>
  obtain ⟨t, ⟨o', g, z⟩ | ⟨o', g, z⟩⟩ := r
  ·exact ⟨o', _, g, z.1, nf z.2 (fun _ => nofun), by decide⟩
  ·exact ⟨o', _, g, z.1, nf z.2 (fun _ => nofun), by decide⟩
theorem Oi.move {W W' : Wd} {h h' : Heap} {I : Addr} {i : Nat} (le : W.le W') (k : ∀ o, h.get? I = some o -> h'.get? I = some o) {sr : KI} (r : Oi W h I i sr) : Oi W' h' I i sr := by
 cases sr with
 | fl l => obtain ⟨a, o, vs, e, t, r, o', g, z⟩ := r; exact ⟨a, o, vs, le.P _ _ e, t, r.mono le, o', k _ g, z⟩
 | ft l => obtain ⟨a, o, vs, e, t, r, o', g, z⟩ := r; exact ⟨a, o, vs, le.P _ _ e, t, r.mono le, o', k _ g, z⟩
 | ml n => obtain ⟨hn, o', g, z⟩ := r; exact ⟨Nat.lt_of_lt_of_le hn le.nx, o', k _ g, by rw [le.ρ n hn]; exact z⟩
 | rg n => exact ⟨k _ r.1, r.2⟩
 | st s => exact r.imp fun t h => h.imp (fun ⟨o', g, z⟩ => ⟨o', k _ g, z⟩) (fun ⟨o', g, z⟩ => ⟨o', k _ g, z⟩)
theorem Mh {s : List Nat} : ∀ {i n : Nat}, s[i]? = some n -> getL (CM s) i = some (.str [n]) := by
 induction s with
 | nil => exact fun e => nomatch e
 | cons a s ih =>
  intro i n e
  cases i with
  | zero => rw [Option.some.inj e.symm]; rfl
  | succ i => exact ih e
section
variable {A : Around} {W : Wd} {G : Gm} {H : Hp} {s : Shared} {Q : Option Value -> Shared -> Prop}
theorem Hq {α : Type} {l : List α} {i : Nat} (h : l.length <= i) : getL l i = none := by
 cases g : getL l i with
 | none => rfl
 | some x => exact absurd (Bn g) (Nat.not_lt.mpr h)
theorem Cr.at {l : List AV} {vs : List Value} {i : Nat} {v : Value} (r : Cr W l vs) (e : vs[i]? = some v) : ∃ x, getL l i = some x /\ RV W x v := by
 obtain ⟨x, ex⟩ := Am (l := l) (i := i) (r.length ▸ (List.getElem?_eq_some_iff.mp e).1)
 obtain ⟨u, eu, ru⟩ := r.get ex
 exact ⟨x, ex, Option.some.inj (eu.symm.trans e) ▸ ru⟩
theorem Pw {a I : Addr} {i : Nat} {l : List AV} {vs : List Value} (rm : Rm d A) (il : s.heap.IsList a vs.toArray) (rl : Cr W l vs) (it : s.heap.IsListIter I a i)
  (q1 : ∀ x v h', getL l i = some x -> RV W x v -> h'.IsListIter I a (i + 1) -> (∀ b ob, b ≠ I -> s.heap.get? b = some ob -> h'.get? b = some ob) -> Q (some v) (sh s h' s.toks))
  (q2 : ∀ h', getL l i = none -> (∀ b ob, b ≠ I -> s.heap.get? b = some ob -> h'.get? b = some ob) -> Q none (sh s h' s.toks)) : wpAny (model c.prog c.w) A (pyNext (.ref I)) Q Ds s := by
 by_cases hlt : i < vs.length
 ·have e := List.getElem?_eq_getElem hlt
  obtain ⟨x, ex, rx⟩ := rl.at e
  exact wpAny_pyNext_list_item it il (by rw [List.getElem?_toArray]; exact e) fun h' it' hs => q1 x _ h' ex rx it' hs.extBut
 ·exact wpAny_pyNext_list_end rm.hand it il (by rw [List.getElem?_toArray]; exact List.getElem?_eq_none (by omega)) fun h' hs => q2 h' (Hq (by rw [rl.length]; omega)) hs
theorem Wb {I : Addr} {i : Nat} {sr : KI} {l : List AV} (rm : Rm d A) (X : AM c.prog c.w c.h₀ W G H s.heap) (o : Gu W G H I) (r : Oi W s.heap I i sr) (el : sr.items H = some l)
  (q1 : ∀ x v h' tk, getL l i = some x -> RV W x v -> Oi W h' I (i + 1) sr -> (∀ b ob, b ≠ I -> s.heap.get? b = some ob -> h'.get? b = some ob) -> Q (some v) (sh s h' tk))
  (q2 : ∀ h' tk, getL l i = none -> (∀ b ob, b ≠ I -> s.heap.get? b = some ob -> h'.get? b = some ob) -> Q none (sh s h' tk)) : wpAny (model c.prog c.w) A (pyNext (.ref I)) Q Ds s := by
 cases sr with
 | fl l' =>
  rw [<- Option.some.inj el] at q1 q2
  obtain ⟨a, o', vs, e, t, rl, it⟩ := r
  exact Pw rm ⟨_, X.keepP _ _ e, t⟩ rl it (fun x v h' ex rx it' hs => q1 x v h' _ ex rx ⟨a, o', vs, e, t, rl, it'⟩ hs) fun h' => q2 h' _
 | ft l' =>
  rw [<- Option.some.inj el] at q1 q2
  obtain ⟨a, o', vs, e, t, rl, it⟩ := r
  have il : s.heap.IsTuple a vs.toArray := ⟨_, X.keepP _ _ e, t⟩
  by_cases hlt : i < vs.length
  ·obtain ⟨x, ex, rx⟩ := rl.at (List.getElem?_eq_getElem hlt)
   exact wpAny_pyNext_tuple_item it il (by rw [List.getElem?_toArray]; exact List.getElem?_eq_getElem hlt) fun h' it' hs => q1 x _ h' s.toks ex rx ⟨a, o', vs, e, t, rl, it'⟩ hs.extBut
  ·exact wpAny_pyNext_tuple_end rm.hand it il (by rw [List.getElem?_toArray]; exact List.getElem?_eq_none (by omega)) fun h' hs => q2 h' s.toks (Hq (by rw [rl.length]; omega)) hs
 | ml n =>
  obtain ⟨hn, it⟩ := r
  unfold KI.items at el
  dsimp only at el
  split at el
  ·rename_i l' g
   rw [Option.some.inj el] at g
   obtain ⟨vs, m, ek, gl, rl⟩ := Ir X g
   exact Pw rm ⟨_, gl, rfl, m, rfl⟩ rl it (fun x v h' ex rx it' hs => q1 x v h' _ ex rx ⟨hn, it'⟩ hs) fun h' => q2 h' _
  ·exact nomatch el
 | rg n =>
  obtain ⟨it, hi⟩ := r
  rw [<- Option.some.inj el] at q1 q2
  have W0 := Walks.range (prog := c.prog) (w := c.w) rm.hand I 0 1 n
  by_cases hlt : i < n
  ·refine W0.item i s Q Ds hlt it fun v h' tk hv st hk => ?_
   obtain ⟨t, rfl⟩ := hv
   exact q1 (.int (i : Int)) _ h' tk (U7 hlt) (by rw [Int.mul_one, Int.zero_add]; exact .int _ t) ⟨st, hlt⟩ fun b ob hb e => hk b ob (by rw [List.mem_singleton]; exact hb) e
  ·have e : i = n := by omega
   rw [e] at it q2
   exact W0.done s Q Ds it fun h' tk hk => q2 h' tk (Hq (Nat.le_of_eq Dj)) fun b ob hb e => hk b ob (by rw [List.mem_singleton]; exact hb) e
 | st sx =>
  rw [<- Option.some.inj el] at q1 q2
  have nn : ¬ i < sx.length -> getL (CM sx) i = none := fun h => Hq (by rw [Ee]; omega)
  have one : ∀ {v : Value} {h' : Heap} {tk : Nat}, (∃ cc u, (⟨sx.toArray⟩ : Str).cps[i]? = some cc /\ v = .str ⟨#[cc]⟩ u) -> Oi W h' I (i + 1) (.st sx) -> (∀ b ob, b ∉ [I] -> s.heap.get? b = some ob -> h'.get? b = some ob) -> Q (some v) (sh s h' tk) := fun {v h' tk} hv st hk => by
   obtain ⟨cc, u, e1, rfl⟩ := hv
   rw [List.getElem?_toArray] at e1
   exact q1 (.str [cc]) _ h' tk (Mh e1) (.str [cc] u) st fun b ob hb e => hk b ob (by rw [List.mem_singleton]; exact hb) e
  obtain ⟨t, it | it⟩ := r
  ·by_cases hlt : i < sx.length
   ·exact (Walks.strAscii (prog := c.prog) (w := c.w) rm.hand I ⟨sx.toArray⟩ t).item i s Q Ds (by rw [List.size_toArray]; exact hlt) it fun v h' tk hv st hk => one hv ⟨t, .inl st⟩ hk
   ·exact wpAny_pyNext_ascii_end rm.hand it (by show sx.toArray[i]? = none; rw [List.getElem?_toArray]; exact List.getElem?_eq_none (by omega)) fun h' hk => q2 h' s.toks (nn hlt) hk
  ·by_cases hlt : i < sx.length
   ·exact (Walks.strWide (prog := c.prog) (w := c.w) rm.hand I ⟨sx.toArray⟩ t).item i s Q Ds (by rw [List.size_toArray]; exact hlt) it fun v h' tk hv st hk => one hv ⟨t, .inr st⟩ hk
   ·exact wpAny_pyNext_wide_end rm.hand it (by show sx.toArray[i]? = none; rw [List.getElem?_toArray]; exact List.getElem?_eq_none (by omega)) fun h' hk => q2 h' s.toks (nn hlt) hk
end
end
section
variable {c : Cx} {d : Nat} {sg : CZ}
inductive YQ where
 | av (x : AV)
 | rg (n : Int)
noncomputable def vW (W : Wd) (h : Heap) (v : Value) : YQ -> Prop
 | .av x => RV W x v
 | .rg n => (-100000 < n /\ n < 100000) /\ ∃ r t u w, v = .ref r /\ IsRange h r 0 n 1 t u w
noncomputable abbrev VX := Ag -> Hp -> (YQ -> Hp -> Prop) -> Prop
noncomputable def SX (c : Cx) (d : Nat) (sg : CZ) (e : Expr) (vc : VX) : Prop :=
 ∀ (A : Around) (env : Env) (W : Wd) (G : Gm) (H : Hp) (F : Ag) (s : Shared) (k : YQ -> Hp -> Prop) (Q : Value -> Shared -> Prop),
  Rm d A -> AM c.prog c.w c.h₀ W G H s.heap -> Aw sg W G H F env s.heap -> vc F H k ->
  (∀ b v W' H' h' t, W.le W' -> AM c.prog c.w c.h₀ W' G H' h' -> Aw sg W' G H' F env h' -> vW W' h' v b -> k b H' -> Q v (sh s h' t)) ->
  wpAny (model c.prog c.w) A (eval e env) Q Ds s
noncomputable def kX (k : YQ -> Hp -> Prop) : AV -> Hp -> Prop := fun x H => k (.av x) H
noncomputable def vX (a : VE) : VX := fun F H k => a F H (kX k)
theorem sX {e : Expr} {va} (a : SE c d sg e va) : SX c d sg e (vX va) := fun A env W G H F s k Q rm X Y v q => a A env W G H F s _ Q rm X Y v fun x u W' H' h' t le X' Y' r k' => q (.av x) _ _ _ _ t le X' Y' r k'
noncomputable def qW (n : Int) : Bool := Ii n.natAbs
theorem Nq {n : Int} : qW n = true ↔ -100000 < n /\ n < 100000 := by unfold qW Ii; rw [Nat.ble_eq]; omega
noncomputable def kXR (k : YQ -> Hp -> Prop) : AV -> Hp -> Prop := fun x H => oK (Us x) fun n => gd (qW n) (k (.rg n) H)
noncomputable def ee (a : VE) : VX := fun F H k => a F H (kXR k)
theorem sXR {p pos : Pos} {e : Expr} {va} (ha : SE c d sg e va) (hx : sg.scope.names.lookup ("range" : Str) = some .globalImplicit) (hn : nsIn c.K mainGlobals ("range" : Str) = some none) (hv : bootBuiltins ("range" : Str) = some (.type "range"))
  (hnn : ("range" : Str) ≠ "__name__") (hd : (("range" : Str) == ("__debug__" : Str)) = false) (h1 : BP e = false) : SX c d sg (.Call (.Name ("range" : Str) p) [e] [] pos) (ee va) := fun A env W G H F s k Q rm X Y v q =>
 wpAny_Call_NameR (Lo X Y hx hn hv hnn hd (by
  rw [Tq h1]
  exact PySem.callWith_type rfl (evalArgs_plain (spliced_cons (ha A env W G H F s _ _ rm X Y v fun y z W₁ H₁ h₁ t₁ le₁ X₁ Y₁ r₁ k₁ => spliced_nil (by
   obtain ⟨n, ey, k₁⟩ := C9 k₁
   obtain ⟨hn, k₁⟩ := Ea k₁
   rw [Jp ey] at r₁
   obtain ⟨tn, rfl⟩ := r₁.int_
   refine call_range_1 ?_
   obtain ⟨X₂, S₂⟩ := X₁.pushAny ({ cls := Value.type "range", data := Data.fields #[Value.int 0 t₁, Value.int n tn, Value.int 1 (t₁ + 1)] } : Obj)
   exact q (.rg n) _ _ _ _ (t₁ + 1 + 1) (le₁.trans S₂.1) X₂ (Y₁.move S₂) ⟨Nq.mp hn, _, _, _, _, rfl, Heap.get?_push_size _ rfl⟩ k₁))))))
noncomputable def TV (it : YQ) (H : Hp) (K : KI -> List AV -> Prop) : Prop := match it with
 | .av x => match x with
  | .lst l => K (.fl l) l
  | .tup l => K (.ft l) l
  | .str s => K (.st s) (CM s)
  | .loc n => hK (AB H n) (ZF (K (.ml n)))
  | _ => False
 | .rg n => K (.rg n.toNat) (EK n.toNat)
theorem Dv {α : Type} {M : Model} {A : Around} {m : Sem α} {Q : α -> Shared -> Prop} {E : Value -> Shared -> Prop} {s : Shared} (h : wpAny M A m Q Ds s) : wpAny M A m Q E s := wpAny_mono h (fun _ _ h => h) (fun _ _ e => e.elim)
theorem Le {A : Around} {W : Wd} {G : Gm} {H : Hp} {s : Shared} {b : YQ} {v : Value} {K : KI -> List AV -> Prop} {Q : Value -> Shared -> Prop} (X : AM c.prog c.w c.h₀ W G H s.heap) (r : vW W s.heap v b) (p : TV b H K)
  (q : ∀ sr l o, sr.items H = some l -> K sr l -> Oi W (s.heap.push o) s.heap.objs.size 0 sr -> Q (.ref s.heap.objs.size) (sh s (s.heap.push o) s.toks)) : wpAny (model c.prog c.w) A (pyIter v) Q Ds s := by
 cases b with
 | rg n =>
  obtain ⟨⟨h1, h2⟩, r, t, u, w, rfl, hr⟩ := r
  refine wpAny_pyIter_range hr (small_one (by decide) (by decide) (by omega) (by omega)) (q _ _ _ rfl p ⟨?_, Nat.zero_le _⟩)
  rw [show (0 + ((0 : Nat) : Int) * 1) = 0 from rfl, show ((n.toNat : Int) - ((0 : Nat) : Int)) = Builtin.Range.rangeSize 0 n 1 by rw [rangeSize_one]; split <;> omega]
  exact Heap.get?_push_size _ rfl
 | av x =>
  cases x with
  | lst l =>
   obtain ⟨a, o, vs, rfl, g, t, rl⟩ := RV.lst_ r
   exact wpAny_pyIter_list (items := vs.toArray) ⟨_, X.keepP _ _ g, t⟩ (q _ _ _ rfl p ⟨_, _, _, g, t, rl, _, Heap.get?_push_size _ rfl, rfl, rfl⟩)
  | tup l =>
   obtain ⟨a, o, vs, rfl, g, t, rl⟩ := RV.tup_ r
   exact wpAny_pyIter_tuple (items := vs.toArray) ⟨_, X.keepP _ _ g, t⟩ (q _ _ _ rfl p ⟨_, _, _, g, t, rl, _, Heap.get?_push_size _ rfl, rfl, rfl⟩)
  | str sx =>
   obtain ⟨tx, rfl⟩ := RV.str_ r
   cases ha : (⟨sx.toArray⟩ : Str).cps.all (· < 128)
   ·exact wpAny_pyIter_wide ha (q _ _ _ rfl p ⟨tx, .inr ⟨_, Heap.get?_push_size _ rfl, rfl, rfl⟩⟩)
   ·exact wpAny_pyIter_ascii ha (q _ _ _ rfl p ⟨tx, .inl ⟨_, Heap.get?_push_size _ rfl, rfl, rfl⟩⟩)
  | loc n =>
   obtain ⟨l, g, p⟩ := hO (fun _ _ => NS) p
   obtain ⟨rfl, hn⟩ := RV.loc_ r
   obtain ⟨vs, m, ek, gl, rl⟩ := Ir X g
   exact wpAny_pyIter_list (items := vs.toArray) ⟨_, gl, rfl, m, rfl⟩ (q (.ml n) l _ (by unfold KI.items; dsimp only; rw [g]) p ⟨hn, _, Heap.get?_push_size _ rfl, rfl, rfl⟩)
  | _ => exact False.elim p
theorem UQ {A : Around} {W : Wd} {s : Shared} {I : Addr} {i : Nat} {sr : KI} {t : Expr} {v : Value} {Q : Unit -> Shared -> Prop} (r : Oi W s.heap I i sr) (q : Q () s) : wpAny (model c.prog c.w) A (letOwnedTupleGo t (.ref I) v) Q Ds s := by
 obtain ⟨o, n, g, hc, _, hn⟩ := r.obj
 have main : wpAny (model c.prog c.w) A (do
  let (.ref r, .ref a) := (Value.ref I, v) | return
  let o <- load r
  match o.cls, o.data with
  | .type n, .fields vs =>
   if ["enumerate", "zip", "dict_itemiterator", "dict_reverseitemiterator", "odict_iterator", "itertools.zip_longest", "itertools.pairwise"].contains n && vs[0]? == some (rawInt a) then
    rule "for.unpacks-the-owned-tuple"
    updateField r 0 .none
  | _, _ => pure ()) Q Ds s := by
  cases v with
  | ref a =>
   refine wpAny_bind (wpAny_load g ?_)
   rw [hc]
   cases o.data with
   | fields vs =>
    dsimp only
    rw [hn, Bool.false_and]
    exact wpAny_pure q
   | _ => exact wpAny_pure q
  | _ => exact wpAny_pure q
 cases t <;> first | exact main | exact wpAny_pure q
structure CkO (all : List AV) (o : AO) (p : Prop) : Prop where
 e : o = .list all
 p : p
noncomputable def ckL (all : List AV) (p : Prop) : AO -> Prop := fun o => CkO all o p
noncomputable def Qh (sr : KI) (all : List AV) (H : Hp) (p : Prop) : Prop := match sr with
 | .ml n => hK (AB H n) (ckL all p)
 | _ => p
theorem OY {sr : KI} {all : List AV} {H H' : Hp} {p : Prop} (e : sr.items H = some all) (h : Qh sr all H' p) : sr.items H' = some all /\ p := by
 cases sr with
 | ml n =>
  obtain ⟨o, g, h⟩ := R5 h
  exact ⟨by unfold KI.items; dsimp only; rw [g, CkO.e h], CkO.p h⟩
 | _ => exact ⟨e, h⟩
noncomputable def oZ (sr : KI) (all : List AV) (R : Ag -> Hp -> Prop) (k : Fl -> Ag -> Hp -> Prop) : Fl -> Ag -> Hp -> Prop := fun fl F H => match fl with
 | .ret z => k (.ret z) F H
 | .next => Qh sr all H (R F H)
 | .cont => Qh sr all H (R F H)
noncomputable def kLg (b : VS) (K : Fl -> Ag -> Hp -> Prop) : Ag -> Hp -> Prop := fun F H => b F H K
noncomputable def CN (sr : KI) (g : VG) (b : VS) (all : List AV) (k : Fl -> Ag -> Hp -> Prop) : List AV -> Ag -> Hp -> Prop
 | [], F, H => k .next F H
 | x :: r, F, H => g x F H (kLg b (oZ sr all (CN sr g b all k r) k))
noncomputable def lE (g : VG) (b : VS) (F : Ag) (H : Hp) (k : Fl -> Ag -> Hp -> Prop) : KI -> List AV -> Prop := fun sr l => CN sr g b l k l F H
noncomputable def lF (g : VG) (b : VS) (F : Ag) (k : Fl -> Ag -> Hp -> Prop) : YQ -> Hp -> Prop := fun it H => TV it H (lE g b F H k)
noncomputable def Ng (vx : VX) (g : VG) (b : VS) : VS := fun F H k => vx F H (lF g b F k)
theorem M9 {α : Type} {l : List α} : ∀ {i : Nat}, (∀ x, getL l i = some x -> l.drop i = x :: l.drop (i + 1)) /\ (getL l i = none -> l.drop i = []) := by
 induction l with
 | nil => intro i; exact ⟨fun _ e => (nomatch e), fun _ => List.drop_nil⟩
 | cons a l ih =>
  intro i
  cases i with
  | zero => exact ⟨fun x e => Option.some.inj e ▸ rfl, fun e => nomatch e⟩
  | succ i => exact ih
theorem O1 {A : Around} {env : Env} {W : Wd} {G : Gm} {H : Hp} {F : Ag} {s : Shared} {I : Addr} {i : Nat} {sr : KI} {l : List AV} {Q : Option Value -> Shared -> Prop} (rm : Rm d A) (X : AM c.prog c.w c.h₀ W G H s.heap) (Y : Aw sg W G H F env s.heap) (off : Gu W G H I) (hN : El sg env I) (ir : Oi W s.heap I i sr) (el : sr.items H = some l)
  (q1 : ∀ x v h' tk ob, l.drop i = x :: l.drop (i + 1) -> i < l.length -> RV W x v -> Oi W h' I (i + 1) sr -> AM c.prog c.w c.h₀ W (hold G I ob) H h' -> Aw sg W (hold G I ob) H F env h' ->
   (∀ W' H' h₂, W.le W' -> AM c.prog c.w c.h₀ W' (hold G I ob) H' h₂ -> AM c.prog c.w c.h₀ W' G H' h₂ /\ Gu W' G H' I /\ Oi W' h₂ I (i + 1) sr /\ h₂.get? I = some ob /\ ∀ F' , Aw sg W' (hold G I ob) H' F' env h₂ -> Aw sg W' G H' F' env h₂) ->
   (∀ b o, b ≠ I -> s.heap.get? b = some o -> h'.get? b = some o) -> Q (some v) (sh s h' tk))
  (q2 : ∀ h' tk, l.drop i = [] -> AM c.prog c.w c.h₀ W G H h' -> Aw sg W G H F env h' -> (∀ b o, b ≠ I -> s.heap.get? b = some o -> h'.get? b = some o) -> Q none (sh s h' tk)) : wpAny (model c.prog c.w) A (pyNext (.ref I)) Q Ds s :=
 Wb rm X off ir el (fun x v h₃ t₃ ex rx ir₃ keep => by
  obtain ⟨ob, _, go, _, nc, _⟩ := ir₃.obj
  have X₃ := X.offKeep off keep
  refine q1 x v h₃ t₃ ob (M9.1 x ex) (Bn ex) rx ir₃ (X₃.hold off go) ((Y.offKeep hN keep).hold hN off.G) (fun W' H' h₂ le X' => ?_) keep
  obtain ⟨X₄, off₄, g₄⟩ := X₃.unhold off.G X'
  exact ⟨X₄, off₄, ir₃.move le (fun o e => by rw [<- go.symm.trans e]; exact g₄), g₄, fun F' Y' => Y'.unhold off.G nc⟩) fun h₃ t₃ en keep => q2 h₃ t₃ (M9.2 en) (X.offKeep off keep) (Y.offKeep hN keep) keep
theorem pU {t it : Expr} {body : List Stmt} {pos : Pos} {vx g b} (hi : SX c d sg it vx) (ht : SG c d sg t g) (hb : SS c d sg body b) (hs : ∀ env x, foldedSetIterable it env x = pure x) :
  SO c d sg (.For t it body [] pos) (Ng vx g b) := fun A env W G H F s k Q rm X Y v q =>
 wpAny_For (hi A env W G H F s _ _ rm X Y v fun bb u W₁ H₁ h₁ t₁ le₁ X₁ Y₁ r₁ k₁ => Le (s := sh s h₁ t₁) X₁ r₁ k₁ fun sr l o el lp it0 => by
  obtain ⟨X₂, S₂⟩ := X₁.pushAny o
  refine codeAny_forLoop_any (I := fun m s' => ∃ h' t' W' H' F' i, s' = sh s h' t' /\ W₁.le W' /\ AM c.prog c.w c.h₀ W' G H' h' /\ Aw sg W' G H' F' env h' /\ Gu W' G H' h₁.objs.size /\ Oi W' h' h₁.objs.size i sr /\ sr.items H' = some l /\ m = (l.drop i).length /\ CN sr g b l k (l.drop i) F' H')
   ?_ l.length ⟨_, t₁, W₁, H₁, F, 0, rfl, .refl, X₂, Y₁.move S₂, X₁.off_new, it0, el, rfl, lp⟩
  intro m s' hI
  obtain ⟨h', t', W', H', F', i, es, le', X', Y', off', ir', el', em, lp'⟩ := hI
  rw [es]
  refine Dv (O1 (s := sh s h' t') rm X' Y' off' (Y₁.notMine (Nat.le_refl _)) ir' el' (fun x v h₃ t₃ ob ed hl rx ir₃ X₄ Y₄ Fe _ => ?_) fun h₃ t₃ ed X₃ Y₃ _ => ?_)
  ·rw [ed] at lp' em
   refine Dv (UQ (s := sh s h₃ t₃) ir₃ (Dv (ht A env W' _ H' F' (sh s h₃ t₃) x v _ _ rm X₄ Y₄ rx lp' fun W₅ H₅ F₅ h₅ t₅ le₅ X₅ Y₅ k₅ => Dv (hb A env W₅ _ H₅ F₅ (sh s h₅ t₅) _ _ rm X₅ Y₅ k₅ fun fl f W₆ H₆ F₆ h₆ t₆ le₆ X₆ Y₆ r₆ k₆ => ?_))))
   obtain ⟨X₇, off₇, ir₇, _, yb⟩ := Fe W₆ H₆ h₆ (le₅.trans le₆) X₆
   have lt : (l.drop (i + 1)).length < m := by rw [em]; exact Nat.lt_succ_self _
   cases r₆ with
   | next => exact (have k₆ := OY el' k₆; ⟨(l.drop (i + 1)).length, lt, h₆, t₆, W₆, H₆, F₆, i + 1, rfl, (le'.trans le₅).trans le₆, X₇, yb _ Y₆, off₇, ir₇, k₆.1, rfl, k₆.2⟩)
   | cont => exact (have k₆ := OY el' k₆; ⟨(l.drop (i + 1)).length, lt, h₆, t₆, W₆, H₆, F₆, i + 1, rfl, (le'.trans le₅).trans le₆, X₇, yb _ Y₆, off₇, ir₇, k₆.1, rfl, k₆.2⟩)
   | ret rz => exact q _ _ _ _ _ h₆ t₆ (((le₁.trans le').trans le₅).trans le₆) X₇ (yb _ Y₆) (.ret rz) k₆
  ·rw [ed] at lp'
   exact wpAny_execs_nil (q _ _ _ _ _ h₃ t₃ (le₁.trans le') X₃ Y₃ .next lp')) (hs env)
noncomputable def kWb (R : Ag -> Hp -> Prop) (k : Fl -> Ag -> Hp -> Prop) : Fl -> Ag -> Hp -> Prop := fun fl F H => match fl with
 | .ret z => k (.ret z) F H
 | .next => R F H
 | .cont => R F H
noncomputable def kWt (b : VS) (R : Ag -> Hp -> Prop) (F : Ag) (k : Fl -> Ag -> Hp -> Prop) : Bool -> Hp -> Prop := fun r H => KH r (b F H (kWb R k)) (k .next F H)
noncomputable def TP (t : VT) (b : VS) (k : Fl -> Ag -> Hp -> Prop) : Nat -> Ag -> Hp -> Prop
 | 0, _, _ => False
 | n + 1, F, H => t F H (kWt b (TP t b k n) F k)
structure WhL (t : VT) (b : VS) (F : Ag) (H : Hp) (k : Fl -> Ag -> Hp -> Prop) : Prop where
 p : ∃ n, TP t b k n F H
noncomputable def U3 (t : VT) (b : VS) : VS := fun F H k => WhL t b F H k
theorem bO {t : Expr} {body : List Stmt} {pos : Pos} {vt b} (ht : ST c d sg t vt) (hb : SS c d sg body b) : SO c d sg (.While t body [] pos) (U3 vt b) := fun A env W G H F s k Q rm X Y v q => by
 obtain ⟨n, v⟩ := WhL.p v
 refine wpAny_While (codeAny_whileLoop (I := fun m s' => ∃ h' t' W' H' F', s' = sh s h' t' /\ W.le W' /\ AM c.prog c.w c.h₀ W' G H' h' /\ Aw sg W' G H' F' env h' /\ TP vt b k m F' H') ?_ n ⟨_, s.toks, W, H, F, rfl, .refl, X, Y, v⟩)
 intro m s' hI
 obtain ⟨h', t', W', H', F', es, le', X', Y', lp⟩ := hI
 rw [es]
 cases m with
 | zero => exact False.elim lp
 | succ m =>
  refine Dv (ht A env W' G H' F' (sh s h' t') _ _ rm X' Y' lp fun r W₁ H₁ h₁ t₁ le₁ X₁ Y₁ k₁ => ?_)
  cases r with
  | false => exact wpAny_execs_nil (q _ _ _ _ _ h₁ t₁ (le'.trans le₁) X₁ Y₁ .next k₁)
  | true =>
   rw [if_pos rfl]
   refine Dv (hb A env W₁ G H₁ F' (sh s h₁ t₁) _ _ rm X₁ Y₁ k₁ fun fl f W₆ H₆ F₆ h₆ t₆ le₆ X₆ Y₆ r₆ k₆ => ?_)
   cases r₆ with
   | next => exact ⟨m, Nat.lt_succ_self _, h₆, t₆, W₆, H₆, F₆, rfl, (le'.trans le₁).trans le₆, X₆, Y₆, k₆⟩
   | cont => exact ⟨m, Nat.lt_succ_self _, h₆, t₆, W₆, H₆, F₆, rfl, (le'.trans le₁).trans le₆, X₆, Y₆, k₆⟩
   | ret rz => exact q _ _ _ _ _ h₆ t₆ ((le'.trans le₁).trans le₆) X₆ Y₆ (.ret rz) k₆
end
section
variable {c : Cx} {d : Nat} {sg : CZ}
noncomputable def O6 (out scope : Scope) : Scope :=
 { scope with names := scope.names.map fun (n, k) => if (k == .free && out.kind == .function && out.names.lookup n == some .cell) then (n, .cell) else (n, k) }
theorem RP {out scope : Scope} {env : Env} (e : env.scope = out) : relabel scope env = O6 out scope := by
 subst e; rfl
noncomputable def Gr (cells : List (Str × Addr)) : List (Str × Addr) -> List (Str × NameKind) -> List (Str × Addr)
 | acc, [] => acc
 | acc, (n, k) :: r => match k with
  | .free => Gr cells ((n, (cells.lookup n).getD 0) :: acc) r
  | _ => Gr cells acc r
theorem Xe {env : Env} {names : List (Str × NameKind)} : ∀ {acc : List (Str × Addr)}, (∀ p ∈ names, p.2 = .free -> ∃ cc, env.cells.lookup p.1 = some cc) ->
  (forIn names acc fun (x : Str × NameKind) (r : List (Str × Addr)) => (if x.2 == .free then (do let a <- cellOf env x.1; pure (ForInStep.yield ((x.1, a) :: r))) else pure (ForInStep.yield r) : Sem (ForInStep (List (Str × Addr))))) = pure (Gr env.cells acc names) := by
 induction names with
 | nil => exact fun _ => by rw [List.forIn_nil]; rfl
 | cons p r ih =>
  intro acc h
  rw [List.forIn_cons]
  have hr := fun p hp => h p (List.mem_cons_of_mem _ hp)
  obtain ⟨n, k⟩ := p
  cases k with
  | free =>
   obtain ⟨cc, hc⟩ := h (n, .free) List.mem_cons_self rfl
   rw [if_pos (show ((n, NameKind.free).2 == NameKind.free) = true from rfl), show cellOf env (n, NameKind.free).1 = pure cc by unfold cellOf; rw [hc]]
   show (pure (ForInStep.yield ((n, cc) :: acc)) >>= _ : Sem _) = pure (Gr env.cells ((n, (env.cells.lookup (n, NameKind.free).1).getD 0) :: acc) r)
   rw [hc]
   exact ih hr
  | _ => exact ih hr
theorem ZV {env : Env} {scope : Scope} (h : ∀ p ∈ scope.names, p.2 = .free -> ∃ cc, env.cells.lookup p.1 = some cc) : closureFor scope env = pure (Gr env.cells [] scope.names) := by
 have := Xe (env := env) (acc := []) h
 show (forIn scope.names ([] : List (Str × Addr)) _ >>= fun cs => pure cs) = _
 have e : (forIn scope.names ([] : List (Str × Addr)) fun (x : Str × NameKind) (r : List (Str × Addr)) => (match x with
  | (name, kind) => if kind == .free then (do let a <- cellOf env name; pure (ForInStep.yield ((name, a) :: r))) else pure (ForInStep.yield r) : Sem (ForInStep (List (Str × Addr))))) = pure (Gr env.cells [] scope.names) := this
 rw [e]; rfl
theorem OX {cells : List (Str × Addr)} {n : Str} {names : List (Str × NameKind)} : ∀ {acc : List (Str × Addr)}, ((n, NameKind.free) ∈ names \/ acc.lookup n = some ((cells.lookup n).getD 0)) -> (Gr cells acc names).lookup n = some ((cells.lookup n).getD 0) := by
 induction names with
 | nil => exact fun h => h.resolve_left List.not_mem_nil
 | cons p r ih =>
  intro acc h
  obtain ⟨m, k⟩ := p
  have other : k ≠ .free -> (n, NameKind.free) ∈ r \/ acc.lookup n = some ((cells.lookup n).getD 0) := fun nf => h.imp_left fun h => (List.mem_cons.mp h).resolve_left fun e => nf (congrArg Prod.snd e).symm
  cases k with
  | free =>
   refine ih ?_
   rw [List.lookup_cons]
   cases e : n == m with
   | true => rw [eq_of_beq e]; exact .inr rfl
   | false => exact h.imp_left fun h => (List.mem_cons.mp h).resolve_left fun z => by rw [show n = m from congrArg Prod.fst z, beq_self_eq_true] at e; exact Bool.noConfusion e
  | _ => exact ih (other nofun)
noncomputable def BG (out : CZ) (scope : Scope) (x : Str) (fs : List (Str × Nat)) : CZ := ⟨O6 out.scope scope, (x, .loc) :: fs.map fun p => (p.1, .free)⟩
noncomputable def KD (out : CZ) (scope : Scope) (x : Str) (fs : List (Str × Nat)) : Bool :=
 HH (BG out scope x fs) && (scope.kind == .function) && (scope.names.all fun p => p.2 != .cell) && (scope.names.all fun p => p.2 != .local || scope.names.lookup p.1 == some .local) && (scope.names.lookup x == some .local) &&
 (fs.all fun p => getL out.slots p.2 == some (p.1, .cell)) && (fs.all fun p => scope.names.any fun q => q.1 == p.1 && q.2 == .free) && (scope.names.all fun p => p.2 != .free || fs.any fun q => q.1 == p.1)
structure Og (out : CZ) (scope : Scope) (x : Str) (fs : List (Str × Nat)) : Prop where
 sig : HH (BG out scope x fs) = true
 kind : scope.kind = .function
 cell : ∀ p ∈ scope.names, p.2 ≠ .cell
 names : ∀ p ∈ scope.names, p.2 = .local -> scope.names.lookup p.1 = some .local
 x : scope.names.lookup x = some .local
 caps : ∀ p ∈ fs, getL out.slots p.2 = some (p.1, .cell)
 inn : ∀ p ∈ fs, (p.1, NameKind.free) ∈ scope.names
 free : ∀ p ∈ scope.names, p.2 = .free -> ∃ q ∈ fs, q.1 = p.1
theorem NL {out : CZ} {scope : Scope} {x : Str} {fs : List (Str × Nat)} (h : KD out scope x fs = true) : Og out scope x fs := by
 unfold KD at h
 simp only [Bool.and_eq_true, List.all_eq_true, Bool.or_eq_true, beq_iff_eq, bne_iff_ne, ne_eq, List.any_eq_true] at h
 obtain ⟨⟨⟨⟨⟨⟨⟨h1, h2⟩, h3⟩, h4⟩, h5⟩, h6⟩, h7⟩, h8⟩ := h
 refine ⟨h1, h2, h3, fun p hp e => (h4 p hp).resolve_left fun z => z e, h5, h6, fun p hp => ?_, fun p hp e => ?_⟩
 ·obtain ⟨q, hq, e1, e2⟩ := h7 p hp
  rw [<- e1, <- e2]; exact hq
 ·obtain ⟨q, hq, e1⟩ := (h8 p hp).resolve_left fun z => z e
  exact ⟨q, hq, e1⟩
noncomputable def Uh (F : Ag) (fs : List (Str × Nat)) : Ag := fs.map fun p => (getL F p.2).join
theorem VO {A : Around} {W : Wd} {s : Shared} {I : Addr} {sr : KI} {Q : Value -> Shared -> Prop} (r : Oi W s.heap I 0 sr) (q : Q (.ref I) s) : wpAny (model c.prog c.w) A (pyIter (.ref I)) Q Ds s := by
 cases sr with
 | fl l => obtain ⟨a, o, vs, e, t, rl, it⟩ := r; exact wpAny_pyIter_listiter it q
 | ft l => obtain ⟨a, o, vs, e, t, rl, it⟩ := r; exact wpAny_pyIter_tupleiter it q
 | ml n => exact wpAny_pyIter_listiter r.2 q
 | rg n => exact wpAny_pyIter_rangeiter r.1 q
 | st s =>
  obtain ⟨t, it | it⟩ := r
  ·exact wpAny_pyIter_striter_ascii it q
  ·exact wpAny_pyIter_striter_wide it q
theorem AM.frz {prog : Program} {w : World} {h₀ : Heap} {W : Wd} {G : Gm} {H : Hp} {h : Heap} {a : Addr} {o : Obj} (X : AM prog w h₀ W G H h) (q : Gu W G H a) (e : h.get? a = some o) : AM prog w h₀ (W.froze a o) G H h := by
 have le := Wd.froze_le (o := o) q.P
 have hP : ∀ b ob, (W.froze a o).P b = some ob -> h.get? b = some ob := fun b ob z => by
  have z' : (if b = a then some o else W.P b) = some ob := z
  by_cases y : b = a
  ·rw [if_pos y] at z'; cases z'; rw [y]; exact e
  ·rw [if_neg y] at z'; exact X.keepP b ob z'
 refine ⟨X.nx, X.base, hP, X.keepG, fun n ao z => (X.obj n ao z).move le (X.nx ▸ AX z) rfl hP, X.inj, fun n ao z => ?_, X.offG, fun b ob g z => ?_, X.low, X.three⟩
 ·show (if W.κ n = a then some o else W.P (W.κ n)) = none
  rw [if_neg (q.H n ao z)]; exact X.offP n ao z
 ·show (if b = a then some o else W.P b) = none
  rw [if_neg (fun y => by rw [y, q.G] at g; cases g)]; exact X.sep b ob g z
theorem Gu.frz {W : Wd} {G : Gm} {H : Hp} {a b : Addr} {o : Obj} (q : Gu W G H b) (h : b ≠ a) : Gu (W.froze a o) G H b := ⟨by
 show (if b = a then some o else W.P b) = none
 rw [if_neg h]; exact q.P, q.G, q.H⟩
noncomputable def SF (c : Cx) (d : Nat) (sg : CZ) (ifs : List Expr) (vc : VT) : Prop :=
 ∀ (A : Around) (env : Env) (W : Wd) (G : Gm) (H : Hp) (F : Ag) (s : Shared) (k : Bool -> Hp -> Prop) (Q : Bool -> Shared -> Prop),
  Rm d A -> AM c.prog c.w c.h₀ W G H s.heap -> Aw sg W G H F env s.heap -> vc F H k ->
  (∀ b W' H' h' t, W.le W' -> AM c.prog c.w c.h₀ W' G H' h' -> Aw sg W' G H' F env h' -> k b H' -> Q b (sh s h' t)) ->
  wpAny (model c.prog c.w) A (forIn ifs true fun e r => if r = true then do let ok <- isTrue e env (eval e env); pure (ForInStep.yield ok) else pure (ForInStep.yield r)) Q Ds s
noncomputable def U5 : VT := fun _ H k => k true H
theorem sF0 : SF c d sg [] U5 := fun A env W G H F s k Q rm X Y v q => by
 rw [List.forIn_nil]
 exact wpAny_pure (q _ _ _ _ s.toks .refl X Y v)
theorem sF1 {e : Expr} {vt} (a : ST c d sg e vt) : SF c d sg [e] vt := fun A env W G H F s k Q rm X Y v q => by
 rw [List.forIn_cons, if_pos rfl]
 refine wpAny_bind (wpAny_bind (a A env W G H F s _ _ rm X Y v fun b W₁ H₁ h₁ t₁ le₁ X₁ Y₁ k₁ => wpAny_pure ?_))
 show wpAny _ _ (forIn [] b _) _ _ _
 rw [List.forIn_nil]
 exact wpAny_pure (q _ _ _ _ t₁ le₁ X₁ Y₁ k₁)
noncomputable def kCa (sr : KI) (all : List AV) (R : List AV -> Hp -> Prop) (acc : List AV) : AV -> Hp -> Prop := fun y H => Qh sr all H (R (acc ++ [y]) H)
noncomputable def kCt (sr : KI) (e : VE) (all : List AV) (C : Ag) (R : List AV -> Hp -> Prop) (acc : List AV) : Bool -> Hp -> Prop := fun b H => KH b (e C H (kCa sr all R acc)) (Qh sr all H (R acc H))
noncomputable def FL (sr : KI) (t : VT) (e : VE) (all : List AV) (C : Ag) (k : List AV -> Hp -> Prop) : List AV -> List AV -> Hp -> Prop
 | [], acc, H => k acc H
 | x :: r, acc, H => t (some x :: C) H (kCt sr e all (some x :: C) (FL sr t e all C k r) acc)
noncomputable def ki (k : AV -> Hp -> Prop) : List AV -> Hp -> Prop := fun acc H => k (.lst acc) H
noncomputable def km (t : VT) (e : VE) (C : Ag) (H : Hp) (k : List AV -> Hp -> Prop) : KI -> List AV -> Prop := fun sr l => gd (Ii l.length) (FL sr t e l C k l [] H)
noncomputable def kLC (fs : List (Str × Nat)) (t : VT) (e : VE) (F : Ag) (k : AV -> Hp -> Prop) : YQ -> Hp -> Prop := fun it H => TV it H (km t e (Uh F fs) H (ki k))
noncomputable def oO (fs : List (Str × Nat)) (vx : VX) (t : VT) (e : VE) : VE := fun F H k => vx F H (kLC fs t e F k)
end
section
variable {c : Cx} {d : Nat} {sg : CZ}
theorem Mi {fs : List (Str × Nat)} {i : Nat} {y : Str} (e : getL (fs.map fun p => (p.1, SK.free)) i = some (y, .free)) : ∃ p, getL fs i = some p /\ p.1 = y := by
 rw [Bb] at e
 cases g : getL fs i with
 | none => rw [g] at e; cases e
 | some p => rw [g] at e; cases e; exact ⟨p, rfl, rfl⟩
theorem Ij {fs : List (Str × Nat)} {i : Nat} {y : Str} {k : SK} (e : getL (fs.map fun p => (p.1, SK.free)) i = some (y, k)) : k = .free := by
 rw [Bb] at e
 cases g : getL fs i with
 | none => rw [g] at e; cases e
 | some p => rw [g] at e; cases e; rfl
theorem Xi {F : Ag} {fs : List (Str × Nat)} {i : Nat} {p : Str × Nat} {av : AV} (e : getL fs i = some p) (ea : getL (Uh F fs) i = some (some av)) : getL F p.2 = some (some av) := by
 unfold Uh at ea
 rw [Bb, e] at ea
 have : (getL F p.2).join = some av := Option.some.inj ea
 cases g : getL F p.2 with
 | none => rw [g] at this; cases this
 | some o => rw [g] at this; cases o with
  | none => cases this
  | some z => cases this; rfl
theorem Hm {α : Type} {M : Model} {A : Around} {m : Sem α} {Q : α -> Shared -> Prop} {E : Value -> Shared -> Prop} {s : Shared} (h : wpAny M A m Q Ds s) : wpAny M A m Q E s := Dv h
section
variable {elt iter : Expr} {x : Str} {px pos : Pos} {ifs : List Expr} {scope : Scope} {fs : List (Str × Nat)} {vt : VT} {ve : VE}
theorem Ug (hf : SF c d (BG sg scope x fs) ifs vt) (he : SE c d (BG sg scope x fs) elt ve) {A : Around} {cenv : Env} {W : Wd} {G : Gm} {H : Hp} {C : Ag} {s : Shared} {I D : Addr} {sr : KI} {l : List AV} {kk : List AV -> Hp -> Prop} {RR : Result -> Shared -> Prop}
  (rm : Rm d A) (X : AM c.prog c.w c.h₀ W G H s.heap) (Y : Aw (BG sg scope x fs) W G H (none :: C) cenv s.heap) (offI : Gu W G H I) (offD : Gu W G H D) (ID : I ≠ D) (cI : El (BG sg scope x fs) cenv I) (cD : El (BG sg scope x fs) cenv D)
  (it : Oi W s.heap I 0 sr) (pD : s.heap.PlainList D #[]) (el : sr.items H = some l) (hl : l.length < 100000) (lp : FL sr vt ve l C kk l [] H)
  (Et : ∀ acc ys W' H' h' t o0, W.le W' -> AM c.prog c.w c.h₀ W' G H' h' -> Aw (BG sg scope x fs) W' G H' (o0 :: C) cenv h' -> Gu W' G H' D -> h'.PlainList D ys -> Cr W' acc ys.toList -> kk acc H' -> RR (.ok .next) (sh s h' t)) :
  codeAny (model c.prog c.w) A (.compLoop (.ListComp elt [⟨.Name x px, iter, ifs, 0⟩] scope pos) 0 (.ref I) (.ref D) cenv) RR s := by
 refine codeAny_compLoop_tests (I := fun m s' => ∃ h' t' W' H' i acc ys o0, s' = sh s h' t' /\ W.le W' /\ AM c.prog c.w c.h₀ W' G H' h' /\ Aw (BG sg scope x fs) W' G H' (o0 :: C) cenv h' /\ Gu W' G H' I /\ Gu W' G H' D /\
  Oi W' h' I i sr /\ h'.PlainList D ys /\ Cr W' acc ys.toList /\ sr.items H' = some l /\ acc.length <= i /\ m = (l.drop i).length /\ FL sr vt ve l C kk (l.drop i) acc H')
  ?_ l.length ⟨s.heap, s.toks, W, H, 0, [], #[], none, rfl, .refl, X, Y, offI, offD, it, pD, .nil, el, Nat.le_refl _, rfl, lp⟩
 intro m s' hI
 obtain ⟨h', t', W', H', i, acc, ys, o0, es, le', X', Y', offI', offD', ir', pD', ra, el', hai, em, lp'⟩ := hI
 rw [es]
 refine Hm (O1 (s := sh s h' t') rm X' Y' offI' cI ir' el' (fun x0 v0 h5 t5 ob ed hlt rx ir5 X6 Y6 Fe keep => ?_) fun h5 t5 ed X5 Y5 keep => ?_)
 ·rw [ed] at lp' em
  have lt : (l.drop (i + 1)).length < m := by rw [em]; exact Nat.lt_succ_self _
  obtain ⟨nd, gd'⟩ := pD'
  have gd5 := keep _ _ ID.symm gd'
  have offD6 : Gu W' (hold G I ob) H' D := offD'.hold ID.symm
  have ncD : Lm { cls := .type "list", data := .seq ys nd } := fun u q => nomatch q
  refine Hm (XS (d := d) (i := 0) (.inl rfl) A cenv W' _ H' _ (sh s h5 t5) x0 v0 (fun F2 H2 => H2 = H' /\ F2 = (some x0 :: C)) _ rm (X6.hold offD6 gd5) (Y6.hold cD offD6.G) rx ⟨rfl, rfl⟩ fun W8 H8 F8 h8 t8 le8 X8 Y8 k8 => ?_)
  rw [k8.1] at X8 Y8
  rw [k8.2] at Y8
  refine Hm (hf A cenv W8 _ H' _ (sh s h8 t8) _ _ rm X8 Y8 lp' fun bb W9 H9 h9 t9 le9 X9 Y9 k9 => ?_)
  cases bb with
  | false =>
   rw [if_neg Bool.false_ne_true]
   obtain ⟨Xa, offDa, gda⟩ := X6.unhold offD6.G X9
   obtain ⟨Xb, offIb, irb, _, yb⟩ := Fe W9 H9 h9 (le8.trans le9) Xa
   have kb := OY el' k9
   exact ⟨_, lt, h9, t9, W9, H9, i + 1, acc, ys, some x0, rfl, (le'.trans le8).trans le9, Xb, yb _ (Y9.unhold offD6.G ncD), offIb, offDa.unhold offI'.G, irb, ⟨nd, gda⟩, Cr.mono (le8.trans le9) ra, kb.1, Nat.le_succ_of_le hai, rfl, kb.2⟩
  | true =>
   rw [if_pos rfl]
   refine Hm (he A cenv W9 _ H9 _ (sh s h9 t9) _ _ rm X9 Y9 k9 fun y yv Wa Ha ha ta lea Xa0 Ya0 rya kya => ?_)
   obtain ⟨Xa, offDa, gda⟩ := X6.unhold offD6.G Xa0
   have lea' := (le8.trans le9).trans lea
   obtain ⟨Xb, offIb, irb, gob, yb⟩ := Fe Wa Ha ha lea' Xa
   have offDb := offDa.unhold offI'.G
   have rya' := Cr.mono lea' ra
   refine Hm (wpAny_list_append_plain (s := sh s ha ta) (items := ys) ⟨nd, gda⟩ (fun hb pb sb => ?_) (Nat.le_trans (by have := ra.length; simp only [Array.length_toList] at this; omega) BL))
   have keepb : ∀ b ob, b ≠ D -> ha.get? b = some ob -> hb.get? b = some ob := sb.extBut
   have kb := OY el' kya
   exact ⟨_, lt, hb, ta, Wa, Ha, i + 1, acc ++ [y], ys.push yv, some x0, rfl, le'.trans lea', Xb.offKeep offDb keepb, (yb _ (Ya0.unhold offD6.G ncD)).offKeep cD keepb, offIb, offDb,
    irb.move .refl (fun o e => keepb _ _ ID e), pb, by rw [Array.toList_push]; exact rya'.append (.cons rya .nil), kb.1, by rw [List.length_append]; exact Nat.succ_le_succ hai, rfl, kb.2⟩
 ·rw [ed] at lp'
  obtain ⟨n, e⟩ := pD'
  exact Et acc ys W' H' h5 t5 o0 le' X5 Y5 offD' ⟨n, keep _ _ ID.symm e⟩ ra lp'
theorem SD (ok : Og sg scope x fs) {W : Wd} {G : Gm} {H : Hp} {F : Ag} {env : Env} {h h' : Heap} {Cc : Addr} (Y : Aw sg W G H F env h) (offC : Gu W (Du W G H h) H Cc) (ns : h'.Ns Cc fun _ => none) :
  Aw (BG sg scope x fs) W (Du W G H h) H (none :: Uh F fs) (compEnvC scope (Gr env.cells [] scope.names) Cc env) h' := by
 have nope : ∀ {i : Nat} {y : Str} {k : SK}, k = .cell -> getL (BG sg scope x fs).slots i = some (y, k) -> False := fun {i y k} hk e => by
  cases i with
  | zero => rw [hk] at e; exact nomatch e
  | succ i => have := Ij (i := i) (y := y) (k := k) e; rw [hk] at this; exact nomatch this
 refine ⟨ok.sig, RP Y.scope, Y.globals, Y.builtins, by rw [List.length_cons, Uh, List.length_map, BG, List.length_cons, List.length_map], offC, ⟨_, ns, fun i y av e ea => ?_⟩, fun i y e => (nope rfl e).elim, fun i j y z cc e => (nope rfl e).elim, fun i y av e ea => ?_⟩
 ·cases i with
  | zero => exact nomatch ea
  | succ i => exact nomatch Ij (i := i) (y := y) (k := .loc) e
 ·cases i with
  | zero => exact nomatch e
  | succ i =>
   obtain ⟨p, ep, rfl⟩ := Mi (i := i) (y := y) e
   obtain ⟨cc, oc, u, e1, e2, e3, e4, e5⟩ := Y.cell p.2 p.1 (ok.caps p (Dp ep))
   obtain ⟨u', rfl, ru⟩ := e5 av (Xi ep ea)
   refine ⟨cc, oc, u', ?_, (NQ e4).trans e2, e3, ru⟩
   show (Gr env.cells [] scope.names).lookup p.1 = some cc
   rw [OX (.inl (ok.inn p (Dp ep))), e1]; rfl
theorem Qg {env : Env} {cl : List (Str × Addr)} {a Cc : Addr} (h : Cc ≠ a) : El (BG sg scope x fs) (compEnvC scope cl Cc env) a := ⟨h, fun i y cc e => by
 cases i with
 | zero => exact nomatch e
 | succ i => exact nomatch Ij (i := i) (y := y) (k := .cell) e⟩
theorem NK (ok : Og sg scope x fs) (hf : SF c d (BG sg scope x fs) ifs vt) (he : SE c d (BG sg scope x fs) elt ve)
  {A : Around} {env : Env} {W : Wd} {G : Gm} {H : Hp} {F : Ag} {s : Shared} {b : YQ} {v : Value} {kk : List AV -> Hp -> Prop} (rm : Rm d A) (X : AM c.prog c.w c.h₀ W G H s.heap) (Y : Aw sg W G H F env s.heap) (r : vW W s.heap v b)
  (lp : TV b H (km vt ve (Uh F fs) H kk)) {RR : Value -> Addr -> Result -> Shared -> Prop}
  (Et : ∀ acc D C W' H' h' t m, C6 W G H s.heap W' H' h' -> AM c.prog c.w c.h₀ W' G H' h' -> RV W' (.lst acc) (.ref D) -> Gu W' G H' C -> h'.Ns C m -> El sg env C -> kk acc H' -> RR (.ref D) C (.ok .next) (sh s h' t)) :
  wpAny (model c.prog c.w) A (pyIter v) (fun it s₂ => wpAny (model c.prog c.w) A (newList []) (fun acc s₃ => wpAny (model c.prog c.w) A (newFunctionEnv scope env.globals (Gr env.cells [] scope.names) [] env.qual none .none (some env)) (fun cenv s₄ =>
   codeAny (model c.prog c.w) A (.compStart (.ListComp elt [⟨.Name x px, iter, ifs, 0⟩] scope pos) 0 it acc { cenv with scope := relabel scope env }) (RR acc cenv.locals) s₄) Ds s₃) Ds s₂) Ds s := by
 have X1 : AM c.prog c.w c.h₀ W (Du W G H s.heap) H s.heap := X.goBelow fun _ _ e => e
 refine Le X1 r lp fun sr l o el lp it0 => ?_
 obtain ⟨hl, lp⟩ := CW lp
 have offI := X1.off_new
 have X2 := (X1.pushAny o).1
 have z2 : (s.heap.push o).objs.size = s.heap.objs.size + 1 := Heap.size_push ..
 refine wpAny_newObj_type ?_
 have offD : Gu W (Du W G H s.heap) H (s.heap.push o).objs.size := X2.off_new
 have X3 := (X2.pushAny (BF [] 0)).1
 have z3 : ((s.heap.push o).push (BF [] 0)).objs.size = (s.heap.push o).objs.size + 1 := Heap.size_push ..
 refine wpAny_newFunctionEnv (s := sh s ((s.heap.push o).push (BF [] 0)) s.toks) ok.cell (fun y hy => absurd hy List.not_mem_nil) (fun h4 ns4 sb4 => ?_) ok.kind
 have offC := X3.off_new
 have X4 : AM c.prog c.w c.h₀ W (Du W G H s.heap) H h4 := (X3.pushAny _).1.offSet offC sb4
 have k4 : ∀ a ob, ((s.heap.push o).push (BF [] 0)).get? a = some ob -> h4.get? a = some ob := fun a ob e => (sb4.2 a (Nat.ne_of_lt (Heap.lt_size e))).trans (Heap.get?_push_of_some _ e)
 have it4 : Oi W h4 s.heap.objs.size 0 sr := it0.move .refl fun o e => k4 _ _ (Heap.get?_push_of_some _ e)
 have nC : El sg env ((s.heap.push o).push (BF [] 0)).objs.size := Y.notMine (by omega)
 have ID : s.heap.objs.size ≠ (s.heap.push o).objs.size := by omega
 have CI : ((s.heap.push o).push (BF [] 0)).objs.size ≠ s.heap.objs.size := by omega
 have CD : ((s.heap.push o).push (BF [] 0)).objs.size ≠ (s.heap.push o).objs.size := by omega
 have loop : ∀ t₀, codeAny (model c.prog c.w) A (.compLoop (.ListComp elt [⟨.Name x px, iter, ifs, 0⟩] scope pos) 0 (.ref s.heap.objs.size) (.ref (s.heap.push o).objs.size) (compEnvC scope (Gr env.cells [] scope.names) ((s.heap.push o).push (BF [] 0)).objs.size env)) (RR (.ref (s.heap.push o).objs.size) ((s.heap.push o).push (BF [] 0)).objs.size) (sh s h4 t₀) := fun t₀ =>
  Ug (s := sh s h4 t₀) hf he rm X4 (SD ok Y offC ns4) offI offD ID (Qg CI) (Qg CD) it4 ⟨_, k4 _ _ (Heap.get?_push_size _ rfl)⟩ el hl lp fun acc ys W' H' h5 t5 o0 le' X5 Y5 offD' pD5 ra kk => by
   obtain ⟨n, g5⟩ := pD5
   have X6 := X5.frz offD' g5
   have le6 := le'.trans (Wd.froze_le (o := { cls := .type "list", data := .seq ys n }) offD'.P)
   obtain ⟨X7, S7⟩ := X.comeBack le6 X6
   obtain ⟨mC, nsC, _⟩ := Y5.ns
   have offC6 := Y5.off.frz (o := { cls := .type "list", data := .seq ys n }) (b := ((s.heap.push o).push (BF [] 0)).objs.size) (a := (s.heap.push o).objs.size) CD
   refine Et acc _ _ _ H' h5 t5 mC S7 X7 (.lst (if_pos rfl) ⟨rfl, n, rfl⟩ (Cr.mono (Wd.froze_le offD'.P) ra)) ⟨offC6.P, ?_, offC6.H⟩ nsC nC kk
   cases g : G ((s.heap.push o).push (BF [] 0)).objs.size with
   | none => rfl
   | some ob => exact nomatch (Jo g).symm.trans offC6.G
 exact codeAny_compStart_list (loop _) (Hm (VO (s := sh s h4 _) it4 (loop _)))
end
theorem Tp {scope : Scope} {x : Str} {fs : List (Str × Nat)} (ok : Og sg scope x fs) {W : Wd} {G : Gm} {H : Hp} {F : Ag} {env : Env} {h : Heap} (Y : Aw sg W G H F env h) : closureFor scope env = pure (Gr env.cells [] scope.names) :=
 ZV fun p hp e => by
  obtain ⟨q, hq, e1⟩ := ok.free p hp e
  obtain ⟨cc, o, u, e2, _⟩ := Y.cell q.2 q.1 (ok.caps q hq)
  exact ⟨cc, by rw [<- e1]; exact e2⟩
theorem sLC {elt iter : Expr} {x : Str} {px pos : Pos} {ifs : List Expr} {scope : Scope} {fs : List (Str × Nat)} {vx vt ve} (ok : KD sg scope x fs = true) (hi : SX c d sg iter vx) (hf : SF c d (BG sg scope x fs) ifs vt) (he : SE c d (BG sg scope x fs) elt ve)
  (hd : (x == ("__debug__" : Str)) = false) (hs : ∀ env y, foldedSetIterable iter env y = pure y) : SE c d sg (.ListComp elt [⟨.Name x px, iter, ifs, 0⟩] scope pos) (oO fs vx vt ve) := fun A env W G H F s k Q rm X Y v q => by
 have ok' := NL ok
 rw [eval_ListComp]
 refine wpAny_comprehension_free (use := none) rfl (hs env) (Tp ok' Y) ok'.kind ok'.names (hi A env W G H F s _ _ rm X Y v fun b u W₁ H₁ h₁ t₁ le₁ X₁ Y₁ r₁ k₁ => ?_)
 refine NK (s := sh s h₁ t₁) (RR := fun acc C => compPost (model c.prog c.w) A Ds none Q acc C) ok' hf he rm X₁ Y₁ r₁ k₁ fun acc D C W' H' h' t m S' X' ra offC nsC nC kk => ?_
 exact ⟨m, nsC, fun h'' hs'' => q _ _ _ _ h'' t (le₁.trans S'.1) (X'.offSet offC hs'') ((Y₁.move S').offKeep nC hs''.extBut) ra kk⟩
noncomputable def RD (i : Nat) (fs : List (Str × Nat)) (vx : VX) (t : VT) (e : VE) : VS := fun F H k => oO fs vx t e F H (US i F k)
theorem bP {elt iter : Expr} {x y : Str} {px py pos spos : Pos} {ifs : List Expr} {scope : Scope} {fs : List (Str × Nat)} {i : Nat} {vx vt ve} (ok : KD sg scope x fs = true) (hi : SX c d sg iter vx) (hf : SF c d (BG sg scope x fs) ifs vt) (he : SE c d (BG sg scope x fs) elt ve)
  (hd : (x == ("__debug__" : Str)) = false) (hy : Jq sg y i) (hl : sg.scope.names.lookup y = some .local) (hp : (py.line == (Expr.pos (.ListComp elt [⟨.Name x px, iter, ifs, 0⟩] scope pos)).line) = true) (hq : (scope.names.any fun (n, k) => n == y && (k == .local || k == .cell)) = false)
  (hs : ∀ env y, foldedSetIterable iter env y = pure y) : SO c d sg (.Assign [.Name y py] (.ListComp elt [⟨.Name x px, iter, ifs, 0⟩] scope pos) spos) (RD i fs vx vt ve) := fun A env W G H F s k Q rm X Y v q => by
 have ok' := NL ok
 have hsw : swapsWith (.ListComp elt [⟨.Name x px, iter, ifs, 0⟩] scope pos) (some (.Name y py)) spos.line env = pure true := by
  have e1 : env.kindOf y = some .local := by show env.scope.names.lookup y = _; rw [Y.scope]; exact hl
  have e2 : env.blockKind = .function := by
   unfold Env.blockKind
   rw [Y.kind]; rfl
  show (pure (env.blockKind == .function && env.kindOf y == some .local && py.line == (Expr.pos (.ListComp elt [⟨.Name x px, iter, ifs, 0⟩] scope pos)).line && !(scope.names.any fun (n, k) => n == y && (k == .local || k == .cell))) : Sem Bool) = _
  rw [e1, e2, hp, hq]; rfl
 rw [exec_Assign_Name_used _ _ _ _ hsw]
 refine wpAny_bind (wpAny_standAt (wpAny_bind ?_))
 show wpAny _ A (do let _ <- comprehension (.ListComp elt [⟨.Name x px, iter, ifs, 0⟩] scope pos) scope env _ (newList []) false (eval iter env) (some (assign (.Name y py) env))) _ _ s
 refine wpAny_bind (wpAny_mono (wpAny_comprehension_free (use := some (assign (.Name y py) env)) (Q := fun _ s' => Q .next s') rfl (hs env) (Tp ok' Y) ok'.kind ok'.names (hi A env W G H F s _ _ rm X Y v fun b u W₁ H₁ h₁ t₁ le₁ X₁ Y₁ r₁ k₁ => ?_)) (fun _ s' hq => wpAny_pure (wpAny_pure hq)) fun _ _ e => e)
 refine NK (s := sh s h₁ t₁) (RR := fun acc C => compPost (model c.prog c.w) A Ds (some (assign (.Name y py) env)) (fun _ s' => Q .next s') acc C) ok' hf he rm X₁ Y₁ r₁ k₁ fun acc D C W' H' h' t m S' X' ra offC nsC nC kk => ?_
 obtain ⟨oC, esC, epC, gC, dC, rC⟩ := nsC
 have ncC : Lm oC := fun u e => by rw [dC] at e; cases e
 have Y' := Y₁.move S'
 show wpAny _ A (assign (.Name y py) env (.ref D)) _ _ _
 refine XS (d := d) hy A env W' (hold G C oC) H' F (sh s h' t) (.lst acc) (.ref D) (fun F2 H2 => H2 = H' /\ F2 = MV i (.lst acc) F) _ rm (X'.hold offC gC) (Y'.hold nC offC.G) ra ⟨rfl, rfl⟩ fun W2 H2 F2 h2 t2 le2 X2 Y2 k2 => ?_
 obtain ⟨rfl, rfl⟩ := k2
 obtain ⟨X3, off3, g3⟩ := X'.unhold offC.G X2
 have Y3 := Y2.unhold offC.G ncC
 exact ⟨m, ⟨oC, esC, epC, g3, dC, rC⟩, fun h'' hs'' => q _ _ _ _ _ h'' t2 ((le₁.trans S'.1).trans le2) (X3.offSet off3 hs'') (Y3.offKeep nC hs''.extBut) .next kk⟩
end
section
variable {c : Cx} {d : Nat} {sg : CZ}
noncomputable def kLf (H : Hp) (k : AV -> Hp -> Prop) : List AV -> Prop := fun l => gd (Ii l.length) (k (.lst l) H)
noncomputable def RU : V1 := fun x H k => dY x H (kLf H k)
theorem cb : Zq c d (.type "list") RU := fun A W G H s x u k Q rm X r p q =>
 M6 rm X r p (fun l h => (CW h).1) fun l vs m h' tk kk rl hk hD => by
  have X2 := (X.keeps hk).1.frz X.off_new hD
  have le := Wd.froze_le (o := BF vs m) X.off_new.P
  exact q (.lst l) _ _ H h' tk ⟨le, fun a o qa e => ⟨hk a o e, qa.frz (Nat.ne_of_lt (Heap.lt_size e))⟩⟩ X2 (.lst (if_pos rfl) ⟨rfl, m, rfl⟩ (Cr.mono le rl)) (CW kk).2
end
end Mine
end
section
namespace Hd
open PySem PySem.W PyProof.Rows PySem.Calls Mine
section
set_option genInjectivity false
noncomputable def body : List Stmt := behindTheImports PySem.Challenge.pw_tn0014_01
noncomputable def qU : List Stmt -> Nat -> Stmt
 | [], _ => .Pass default
 | x :: _, 0 => x
 | _ :: r, n + 1 => qU r n
noncomputable def S (n : Nat) : Stmt := qU body n
noncomputable def cB : Stmt -> List Stmt
 | .ClassDef _ _ _ b _ _ _ _ _ _ _ => b
 | _ => []
noncomputable def cN : Stmt -> Str
 | .ClassDef n _ _ _ _ _ _ _ _ _ _ => n
 | _ => nm 0
noncomputable def sA : Stmt -> List Str
 | .ClassDef _ _ _ _ _ _ _ _ _ n _ => n
 | _ => []
noncomputable def fD : Stmt -> DefRec
 | .FunctionDef n a b _ _ _ s _ _ p => ⟨n, a, b, s, p⟩
 | _ => ⟨nm 0, ⟨[], [], none, [], [], none, []⟩, [], default, default⟩
noncomputable def Ar (c : Value) (d : Option Addr) (n : Nat) (es : List DictEntry) : Obj := ⟨c, d, .dict ⟨es⟩ n, #[]⟩
noncomputable def E6 (c : Value) (d : Option Addr) (n : Nat) (es : List Value) : Obj := ⟨c, d, .seq ⟨es⟩ n, #[]⟩
noncomputable def DZ (c : Value) (d : Option Addr) (es : List Value) : Obj := ⟨c, d, .fields ⟨es⟩, #[]⟩
noncomputable def oS (o : Obj) (sl : List (Option Value)) : Obj := ⟨o.cls, o.dict, o.data, ⟨sl⟩⟩
noncomputable def es (P : Params) (k t : Nat) (v : Value) : DictEntry := ⟨PyData.keyHash P (nm k), .str (nm k) t, v⟩
noncomputable def ei (k : Int) (t : Nat) (v : Value) : DictEntry := ⟨k, .int k t, v⟩
noncomputable def vs (n t : Nat) : Value := .str (nm n) t
noncomputable def vi (n : Nat) : Value := .int n 0
noncomputable def vr (n : Nat) : Value := .ref n
noncomputable def vb (n : String) : Value := .builtin n
noncomputable def RE : Nat -> List Str -> List Value
 | _, [] => []
 | t, x :: r => .str x t :: RE (t + 1) r
noncomputable def Rq : BT -> List (Nat × Obj) -> BT
 | t, [] => t
 | t, (n, o) :: r => Rq (t.ins n o) r
noncomputable def fG : Nat -> List (Nat × Obj) -> List (Nat × Obj) -> List (Nat × Obj)
 | 0, _, _ => []
 | _ + 1, [], b => b
 | _ + 1, a, [] => a
 | n + 1, (i, x) :: a, (j, y) :: b => match Nat.blt i j with
  | true => (i, x) :: fG n a ((j, y) :: b)
  | false => (j, y) :: fG n ((i, x) :: a) b
noncomputable def q0 : Nat := 53901559791857631
noncomputable def q2 : Nat := 421105403244511
noncomputable def q3 : Nat := 113039760542812094607327
noncomputable def q4 : Nat := 883130438894441148383
noncomputable def q5 : Nat := 53901488956436447
noncomputable def jr : Nat := 53901867955744735
noncomputable def jq : Nat := 30344151541145318921183520387039
noncomputable def jo : Nat := 14469218985635115783729119
noncomputable def jn : Nat := 53901559540068319
noncomputable def UA : Nat := 2357460733860917196365705647
noncomputable def jm : Nat := 883122557733039566815
noncomputable def sd : Nat := 35350842279982780
noncomputable def sa : Nat := 29219126239
noncomputable def Jz : Nat := 4701985749183200334390723966695782
noncomputable def sZ : Nat := 79586707394791682673032113778200849983605400498082188566606920948
noncomputable def sY : Nat := 181607989948706457286640203096756581292535024167364140094220680436
noncomputable def Vs : Nat := 8277558478201666258
noncomputable def Bw : Nat := 883123151916293124063
noncomputable def FZ : Nat := 14469089781839015725264863
noncomputable def Bv : Nat := 30344074158132277796980072755167
noncomputable def Bu : Nat := 133454983862861831018029446609853876543483871
noncomputable def sW : Nat := 213465059
noncomputable def sV : Nat := 14945
noncomputable def DI : Nat := 113039831549272488013791
noncomputable def Vr : Nat := 443612566991042
noncomputable def Vq : Nat := 496078799239124
noncomputable def Vp : Nat := 514214936031948
noncomputable def T9 : Nat := 36694686467767494327832273254758
noncomputable def jl : Nat := 143812566
noncomputable def jk : Nat := 160688066
noncomputable def jj : Nat := 173040707
noncomputable def ji : Nat := 6345
noncomputable def jh : Nat := 6357
noncomputable def jg : Nat := 6473
noncomputable def jf : Nat := 6485
noncomputable def je : Nat := 6729
noncomputable def jd : Nat := 6741
noncomputable def jc : Nat := 7241
noncomputable def jb : Nat := 7253
noncomputable def ja : Nat := 177448142
noncomputable def jZ : Nat := 2904349122895
noncomputable def jY : Nat := 2460633836115
noncomputable def jX : Nat := 20293298894
noncomputable def jW : Nat := 1122498
noncomputable def jV : Nat := 38626040946518352
noncomputable def jU : Nat := 2665468932050
noncomputable def jT : Nat := 367907327504338
noncomputable def jS : Nat := 306406325858258
noncomputable def jR : Nat := 393681707233234
noncomputable def jQ : Nat := 310256277172178
noncomputable def jP : Nat := 22149443538
noncomputable def jO : Nat := 2835128479698
noncomputable def jN : Nat := 301461773791186
noncomputable def jM : Nat := 310256256462802
noncomputable def jL : Nat := 21115285458
noncomputable def jK : Nat := 23491555282
noncomputable def jJ : Nat := 10368634377471101341098692
noncomputable def jI : Nat := 1327185200316300969817170632
noncomputable def jH : Nat := 38604566110038352
noncomputable def jG : Nat := 43671042982487252
noncomputable def jF : Nat := 4941384465289357633
noncomputable def Vo : Nat := 7339049957013042379
noncomputable def sU : Nat := 243136498
noncomputable def DY : Nat := 53902072520191967
noncomputable def sT : Nat := 136698359505163025889129
noncomputable def sS : Nat := 7839600570405877746
noncomputable def sR : Nat := 967647843871140739058
noncomputable def sQ : Nat := 296794121885012686118925726819
noncomputable def sP : Nat := 118998632018437301957731
noncomputable def sO : Nat := 1068174322622514426979
noncomputable def sM : Nat := 7268114525981667565
noncomputable def sL : Nat := 930323122661023577699
noncomputable def sJ : Nat := 930323122657269854454
noncomputable def sI : Nat := 7268149395776502128
noncomputable def sH : Nat := 930323122662596720993
noncomputable def sG : Nat := 930323122657504836834
noncomputable def sF : Nat := 56782417154584822
noncomputable def sE : Nat := 7268149395786857325
noncomputable def sD : Nat := 8423349363335214315
noncomputable def r9 : Nat := 452440406718053
noncomputable def r5 : Nat := 3534690530548
noncomputable def ry : Nat := 452440419334497
noncomputable def rr : Nat := 57376253876369897
noncomputable def rp : Nat := 3943297448425
noncomputable def MX : Nat := 32292592702599530840212188461414
noncomputable def jE : Nat := 367907327504339
noncomputable def jD : Nat := 47585407970635731
noncomputable def jC : Nat := 2668681588691
noncomputable def jB : Nat := 306166640402646
noncomputable def jA : Nat := 2909202277200
noncomputable def i9 : Nat := 4869325839155061581
noncomputable def i8 : Nat := 10517323630723807793197012
noncomputable def i7 : Nat := 341591242993620
noncomputable def i6 : Nat := 1598148592966318447563796436
noncomputable def i5 : Nat := 2908652515284
noncomputable def i4 : Nat := 2599398223828
noncomputable def i3 : Nat := 218103677267924
noncomputable def Vn : Nat := 452089544981716
noncomputable def Vm : Nat := 7407035070317146829
noncomputable def Vl : Nat := 27352889939
noncomputable def rn : Nat := 136707506329199289333360
noncomputable def rk : Nat := 7268149395761869555
noncomputable def ri : Nat := 7559757883946808555
noncomputable def O7 : Nat := 601243153704342303160635237215009126
noncomputable def i2 : Nat := 36893102684975054
noncomputable def i1 : Nat := 2392484818894
noncomputable def i0 : Nat := 332176957681614
noncomputable def iz : Nat := 47655673106886606
noncomputable def iy : Nat := 148008910
noncomputable def iw : Nat := 306096297603022
noncomputable def iu : Nat := 44273679453171662
noncomputable def iq : Nat := 24064110542
noncomputable def ip : Nat := 301697179480014
noncomputable def ik : Nat := 42509512503357390
noncomputable def ij : Nat := 43635854552674254
noncomputable def ig : Nat := 38630539102744526
noncomputable def ic : Nat := 2838882217934
noncomputable def ib : Nat := 18126761934
noncomputable def ia : Nat := 2836189671374
noncomputable def iZ : Nat := 2908652515278
noncomputable def iY : Nat := 38041608118398925
noncomputable def iX : Nat := 23499878349
noncomputable def iW : Nat := 297373241733069
noncomputable def iV : Nat := 18936541133
noncomputable def Vk : Nat := 213465038
noncomputable def Vj : Nat := 31087686852
noncomputable def rh : Nat := 1896680
noncomputable def MW : Nat := 523729171482122831409256402244893030
noncomputable def iU : Nat := 372308869967832
noncomputable def iT : Nat := 21092151256
noncomputable def iS : Nat := 44233407715600198
noncomputable def iR : Nat := 363033339094854
noncomputable def iQ : Nat := 38063774941833030
noncomputable def iP : Nat := 43635854552851286
noncomputable def iO : Nat := 2423877264214
noncomputable def iN : Nat := 2909202277206
noncomputable def Vi : Nat := 1880278
noncomputable def Vh : Nat := 14150
noncomputable def Vg : Nat := 245004117
noncomputable def rf : Nat := 3807152829166
noncomputable def rd : Nat := 504742073463534
noncomputable def Yl : Nat := 564901485235516731743908406412999014
noncomputable def Vf : Nat := 65811803417653442
noncomputable def rb : Nat := 138062776254460535321331
noncomputable def E5 : Nat := 4133451537166980430358663067629926
noncomputable def iM : Nat := 780783229180944313411
noncomputable def Ve : Nat := 27329641162
noncomputable def Vd : Nat := 3944354724564
noncomputable def Vc : Nat := 3944367338694
noncomputable def Vb : Nat := 3944358703819
noncomputable def VZ : Nat := 211595481
noncomputable def T8 : Nat := 1962704
noncomputable def Yk : Nat := 244871891
noncomputable def rZ : Nat := 1650914
noncomputable def rY : Nat := 8422179208085418233
noncomputable def rX : Nat := 27614771809
noncomputable def rW : Nat := 3944358703844
noncomputable def rV : Nat := 7268149395757708514
noncomputable def rU : Nat := 1968860728475420707524374772
noncomputable def rT : Nat := 15392275606644201797251812
noncomputable def rS : Nat := 17347344485278913539159909
noncomputable def rR : Nat := 17498560810137472562919540
noncomputable def rQ : Nat := 36697201931357908195187992818803
noncomputable def rP : Nat := 76294427890403144476550380843882281318
noncomputable def rO : Nat := 1077759671716735038196
noncomputable def rN : Nat := 4660182683168143111193625024297318
noncomputable def rM : Nat := 15242414041611763656981473
noncomputable def rL : Nat := 64990797619449961601842614069181839718
noncomputable def rK : Nat := 136780438127920375494767
noncomputable def rJ : Nat := 1012686615103651346913
noncomputable def rI : Nat := 4740351950911647931473027443226982
noncomputable def rH : Nat := 452440431867874
noncomputable def rG : Nat := 76969385602484986974192375100457431789
noncomputable def rF : Nat := 161481839131879091170057679120734294229185252
noncomputable def rE : Nat := 3978441618681
noncomputable def rD : Nat := 1068597172874377802482
noncomputable def rB : Nat := 65807416901317363
noncomputable def rA : Nat := 17359315564775506731414259
noncomputable def q9 : Nat := 1123296697611599034213
noncomputable def iL : Nat := 955164036872929741306196204
noncomputable def q8 : Nat := 7338483264840562271
noncomputable def q7 : Nat := 7334603981659338335
noncomputable def q6 : Nat := 938751601146309670495
noncomputable def qz : Nat := 115446847849382129727071
noncomputable def qy : Nat := 8775755450101036639
noncomputable def qx : Nat := 939405744834656892511
noncomputable def qw : Nat := 136698366278252669466207
noncomputable def qv : Nat := 7341403567723935327
noncomputable def qu : Nat := 135527429786141705401951
noncomputable def qr : Nat := 119090516107780213470815
noncomputable def qo : Nat := 8423349363374847583
noncomputable def qn : Nat := 8422179208124986975
noncomputable def qm : Nat := 7991030221786084959
noncomputable def ql : Nat := 1962220
structure FD where
 a : Nat
 t : Nat
 u : Nat
 k : Nat
 i : Nat
 j : Nat
 m : Nat
noncomputable def FD.st (d : FD) : Stmt := match d.j with
 | 0 => S d.i
 | j + 1 => qU (cB (S d.i)) j
noncomputable def FD.r (d : FD) : DefRec := fD d.st
noncomputable def FD.q (d : FD) : Str := match d.j with
 | 0 => d.r.name
 | _ => cN (S d.i) ++ ("." : Str) ++ d.r.name
noncomputable def FD.c (d : FD) : Nat := d.a + d.k
noncomputable def FD.f (d : FD) : Nat := d.a + (d.k + 1)
noncomputable def FD.fnd (d : FD) (g : Nat) (m cd : Value) : Data := .func ⟨d.r.name, d.q, d.r.params, .stmts d.r.body, d.r.scope, g, [], .none, .none, .none, m, none, cd, .none, 0⟩
noncomputable def mds : List Value := [(vs jr 164), (vs Jz 194), (vs T9 275), (vs MX 622), (vs O7 814), (vs MW 955), (vs Yl 1115), (vs E5 1215), (vs rP 1860), (vs rN 1872), (vs rL 1882), (vs rI 1901), (vs iL 1986)]
noncomputable def FD.fn (d : FD) : Obj := ⟨.type "function", none, d.fnd 3 (mds.getD d.m .none) (vr d.c), #[]⟩
noncomputable def FD.cdo (d : FD) (x y : Value) (n : Nat) : Obj := DZ (.type "code") none [.str d.r.name d.t, .str d.q (d.t + 1), vs UA (d.t + 2), vi d.r.pos.line, vi d.r.params.args.length, vi 0, vi 0, vi 3, vr d.a, .bool true, vi 181, vr (d.a + 1), .none, x, y, vr n, vi d.u, vi d.r.pos.line, vs UA (d.u + 1)]
noncomputable def FD.cd (d : FD) : Obj := match d.k with
 | 3 => d.cdo .none .none (d.a + 2)
 | _ => d.cdo (vr (d.a + 2)) (vr (d.a + 3)) (d.a + 4)
noncomputable def FD.tm (d : FD) : Obj := ⟨.none, none, d.fnd 0 .none .none, #[]⟩
noncomputable def z0 : Obj := E6 (.type "tuple") none 0 []
noncomputable def z1 : Obj := DZ .none none []
noncomputable def FD.objs (d : FD) : List (Nat × Obj) := (d.a, z0) :: (d.a + 1, z1) :: ((match localNames d.r.params d.r.scope (.stmts d.r.body) with
 | some (n, _) => [(d.a + 2, E6 (.type "tuple") none 0 (RE (d.t + 3) n)), (d.a + 3, z0), (d.a + 4, d.tm)]
 | none => [(d.a + 2, d.tm)]) ++ [(d.c, d.cd), (d.f, d.fn)])
noncomputable def af : List FD := [⟨15, 187, 191, 5, 0, 0, 0⟩, ⟨29, 208, 214, 5, 2, 1, 1⟩, ⟨87, 409, 415, 5, 40, 1, 2⟩, ⟨94, 418, 423, 5, 40, 2, 2⟩, ⟨101, 426, 438, 5, 40, 3, 2⟩, ⟨115, 454, 459, 5, 41, 0, 2⟩, ⟨122, 462, 466, 5, 42, 0, 2⟩, ⟨129, 469, 473, 5, 43, 0, 2⟩, ⟨136, 476, 483, 5, 44, 0, 2⟩, ⟨143, 486, 491, 5, 45, 0, 2⟩, ⟨150, 494, 500, 5, 46, 0, 2⟩, ⟨157, 503, 509, 5, 47, 0, 2⟩, ⟨164, 512, 518, 5, 48, 0, 2⟩, ⟨171, 521, 527, 5, 49, 0, 2⟩, ⟨178, 530, 535, 5, 50, 0, 2⟩, ⟨185, 538, 543, 5, 51, 0, 2⟩, ⟨192, 546, 551, 5, 52, 0, 2⟩, ⟨199, 554, 559, 5, 53, 0, 2⟩, ⟨206, 562, 567, 5, 54, 0, 2⟩, ⟨213, 570, 575, 5, 55, 0, 2⟩, ⟨220, 578, 584, 5, 56, 0, 2⟩, ⟨227, 587, 593, 5, 57, 0, 2⟩, ⟨234, 596, 602, 5, 58, 0, 2⟩, ⟨241, 605, 610, 5, 59, 0, 2⟩, ⟨248, 613, 619, 5, 60, 0, 2⟩, ⟨262, 660, 672, 5, 74, 1, 3⟩, ⟨283, 714, 725, 5, 75, 1, 3⟩, ⟨304, 762, 766, 5, 76, 1, 3⟩, ⟨318, 784, 790, 5, 77, 0, 3⟩, ⟨325, 793, 801, 5, 78, 0, 3⟩, ⟨332, 804, 811, 5, 79, 0, 3⟩, ⟨346, 868, 877, 5, 101, 1, 4⟩, ⟨367, 906, 910, 5, 102, 1, 4⟩, ⟨374, 913, 920, 5, 102, 2, 4⟩, ⟨381, 923, 928, 5, 102, 3, 4⟩, ⟨388, 931, 935, 5, 102, 4, 4⟩, ⟨402, 947, 952, 5, 103, 0, 4⟩, ⟨416, 985, 994, 5, 113, 1, 5⟩, ⟨437, 1024, 1032, 5, 114, 1, 5⟩, ⟨458, 1066, 1072, 5, 115, 1, 5⟩, ⟨472, 1092, 1100, 5, 116, 0, 5⟩, ⟨479, 1103, 1112, 5, 117, 0, 5⟩, ⟨493, 1129, 1134, 5, 119, 1, 6⟩, ⟨500, 1137, 1142, 5, 119, 2, 6⟩, ⟨507, 1145, 1150, 5, 119, 3, 6⟩, ⟨514, 1153, 1158, 5, 119, 4, 6⟩, ⟨521, 1161, 1166, 5, 119, 5, 6⟩, ⟨528, 1169, 1174, 5, 119, 6, 6⟩, ⟨535, 1177, 1182, 5, 119, 7, 6⟩, ⟨549, 1202, 1212, 5, 120, 0, 6⟩, ⟨563, 1231, 1238, 5, 123, 1, 7⟩, ⟨570, 1241, 1249, 5, 123, 2, 7⟩, ⟨591, 1272, 1276, 5, 124, 1, 7⟩, ⟨598, 1279, 1288, 5, 124, 2, 7⟩, ⟨605, 1291, 1298, 5, 124, 3, 7⟩, ⟨612, 1301, 1308, 5, 124, 4, 7⟩, ⟨619, 1311, 1318, 5, 124, 5, 7⟩, ⟨626, 1321, 1327, 5, 124, 6, 7⟩, ⟨633, 1330, 1336, 5, 124, 7, 7⟩, ⟨640, 1339, 1345, 5, 124, 8, 7⟩, ⟨647, 1348, 1354, 5, 124, 9, 7⟩, ⟨654, 1357, 1363, 5, 124, 10, 7⟩, ⟨661, 1366, 1374, 5, 124, 11, 7⟩, ⟨668, 1377, 1384, 5, 124, 12, 7⟩, ⟨689, 1411, 1419, 5, 125, 1, 7⟩, ⟨710, 1442, 1449, 5, 126, 1, 7⟩, ⟨731, 1472, 1479, 5, 127, 1, 7⟩, ⟨738, 1482, 1487, 5, 127, 2, 7⟩, ⟨745, 1490, 1497, 5, 127, 3, 7⟩, ⟨752, 1500, 1505, 5, 127, 4, 7⟩, ⟨759, 1508, 1514, 5, 127, 5, 7⟩, ⟨780, 1550, 1557, 5, 128, 1, 7⟩, ⟨787, 1560, 1566, 5, 128, 2, 7⟩, ⟨794, 1569, 1576, 5, 128, 3, 7⟩, ⟨801, 1579, 1587, 5, 128, 4, 7⟩, ⟨820, 1626, 1633, 5, 129, 1, 7⟩, ⟨827, 1636, 1642, 5, 129, 2, 7⟩, ⟨834, 1645, 1650, 5, 129, 3, 7⟩, ⟨841, 1653, 1658, 5, 129, 4, 7⟩, ⟨848, 1661, 1668, 5, 129, 5, 7⟩, ⟨855, 1671, 1679, 5, 129, 6, 7⟩, ⟨862, 1682, 1689, 5, 129, 7, 7⟩, ⟨869, 1692, 1698, 5, 129, 8, 7⟩, ⟨876, 1701, 1708, 5, 129, 9, 7⟩, ⟨883, 1711, 1716, 5, 129, 10, 7⟩, ⟨890, 1719, 1723, 5, 129, 11, 7⟩, ⟨897, 1726, 1730, 5, 129, 12, 7⟩, ⟨909, 1771, 1775, 5, 130, 0, 7⟩, ⟨916, 1778, 1784, 5, 131, 0, 7⟩, ⟨923, 1787, 1792, 5, 132, 0, 7⟩, ⟨930, 1795, 1800, 5, 133, 0, 7⟩, ⟨937, 1803, 1810, 5, 134, 0, 7⟩, ⟨944, 1813, 1819, 5, 135, 0, 7⟩, ⟨951, 1822, 1832, 5, 136, 0, 7⟩, ⟨958, 1835, 1844, 5, 137, 0, 7⟩, ⟨965, 1847, 1850, 3, 138, 0, 7⟩, ⟨970, 1853, 1857, 5, 139, 0, 7⟩, ⟨977, 1862, 1869, 5, 141, 0, 8⟩, ⟨984, 1874, 1879, 5, 143, 0, 9⟩, ⟨991, 1884, 1888, 5, 145, 0, 10⟩, ⟨998, 1891, 1898, 5, 146, 0, 10⟩, ⟨1005, 1903, 1907, 5, 148, 0, 11⟩, ⟨1012, 1910, 1916, 5, 149, 0, 11⟩, ⟨1019, 1919, 1929, 5, 150, 0, 11⟩, ⟨1026, 1932, 1939, 5, 151, 0, 11⟩, ⟨1033, 1942, 1950, 5, 152, 0, 11⟩, ⟨1040, 1953, 1960, 5, 153, 0, 11⟩, ⟨1047, 1963, 1970, 5, 154, 0, 11⟩, ⟨1054, 1973, 1983, 5, 155, 0, 11⟩, ⟨1061, 1988, 1993, 5, 157, 0, 12⟩, ⟨1068, 1996, 2004, 5, 158, 0, 12⟩, ⟨1075, 2007, 2010, 3, 159, 0, 12⟩, ⟨1080, 2013, 2019, 5, 160, 0, 12⟩, ⟨1087, 2022, 2025, 3, 161, 0, 12⟩, ⟨1092, 2028, 2031, 3, 162, 0, 12⟩, ⟨1097, 2034, 2037, 3, 163, 0, 12⟩, ⟨1102, 2040, 2043, 3, 164, 0, 12⟩, ⟨1107, 2046, 2051, 5, 165, 0, 12⟩, ⟨1114, 2054, 2057, 3, 166, 0, 12⟩, ⟨1119, 2060, 2063, 3, 167, 0, 12⟩, ⟨1124, 2066, 2080, 5, 168, 0, 12⟩, ⟨1131, 2083, 2112, 5, 169, 0, 12⟩, ⟨1138, 2115, 2118, 3, 170, 0, 12⟩]
noncomputable def FD.e (P : Params) (d : FD) : DictEntry := ⟨PyData.keyHash P d.r.name, .str d.r.name (d.u + 2), .ref d.f⟩
noncomputable def dd (n : Nat) : FD := af.getD n ⟨0, 0, 0, 0, 0, 0, 0⟩
noncomputable def ef (P : Params) (n : Nat) : DictEntry := (dd n).e P
noncomputable def Qy (P : Params) (n m : Nat) : List DictEntry := ((af.drop n).take m).map (FD.e P)
noncomputable def pl (n m : Nat) : List Value := ((af.drop n).take m).flatMap fun d => [vi d.r.pos.line, vi d.r.pos.col, vr d.c]
noncomputable def zS (a : Nat) : Obj := DZ (.type "super") none [vr a, vr a, vr a]
noncomputable def zP : Obj := DZ (.type "builtin_function_or_method") none [vb "type.__prepare__", .type "type"]
noncomputable def zI (a : Nat) : Obj := DZ (.type "builtin_function_or_method") none [vb "object.__init_subclass__", vr a]
noncomputable def zD (n t a : Nat) : Obj := DZ (.type "getset_descriptor") none [vs n t, vr a, vb "function.__dict__", vb "function.__dict__#set"]
noncomputable def zW (n t a : Nat) : Obj := DZ (.type "getset_descriptor") none [vs n t, vr a, vb "ExceptionGroup.__weakref__", .none]
noncomputable def zF (c l n t : Nat) : Obj := oS ⟨.type "frame", none, .plain, #[]⟩ [some (vr c), some (vr 3), some (vr l), none, some (vs n t), none, some (vr 0)]
noncomputable def zC (n t l a : Nat) : Obj := DZ (.type "code") none [vs n t, vs n (t + 1), vs UA (t + 2), vi l, vi 0, vi 0, vi 0, vi 0, vr a, .bool false, vi 181, vr (a + 1), .none, .none, .none, .none, vi (t + 3), vi l, vs UA (t + 4)]
noncomputable def zT (o : Option Value) (n : Nat) (bs mro : List Value) (ns : Nat) (h : Bool) (sb : List Value) (t u : Nat) (w : String) (x : Bool) : Obj := oS ⟨.type "type", none, .cls ⟨nm n, bs, mro, ns, nm n, h, [], sb, false, none, false⟩, #[]⟩ [o, none, some (vs n t), some (vs n u), some (vb w), some (.bool x)]
noncomputable def t0 (P : Params) : BT := Rq .nil [(0, boot_o_0 P), (1, boot_o_1 P), (2, boot_o_2 P), (3, boot_o_3 P), (4, boot_o_4 P), (5, boot_o_5 P), (6, boot_o_6 P), (7, boot_o_7 P), (8, boot_o_8 P), (9, boot_o_9 P), (10, boot_o_10 P), (11, z0), (12, z1), (13, zC sd 182 1 11), (14, zF 13 3 jr 164)]
noncomputable def aQ (P : Params) : List DictEntry := [es P q0 165 (vs T9 275), es P q2 166 .none, es P q3 167 .none, es P q4 168 (vb "__main__.__loader__#opaque"), es P q5 169 .none, es P jq 170 (vr 6), es P jo 171 (vr 4), es P jn 173 (vs UA 172), es P jm 174 .none, ef P 0, es P Vs 226 (vr 38), es P Vr 242 (vr 51), es P Vq 258 (vr 63), es P Vp 274 (vr 75), es P jl 278 (.int 0 277), es P jk 280 (.int 1 279), es P jj 282 (.int 2 281), es P ji 284 (.int 3 283), es P jh 286 (.int 4 285), es P jg 288 (.int 5 287), es P jf 290 (.int 6 289), es P je 292 (.int 7 291), es P jd 294 (.int 8 293), es P jc 296 (.int 9 295), es P jb 298 (.int 10 297), es P ja 300 (.int 11 299), es P jZ 302 (.int 12 301), es P jY 304 (.int 13 303), es P jX 306 (.int 14 305), es P jW 308 (.int 15 307), es P jV 310 (.int 16 309), es P jU 312 (.int 1 311), es P jT 314 (.int 2 313), es P jS 316 (.int 3 315), es P jR 318 (.int 4 317), es P jQ 320 (.int 5 319), es P jP 322 (.int 6 321), es P jO 324 (.int 7 323), es P jN 326 (.int 8 325), es P jM 328 (.int 9 327), es P jL 330 (.int 10 329), es P jK 332 (.int 11 331), es P jJ 334 (.int 24 333), es P jI 336 (.int 4096 335)]
noncomputable def W4 (P : Params) : List Value := (pl 0 1 ++ [(vi 5), (vi 0), (vr 27), (vi 10), (vi 0), (vr 47), (vi 12), (vi 0), (vr 59), (vi 14), (vi 0), (vr 71)])
noncomputable def kK (P : Params) : Obj := Ar (.type "dict") none 44 (aQ P)
noncomputable def WY (P : Params) : Obj := Ar (.type "dict") none 3 [es P Bw 203 (vs Jz 194), es P Bv 207 (.int 5 206), ef P 1, es P Bu 219 (vr 36), es P DI 221 (vr 39), es P q2 222 .none]
noncomputable def WW (P : Params) : Obj := zT (some (vr 22)) Vs [(.type "Exception")] [(vr 38), (.type "Exception"), (.type "BaseException"), (.type "object")] 37 true [(vr 51), (vr 63), (vr 75)] 196 204 "Exception.__new__" true
noncomputable def WR (P : Params) : Obj := Ar (.type "dict") none 2 [es P Bw 234 (vs Jz 194), es P Bv 238 (.int 10 237), es P Bu 239 (vr 49), es P q2 240 .none]
noncomputable def WQ (P : Params) : Obj := zT (some (vr 42)) Vr [(vr 38)] [(vr 51), (vr 38), (.type "Exception"), (.type "BaseException"), (.type "object")] 50 true [] 227 235 "Exception.__new__" true
noncomputable def WO (P : Params) : Obj := Ar (.type "dict") none 2 [es P Bw 250 (vs Jz 194), es P Bv 254 (.int 12 253), es P Bu 255 (vr 61), es P q2 256 .none]
noncomputable def WN (P : Params) : Obj := zT (some (vr 54)) Vq [(vr 38)] [(vr 63), (vr 38), (.type "Exception"), (.type "BaseException"), (.type "object")] 62 true [] 243 251 "Exception.__new__" true
noncomputable def WM (P : Params) : Obj := Ar (.type "dict") none 2 [es P Bw 266 (vs Jz 194), es P Bv 270 (.int 14 269), es P Bu 271 (vr 73), es P q2 272 .none]
noncomputable def WL (P : Params) : Obj := zT (some (vr 66)) Vp [(vr 38)] [(vr 75), (vr 38), (.type "Exception"), (.type "BaseException"), (.type "object")] 74 true [] 259 267 "Exception.__new__" true
noncomputable def t37 (P : Params) : BT := Rq (t0 P) (fG 2000 (((af.drop 0).take 2).flatMap FD.objs) [(2, Ar .none none 2 [es P sZ 223 (vi 38), es P sY 224 (vi 1)]), (3, kK P), (12, DZ .none none (W4 P)), (22, E6 (.type "tuple") none 0 [(.type "Exception")]), (23, zP), (24, Ar (.type "dict") none 5 [es P Bw 203 (vs Jz 194), es P FZ 205 (vs Vs 204), es P Bv 207 (.int 5 206), ef P 1, es P Bu 219 (vr 36)]), (25, z0), (26, DZ .none none (pl 1 1)), (27, zC Vs 198 5 25), (28, zF 27 24 Jz 194), (36, E6 (.type "tuple") none 0 [(vs sV 217), (vs sW 218)]), (37, WY P), (38, WW P), (39, zW DI 220 38), (40, zS 38), (41, zI 38), (42, E6 (.type "tuple") none 0 [(vr 38)]), (43, zP), (44, Ar (.type "dict") none 4 [es P Bw 234 (vs Jz 194), es P FZ 236 (vs Vr 235), es P Bv 238 (.int 10 237), es P Bu 239 (vr 49)]), (45, z0), (46, z1), (47, zC Vr 229 10 45), (48, zF 47 44 Jz 194), (49, z0), (50, WR P), (51, WQ P), (52, zS 51), (53, zI 51), (54, E6 (.type "tuple") none 0 [(vr 38)]), (55, zP), (56, Ar (.type "dict") none 4 [es P Bw 250 (vs Jz 194), es P FZ 252 (vs Vq 251), es P Bv 254 (.int 12 253), es P Bu 255 (vr 61)]), (57, z0), (58, z1), (59, zC Vq 245 12 57), (60, zF 59 56 Jz 194), (61, z0), (62, WO P), (63, WN P), (64, zS 63), (65, zI 63), (66, E6 (.type "tuple") none 0 [(vr 38)]), (67, zP), (68, Ar (.type "dict") none 4 [es P Bw 266 (vs Jz 194), es P FZ 268 (vs Vp 267), es P Bv 270 (.int 14 269), es P Bu 271 (vr 73)]), (69, z0), (70, z1), (71, zC Vp 261 14 69), (72, zF 71 68 Jz 194), (73, z0), (74, WM P), (75, WL P), (76, zS 75), (77, zI 75)])
noncomputable def aP (P : Params) : List DictEntry := es P q0 165 (vs T9 275) :: ((aQ P).tail ++ [es P jH 365 (vr 78), es P jG 394 (vr 79)])
noncomputable def N3 (P : Params) : List DictEntry := [ei 20 366 (.int 0 277), ei 9 367 (.int 1 279), ei 10 368 (.int 2 281), ei 11 369 (.int 3 283), ei 12 370 (.int 4 285), ei 13 371 (.int 5 287), ei 14 372 (.int 6 289), ei 15 373 (.int 7 291), ei 16 374 (.int 8 293), ei 17 375 (.int 9 295), ei 18 376 (.int 10 297), ei 19 377 (.int 11 299), ei 1 378 (.int 12 301), ei 4 379 (.int 13 303)]
noncomputable def kJ (P : Params) : Obj := Ar (.type "dict") none 46 (aP P)
noncomputable def WK (P : Params) : Obj := Ar (.type "dict") none 14 [ei 0 277 (.int 20 337), ei 1 279 (.int 9 338), ei 2 281 (.int 10 339), ei 3 283 (.int 11 340), ei 4 285 (.int 12 341), ei 5 287 (.int 13 342), ei 6 289 (.int 14 343), ei 7 291 (.int 15 344), ei 8 293 (.int 16 345), ei 9 295 (.int 17 346), ei 10 297 (.int 18 347), ei 11 299 (.int 19 348), ei 12 301 (.int 1 349), ei 13 303 (.int 4 350)]
noncomputable def Nv (P : Params) : Obj := Ar (.type "dict") none 14 (N3 P)
noncomputable def t39 (P : Params) : BT := Rq (t37 P) ([(3, kJ P), (78, WK P), (79, Nv P)])
noncomputable def W3 (P : Params) : List DictEntry := es P q0 165 (vs O7 814) :: ((aP P).tail ++ ([es P jF 396 (.int 5 395), es P Vo 453 (vr 110)] ++ Qy P 5 20 ++ [es P jE 625 (.int 1 624), es P jD 627 (.int 2 626), es P jC 629 (.int 5 628), es P jB 631 (.int 0 630), es P jA 633 (.int 1 632), es P i9 635 (.int 1 634), es P i8 637 (.int 34 636), es P i7 639 (.int 35 638), es P i6 641 (.int 36 640), es P i5 643 (.int 37 642), es P i4 645 (.int 38 644), es P i3 647 (.int 39 646), es P Vn 701 (vr 271), es P Vm 749 (vr 292), es P Vl 783 (vr 313)] ++ Qy P 28 3 ++ [es P i2 817 (.int 30 816), es P i1 819 (.int 40 818), es P i0 821 (.int 50 820), es P iz 823 (.int 53 822), es P iy 825 (.int 54 824), es P iw 827 (.int 55 826), es P iu 829 (.int 66 828), es P iq 831 (.int 68 830), es P ip 833 (.int 71 832), es P ik 835 (.int 72 834), es P ij 837 (.int 87 836), es P ig 839 (.int 91 838), es P ic 841 (.int 92 840), es P ib 843 (.int 96 842), es P ia 845 (.int 99 844), es P iZ 847 (.int 110 846), es P iY 849 (.int 16 848), es P iX 851 (.int 2048 850), es P iW 853 (.int 4096 852)]))
noncomputable def TS (P : Params) : List Value := (vi 1) :: ((W4 P).tail ++ ([(vi 50), (vi 0), (vr 85)] ++ pl 5 20 ++ [(vi 214), (vi 0), (vr 260), (vi 240), (vi 0), (vr 281), (vi 257), (vi 0), (vr 302)] ++ pl 28 3))
noncomputable def ck (P : Params) : Obj := Ar (.type "dict") none 105 (W3 P)
noncomputable def Pu (P : Params) : Obj := Ar (.type "dict") none 4 ([es P Bw 404 (vs T9 275), es P Bv 408 (.int 50 407)] ++ Qy P 2 3 ++ [es P Bu 446 (vr 108), es P DY 448 (vr 111), es P DI 450 (vr 112), es P q2 451 .none])
noncomputable def Pt (P : Params) : Obj := zT none Vo [(.type "object")] [(vr 110), (.type "object")] 109 true [] 397 405 "object.__new__" true
noncomputable def Pq (P : Params) : Obj := Ar (.type "dict") none 4 [es P Bw 655 (vs MX 622), es P Bv 659 (.int 214 658), ef P 25, es P Bu 694 (vr 269), es P DY 696 (vr 272), es P DI 698 (vr 273), es P q2 699 .none]
noncomputable def Pp (P : Params) : Obj := zT none Vn [(.type "object")] [(vr 271), (.type "object")] 270 true [] 648 656 "object.__new__" true
noncomputable def Po (P : Params) : Obj := Ar (.type "dict") none 4 [es P Bw 709 (vs MX 622), es P Bv 713 (.int 240 712), ef P 26, es P Bu 742 (vr 290), es P DY 744 (vr 293), es P DI 746 (vr 294), es P q2 747 .none]
noncomputable def Pn (P : Params) : Obj := zT none Vm [(.type "object")] [(vr 292), (.type "object")] 291 true [] 702 710 "object.__new__" true
noncomputable def Pm (P : Params) : Obj := Ar (.type "dict") none 4 [es P Bw 757 (vs MX 622), es P Bv 761 (.int 257 760), ef P 27, es P Bu 776 (vr 311), es P DY 778 (vr 314), es P DI 780 (vr 315), es P q2 781 .none]
noncomputable def Pl (P : Params) : Obj := zT none Vl [(.type "object")] [(vr 313), (.type "object")] 312 true [] 750 758 "object.__new__" true
noncomputable def gO (P : Params) : BT := Rq (t39 P) (fG 2000 (((af.drop 2).take 29).flatMap FD.objs) [(3, ck P), (12, DZ .none none (TS P)), (80, z0), (81, zP), (82, Ar (.type "dict") none 7 ([es P Bw 404 (vs T9 275), es P FZ 406 (vs Vo 405), es P Bv 408 (.int 50 407)] ++ Qy P 2 3 ++ [es P Bu 446 (vr 108)])), (83, z0), (84, DZ .none none (pl 2 3)), (85, zC Vo 399 50 83), (86, zF 85 82 T9 275), (108, E6 (.type "tuple") none 0 (RE 441 (sA (S 40)))), (109, Pu P), (110, Pt P), (111, zD DY 447 110), (112, zW DI 449 110), (113, zS 110), (114, zI 110), (255, z0), (256, zP), (257, Ar (.type "dict") none 5 [es P Bw 655 (vs MX 622), es P FZ 657 (vs Vn 656), es P Bv 659 (.int 214 658), ef P 25, es P Bu 694 (vr 269)]), (258, z0), (259, DZ .none none (pl 25 1)), (260, zC Vn 650 214 258), (261, zF 260 257 MX 622), (269, E6 (.type "tuple") none 0 (RE 675 (sA (S 74)))), (270, Pq P), (271, Pp P), (272, zD DY 695 271), (273, zW DI 697 271), (274, zS 271), (275, zI 271), (276, z0), (277, zP), (278, Ar (.type "dict") none 5 [es P Bw 709 (vs MX 622), es P FZ 711 (vs Vm 710), es P Bv 713 (.int 240 712), ef P 26, es P Bu 742 (vr 290)]), (279, z0), (280, DZ .none none (pl 26 1)), (281, zC Vm 704 240 279), (282, zF 281 278 MX 622), (290, E6 (.type "tuple") none 0 (RE 728 (sA (S 75)))), (291, Po P), (292, Pn P), (293, zD DY 743 292), (294, zW DI 745 292), (295, zS 292), (296, zI 292), (297, z0), (298, zP), (299, Ar (.type "dict") none 5 [es P Bw 757 (vs MX 622), es P FZ 759 (vs Vl 758), es P Bv 761 (.int 257 760), ef P 27, es P Bu 776 (vr 311)]), (300, z0), (301, DZ .none none (pl 27 1)), (302, zC Vl 752 257 300), (303, zF 302 299 MX 622), (311, E6 (.type "tuple") none 0 (RE 769 (sA (S 76)))), (312, Pm P), (313, Pl P), (314, zD DY 777 313), (315, zW DI 779 313), (316, zS 313), (317, zI 313)])
noncomputable def c9 (P : Params) : List DictEntry := es P q0 165 (vs E5 1215) :: ((W3 P).tail ++ [es P iV 855 (.int 8192 854), es P Vk 893 (vr 355), es P Vj 946 (vr 397), ef P 36, es P iU 958 (.int 1 957), es P iT 960 (.int 14 959), es P iS 962 (.int 0 961), es P iR 964 (.int 1 963), es P iQ 966 (.int 2 965), es P iP 968 (.int 1 967), es P iO 970 (.int 2 969), es P iN 972 (.int 4 971), es P Vi 1011 (vr 425), es P Vh 1053 (vr 446), es P Vg 1091 (vr 467), ef P 40, ef P 41, es P Vf 1201 (vr 544), ef P 49, es P iM 1218 (.int 50 1217), es P Ve 1259 (vr 579), es P Vd 1398 (vr 677), es P Vc 1429 (vr 698), es P Vb 1459 (vr 719), es P VZ 1537 (vr 768), es P T8 1613 (vr 810)])
noncomputable def TQ (P : Params) : List Value := (vi 1) :: ((TS P).tail ++ ([(vi 306), (vi 0), (vr 344), (vi 315), (vi 0), (vr 365)] ++ pl 36 1 ++ [(vi 339), (vi 0), (vr 414), (vi 349), (vi 0), (vr 435), (vi 363), (vi 0), (vr 456)] ++ pl 40 2 ++ [(vi 388), (vi 0), (vr 491)] ++ pl 49 1 ++ [(vi 435), (vi 0), (vr 561), (vi 442), (vi 0), (vr 589), (vi 482), (vi 0), (vr 687), (vi 486), (vi 0), (vr 708), (vi 490), (vi 0), (vr 729), (vi 518), (vi 0), (vr 778)]))
noncomputable def cj (P : Params) : Obj := Ar (.type "dict") none 131 (c9 P)
noncomputable def Pk (P : Params) : Obj := Ar (.type "dict") none 4 [es P Bw 863 (vs O7 814), es P Bv 867 (.int 306 866), ef P 31, es P Bu 886 (vr 353), es P DY 888 (vr 356), es P DI 890 (vr 357), es P q2 891 .none]
noncomputable def Pj (P : Params) : Obj := zT none Vk [(.type "object")] [(vr 355), (.type "object")] 354 true [] 856 864 "object.__new__" true
noncomputable def Ph (P : Params) : Obj := Ar (.type "dict") none 4 ([es P Bw 901 (vs O7 814), es P Bv 905 (.int 315 904)] ++ Qy P 32 4 ++ [es P Bu 939 (vr 395), es P DY 941 (vr 398), es P DI 943 (vr 399), es P q2 944 .none])
noncomputable def Pg (P : Params) : Obj := zT none Vj [(.type "object")] [(vr 397), (.type "object")] 396 true [] 894 902 "object.__new__" true
noncomputable def Pf (P : Params) : Obj := Ar (.type "dict") none 4 [es P Bw 980 (vs MW 955), es P Bv 984 (.int 339 983), ef P 37, es P Bu 1004 (vr 423), es P DY 1006 (vr 426), es P DI 1008 (vr 427), es P q2 1009 .none]
noncomputable def Pe (P : Params) : Obj := zT none Vi [(.type "object")] [(vr 425), (.type "object")] 424 true [] 973 981 "object.__new__" true
noncomputable def Pd (P : Params) : Obj := Ar (.type "dict") none 4 [es P Bw 1019 (vs MW 955), es P Bv 1023 (.int 349 1022), ef P 38, es P Bu 1046 (vr 444), es P DY 1048 (vr 447), es P DI 1050 (vr 448), es P q2 1051 .none]
noncomputable def Pc (P : Params) : Obj := zT none Vh [(.type "object")] [(vr 446), (.type "object")] 445 true [] 1012 1020 "object.__new__" true
noncomputable def Pb (P : Params) : Obj := Ar (.type "dict") none 4 [es P Bw 1061 (vs MW 955), es P Bv 1065 (.int 363 1064), ef P 39, es P Bu 1084 (vr 465), es P DY 1086 (vr 468), es P DI 1088 (vr 469), es P q2 1089 .none]
noncomputable def PZ (P : Params) : Obj := zT none Vg [(.type "object")] [(vr 467), (.type "object")] 466 true [] 1054 1062 "object.__new__" true
noncomputable def PY (P : Params) : Obj := Ar (.type "dict") none 4 ([es P Bw 1124 (vs Yl 1115), es P Bv 1128 (.int 388 1127)] ++ Qy P 42 7 ++ [es P Bu 1194 (vr 542), es P DY 1196 (vr 545), es P DI 1198 (vr 546), es P q2 1199 .none])
noncomputable def PX (P : Params) : Obj := zT none Vf [(.type "object")] [(vr 544), (.type "object")] 543 true [] 1117 1125 "object.__new__" true
noncomputable def PW (P : Params) : Obj := Ar (.type "dict") none 4 [es P Bw 1226 (vs E5 1215), es P Bv 1230 (.int 435 1229), ef P 50, ef P 51, es P Bu 1252 (vr 577), es P DY 1254 (vr 580), es P DI 1256 (vr 581), es P q2 1257 .none]
noncomputable def PV (P : Params) : Obj := zT none Ve [(.type "object")] [(vr 579), (.type "object")] 578 true [] 1219 1227 "object.__new__" true
noncomputable def PU (P : Params) : Obj := Ar (.type "dict") none 4 ([es P Bw 1267 (vs E5 1215), es P Bv 1271 (.int 442 1270)] ++ Qy P 52 12 ++ [es P Bu 1391 (vr 675), es P DY 1393 (vr 678), es P DI 1395 (vr 679), es P q2 1396 .none])
noncomputable def PS (P : Params) : Obj := zT none Vd [(.type "object")] [(vr 677), (.type "object")] 676 true [] 1260 1268 "object.__new__" true
noncomputable def PR (P : Params) : Obj := Ar (.type "dict") none 4 [es P Bw 1406 (vs E5 1215), es P Bv 1410 (.int 482 1409), ef P 64, es P Bu 1422 (vr 696), es P DY 1424 (vr 699), es P DI 1426 (vr 700), es P q2 1427 .none]
noncomputable def PQ (P : Params) : Obj := zT none Vc [(.type "object")] [(vr 698), (.type "object")] 697 true [] 1399 1407 "object.__new__" true
noncomputable def PO (P : Params) : Obj := Ar (.type "dict") none 4 [es P Bw 1437 (vs E5 1215), es P Bv 1441 (.int 486 1440), ef P 65, es P Bu 1452 (vr 717), es P DY 1454 (vr 720), es P DI 1456 (vr 721), es P q2 1457 .none]
noncomputable def PN (P : Params) : Obj := zT none Vb [(.type "object")] [(vr 719), (.type "object")] 718 true [] 1430 1438 "object.__new__" true
noncomputable def PM (P : Params) : Obj := Ar (.type "dict") none 4 ([es P Bw 1467 (vs E5 1215), es P Bv 1471 (.int 490 1470)] ++ Qy P 66 5 ++ [es P Bu 1530 (vr 766), es P DY 1532 (vr 769), es P DI 1534 (vr 770), es P q2 1535 .none])
noncomputable def PL (P : Params) : Obj := zT none VZ [(.type "object")] [(vr 768), (.type "object")] 767 true [(vr 810)] 1460 1468 "object.__new__" true
noncomputable def PK (P : Params) : Obj := Ar (.type "dict") none 2 ([es P Bw 1545 (vs E5 1215), es P Bv 1549 (.int 518 1548)] ++ Qy P 71 4 ++ [es P Bu 1610 (vr 808), es P q2 1611 .none])
noncomputable def WJ (P : Params) : Obj := zT (some (vr 773)) T8 [(vr 768)] [(vr 810), (vr 768), (.type "object")] 809 true [] 1538 1546 "object.__new__" true
noncomputable def gM (P : Params) : BT := Rq (gO P) (fG 2000 (((af.drop 31).take 44).flatMap FD.objs) [(3, cj P), (12, DZ .none none (TQ P)), (339, z0), (340, zP), (341, Ar (.type "dict") none 5 [es P Bw 863 (vs O7 814), es P FZ 865 (vs Vk 864), es P Bv 867 (.int 306 866), ef P 31, es P Bu 886 (vr 353)]), (342, z0), (343, DZ .none none (pl 31 1)), (344, zC Vk 858 306 342), (345, zF 344 341 O7 814), (353, E6 (.type "tuple") none 0 (RE 880 (sA (S 101)))), (354, Pk P), (355, Pj P), (356, zD DY 887 355), (357, zW DI 889 355), (358, zS 355), (359, zI 355), (360, z0), (361, zP), (362, Ar (.type "dict") none 8 ([es P Bw 901 (vs O7 814), es P FZ 903 (vs Vj 902), es P Bv 905 (.int 315 904)] ++ Qy P 32 4 ++ [es P Bu 939 (vr 395)])), (363, z0), (364, DZ .none none (pl 32 4)), (365, zC Vj 896 315 363), (366, zF 365 362 O7 814), (395, E6 (.type "tuple") none 0 [(vs sU 938)]), (396, Ph P), (397, Pg P), (398, zD DY 940 397), (399, zW DI 942 397), (400, zS 397), (401, zI 397), (409, z0), (410, zP), (411, Ar (.type "dict") none 5 [es P Bw 980 (vs MW 955), es P FZ 982 (vs Vi 981), es P Bv 984 (.int 339 983), ef P 37, es P Bu 1004 (vr 423)]), (412, z0), (413, DZ .none none (pl 37 1)), (414, zC Vi 975 339 412), (415, zF 414 411 MW 955), (423, E6 (.type "tuple") none 0 (RE 997 (sA (S 113)))), (424, Pf P), (425, Pe P), (426, zD DY 1005 425), (427, zW DI 1007 425), (428, zS 425), (429, zI 425), (430, z0), (431, zP), (432, Ar (.type "dict") none 5 [es P Bw 1019 (vs MW 955), es P FZ 1021 (vs Vh 1020), es P Bv 1023 (.int 349 1022), ef P 38, es P Bu 1046 (vr 444)]), (433, z0), (434, DZ .none none (pl 38 1)), (435, zC Vh 1014 349 433), (436, zF 435 432 MW 955), (444, E6 (.type "tuple") none 0 (RE 1035 (sA (S 114)))), (445, Pd P), (446, Pc P), (447, zD DY 1047 446), (448, zW DI 1049 446), (449, zS 446), (450, zI 446), (451, z0), (452, zP), (453, Ar (.type "dict") none 5 [es P Bw 1061 (vs MW 955), es P FZ 1063 (vs Vg 1062), es P Bv 1065 (.int 363 1064), ef P 39, es P Bu 1084 (vr 465)]), (454, z0), (455, DZ .none none (pl 39 1)), (456, zC Vg 1056 363 454), (457, zF 456 453 MW 955), (465, E6 (.type "tuple") none 0 (RE 1075 (sA (S 115)))), (466, Pb P), (467, PZ P), (468, zD DY 1085 467), (469, zW DI 1087 467), (470, zS 467), (471, zI 467), (486, z0), (487, zP), (488, Ar (.type "dict") none 11 ([es P Bw 1124 (vs Yl 1115), es P FZ 1126 (vs Vf 1125), es P Bv 1128 (.int 388 1127)] ++ Qy P 42 7 ++ [es P Bu 1194 (vr 542)])), (489, z0), (490, DZ .none none (pl 42 7)), (491, zC Vf 1119 388 489), (492, zF 491 488 Yl 1115), (542, E6 (.type "tuple") none 0 (RE 1185 (sA (S 119)))), (543, PY P), (544, PX P), (545, zD DY 1195 544), (546, zW DI 1197 544), (547, zS 544), (548, zI 544), (556, z0), (557, zP), (558, Ar (.type "dict") none 6 [es P Bw 1226 (vs E5 1215), es P FZ 1228 (vs Ve 1227), es P Bv 1230 (.int 435 1229), ef P 50, ef P 51, es P Bu 1252 (vr 577)]), (559, z0), (560, DZ .none none (pl 50 2)), (561, zC Ve 1221 435 559), (562, zF 561 558 E5 1215), (577, z0), (578, PW P), (579, PV P), (580, zD DY 1253 579), (581, zW DI 1255 579), (582, zS 579), (583, zI 579), (584, z0), (585, zP), (586, Ar (.type "dict") none 16 ([es P Bw 1267 (vs E5 1215), es P FZ 1269 (vs Vd 1268), es P Bv 1271 (.int 442 1270)] ++ Qy P 52 12 ++ [es P Bu 1391 (vr 675)])), (587, z0), (588, DZ .none none (pl 52 12)), (589, zC Vd 1262 442 587), (590, zF 589 586 E5 1215), (675, E6 (.type "tuple") none 0 (RE 1387 (sA (S 124)))), (676, PU P), (677, PS P), (678, zD DY 1392 677), (679, zW DI 1394 677), (680, zS 677), (681, zI 677), (682, z0), (683, zP), (684, Ar (.type "dict") none 5 [es P Bw 1406 (vs E5 1215), es P FZ 1408 (vs Vc 1407), es P Bv 1410 (.int 482 1409), ef P 64, es P Bu 1422 (vr 696)]), (685, z0), (686, DZ .none none (pl 64 1)), (687, zC Vc 1401 482 685), (688, zF 687 684 E5 1215), (696, z0), (697, PR P), (698, PQ P), (699, zD DY 1423 698), (700, zW DI 1425 698), (701, zS 698), (702, zI 698), (703, z0), (704, zP), (705, Ar (.type "dict") none 5 [es P Bw 1437 (vs E5 1215), es P FZ 1439 (vs Vb 1438), es P Bv 1441 (.int 486 1440), ef P 65, es P Bu 1452 (vr 717)]), (706, z0), (707, DZ .none none (pl 65 1)), (708, zC Vb 1432 486 706), (709, zF 708 705 E5 1215), (717, z0), (718, PO P), (719, PN P), (720, zD DY 1453 719), (721, zW DI 1455 719), (722, zS 719), (723, zI 719), (724, z0), (725, zP), (726, Ar (.type "dict") none 9 ([es P Bw 1467 (vs E5 1215), es P FZ 1469 (vs VZ 1468), es P Bv 1471 (.int 490 1470)] ++ Qy P 66 5 ++ [es P Bu 1530 (vr 766)])), (727, z0), (728, DZ .none none (pl 66 5)), (729, zC VZ 1462 490 727), (730, zF 729 726 E5 1215), (766, E6 (.type "tuple") none 0 (RE 1517 (sA (S 127)))), (767, PM P), (768, PL P), (769, zD DY 1531 768), (770, zW DI 1533 768), (771, zS 768), (772, zI 768), (773, E6 (.type "tuple") none 0 [(vr 768)]), (774, zP), (775, Ar (.type "dict") none 8 ([es P Bw 1545 (vs E5 1215), es P FZ 1547 (vs T8 1546), es P Bv 1549 (.int 518 1548)] ++ Qy P 71 4 ++ [es P Bu 1610 (vr 808)])), (776, z0), (777, DZ .none none (pl 71 4)), (778, zC T8 1540 518 776), (779, zF 778 775 E5 1215), (808, E6 (.type "tuple") none 0 (RE 1590 (sA (S 128)))), (809, PK P), (810, WJ P), (811, zS 810), (812, zI 810)])
noncomputable def c8 (P : Params) : List DictEntry := [es P q0 165 (vs iL 1986), es P q2 166 .none, es P q3 167 .none, es P q4 168 (vb "__main__.__loader__#opaque"), es P q5 169 .none, es P jq 170 (vr 6), es P jo 171 (vr 4), es P jn 173 (vs UA 172), es P jm 174 .none, es P sa 193 (vr 21), es P Vs 226 (vr 38), es P Vr 242 (vr 51), es P Vq 258 (vr 63), es P Vp 274 (vr 75), es P jl 278 (.int 0 277), es P jk 280 (.int 1 279), es P jj 282 (.int 2 281), es P ji 284 (.int 3 283), es P jh 286 (.int 4 285), es P jg 288 (.int 5 287), es P jf 290 (.int 6 289), es P je 292 (.int 7 291), es P jd 294 (.int 8 293), es P jc 296 (.int 9 295), es P jb 298 (.int 10 297), es P ja 300 (.int 11 299), es P jZ 302 (.int 12 301), es P jY 304 (.int 13 303), es P jX 306 (.int 14 305), es P jW 308 (.int 15 307), es P jV 310 (.int 16 309), es P jU 312 (.int 1 311), es P jT 314 (.int 2 313), es P jS 316 (.int 3 315), es P jR 318 (.int 4 317), es P jQ 320 (.int 5 319), es P jP 322 (.int 6 321), es P jO 324 (.int 7 323), es P jN 326 (.int 8 325), es P jM 328 (.int 9 327), es P jL 330 (.int 10 329), es P jK 332 (.int 11 331), es P jJ 334 (.int 24 333), es P jI 336 (.int 4096 335), es P jH 365 (vr 78), es P jG 394 (vr 79), es P jF 396 (.int 5 395), es P Vo 453 (vr 110), es P sT 461 (vr 121), es P sS 468 (vr 128), es P sR 475 (vr 135), es P sQ 485 (vr 142), es P sP 493 (vr 149), es P sO 502 (vr 156), es P sM 511 (vr 163), es P sL 520 (vr 170), es P sJ 529 (vr 177), es P sI 537 (vr 184), es P sH 545 (vr 191), es P sG 553 (vr 198), es P sF 561 (vr 205), es P sE 569 (vr 212), es P sD 577 (vr 219), es P r9 586 (vr 226), es P r5 595 (vr 233), es P ry 604 (vr 240), es P rr 612 (vr 247), es P rp 621 (vr 254), es P jE 625 (.int 1 624), es P jD 627 (.int 2 626), es P jC 629 (.int 5 628), es P jB 631 (.int 0 630), es P jA 633 (.int 1 632), es P i9 635 (.int 1 634), es P i8 637 (.int 34 636), es P i7 639 (.int 35 638), es P i6 641 (.int 36 640), es P i5 643 (.int 37 642), es P i4 645 (.int 38 644), es P i3 647 (.int 39 646), es P Vn 701 (vr 271), es P Vm 749 (vr 292), es P Vl 783 (vr 313), es P rn 792 (vr 324), es P rk 803 (vr 331), es P ri 813 (vr 338), es P i2 817 (.int 30 816), es P i1 819 (.int 40 818), es P i0 821 (.int 50 820), es P iz 823 (.int 53 822), es P iy 825 (.int 54 824), es P iw 827 (.int 55 826), es P iu 829 (.int 66 828), es P iq 831 (.int 68 830), es P ip 833 (.int 71 832), es P ik 835 (.int 72 834), es P ij 837 (.int 87 836), es P ig 839 (.int 91 838), es P ic 841 (.int 92 840), es P ib 843 (.int 96 842), es P ia 845 (.int 99 844), es P iZ 847 (.int 110 846), es P iY 849 (.int 16 848), es P iX 851 (.int 2048 850), es P iW 853 (.int 4096 852), es P iV 855 (.int 8192 854), es P Vk 893 (vr 355), es P Vj 946 (vr 397), es P rh 954 (vr 408), es P iU 958 (.int 1 957), es P iT 960 (.int 14 959), es P iS 962 (.int 0 961), es P iR 964 (.int 1 963), es P iQ 966 (.int 2 965), es P iP 968 (.int 1 967), es P iO 970 (.int 2 969), es P iN 972 (.int 4 971), es P Vi 1011 (vr 425), es P Vh 1053 (vr 446), es P Vg 1091 (vr 467), es P rf 1102 (vr 478), es P rd 1114 (vr 485), es P Vf 1201 (vr 544), es P rb 1214 (vr 555), es P iM 1218 (.int 50 1217), es P Ve 1259 (vr 579), es P Vd 1398 (vr 677), es P Vc 1429 (vr 698), es P Vb 1459 (vr 719), es P VZ 1537 (vr 768), es P T8 1613 (vr 810), es P Yk 1770 (vr 906), es P rZ 1777 (vr 915), es P rY 1786 (vr 922), es P rX 1794 (vr 929), es P rW 1802 (vr 936), es P rV 1812 (vr 943), es P rU 1821 (vr 950), es P rT 1834 (vr 957), es P rS 1846 (vr 964), es P rR 1852 (vr 969), es P rQ 1859 (vr 976), es P rO 1871 (vr 983), es P rM 1881 (vr 990), es P rK 1890 (vr 997), es P rJ 1900 (vr 1004), es P rH 1909 (vr 1011), es P rG 1918 (vr 1018), es P rF 1931 (vr 1025), es P rE 1941 (vr 1032), es P rD 1952 (vr 1039), es P rB 1962 (vr 1046), es P rA 1972 (vr 1053), es P q9 1985 (vr 1060), es P q8 1995 (vr 1067), es P q7 2006 (vr 1074), es P q6 2012 (vr 1079), es P qz 2021 (vr 1086), es P qy 2027 (vr 1091), es P qx 2033 (vr 1096), es P qw 2039 (vr 1101), es P qv 2045 (vr 1106), es P qu 2053 (vr 1113), es P qr 2059 (vr 1118), es P qo 2065 (vr 1123), es P qn 2082 (vr 1130), es P qm 2114 (vr 1137), es P ql 2120 (vr 1142)]
noncomputable def ZC (P : Params) : List Value := (vi 1) :: ((TQ P).tail ++ ([(vi 550), (vi 0), (vr 818)] ++ pl 87 36))
noncomputable def WU (P : Params) : Obj := Ar (.type "dict") none 168 (c8 P)
noncomputable def PJ (P : Params) : Obj := zT (some (vr 773)) T8 [(vr 768)] [(vr 810), (vr 768), (.type "object")] 809 true [(vr 906)] 1538 1546 "object.__new__" true
noncomputable def PI (P : Params) : Obj := Ar (.type "dict") none 2 ([es P Bw 1621 (vs E5 1215), es P Bv 1625 (.int 550 1624)] ++ Qy P 75 12 ++ [es P Bu 1767 (vr 904), es P q2 1768 .none])
noncomputable def PH (P : Params) : Obj := zT (some (vr 813)) Yk [(vr 810)] [(vr 906), (vr 810), (vr 768), (.type "object")] 905 true [] 1614 1622 "object.__new__" true
noncomputable def gL (P : Params) : BT := Rq (gM P) (fG 2000 (((af.drop 75).take 48).flatMap FD.objs) [(3, WU P), (12, DZ .none none (ZC P)), (810, PJ P), (813, E6 (.type "tuple") none 0 [(vr 810)]), (814, zP), (815, Ar (.type "dict") none 16 ([es P Bw 1621 (vs E5 1215), es P FZ 1623 (vs Yk 1622), es P Bv 1625 (.int 550 1624)] ++ Qy P 75 12 ++ [es P Bu 1767 (vr 904)])), (816, z0), (817, DZ .none none (pl 75 12)), (818, zC Yk 1616 550 816), (819, zF 818 815 E5 1215), (904, E6 (.type "tuple") none 0 (RE 1733 (sA (S 129)))), (905, PI P), (906, PH P), (907, zS 906), (908, zI 906)])
noncomputable def lf : Life := {}
noncomputable def env : Env := { scope := PySem.Challenge.pw_tn0014_01.main.scope, locals := mainNs, globals := mainNs, cells := [], code := .ref 13, frame := some 14 }
noncomputable def pz : Pos := default
noncomputable def YO : Option Value := some (.ref 6)
noncomputable def cd : Code := .body body env
noncomputable def S0 (w : World) (os : OsState) : SharedT := ⟨t0 w.params, 15, lf, #[], {}, 187, os⟩
noncomputable def p0 : Pos := default
noncomputable def S37 (w : World) (os : OsState) : SharedT := ⟨t37 w.params, 78, lf, #[], {}, 337, os⟩
noncomputable def p37 : Pos := ⟨46, 0, 46, 13⟩
noncomputable def S39 (w : World) (os : OsState) : SharedT := ⟨t39 w.params, 80, lf, #[], {}, 395, os⟩
noncomputable def p39 : Pos := ⟨48, 0, 48, 8⟩
noncomputable def nG (w : World) (os : OsState) : SharedT := ⟨gO w.params, 339, lf, #[], {}, 854, os⟩
noncomputable def j4 : Pos := ⟨304, 0, 304, 7⟩
noncomputable def nF (w : World) (os : OsState) : SharedT := ⟨gM w.params, 813, lf, #[], {}, 1614, os⟩
noncomputable def j3 : Pos := ⟨518, 0, 549, 17⟩
noncomputable def YF (w : World) (os : OsState) : SharedT := ⟨gL w.params, 1143, lf, #[], {}, 2121, os⟩
noncomputable def j2 : Pos := ⟨948, 0, 982, 39⟩
noncomputable def Z8 : List Stmt := (body.drop 0).take 37
theorem sf (w : World) : ∀ os : OsState, segRunT treeTable PySem.Challenge.pw_tn0014_01 w 11 YO 1 1187 (S0 w os) (piecesOf Z8 env cd p0 [topFrame pz]) = some (.next, S37 w os, cd, p37) := fun os => by
 unfold piecesOf; rw [PySem.W.Fast.te10110043849684766642, PySem.W.Fast.te14364793385576792824, PySem.W.Fast.te12563942051412417395]; kernel_rfl
noncomputable def Z6 : List Stmt := (body.drop 37).take 2
noncomputable def eY (w : World) : Prop := ∀ os : OsState, segRunT treeTable PySem.Challenge.pw_tn0014_01 w 11 YO 1 413 (S37 w os) (piecesOf Z6 env cd p37 [topFrame pz]) = some (.next, S39 w os, cd, p39)
theorem jt (w : World) : eY (w.withFollow "special-get-raises" false) := fun os => by
 unfold piecesOf; rw [PySem.W.Fast.te10110043849684766642, PySem.W.Fast.te14364793385576792824, PySem.W.Fast.te12563942051412417395]; kernel_rfl
theorem js (w : World) : eY (w.withFollow "special-get-raises" true) := fun os => by
 unfold piecesOf; rw [PySem.W.Fast.te10110043849684766642, PySem.W.Fast.te14364793385576792824, PySem.W.Fast.te12563942051412417395]; kernel_rfl
theorem se : ∀ w : World, eY w := byRow2 "special-get-raises" jt js
noncomputable def VI : List Stmt := (body.drop 39).take 61
theorem jw (w : World) : ∀ os : OsState, segRunT treeTable PySem.Challenge.pw_tn0014_01 w 11 YO 1 2024 (S39 w os) (piecesOf VI env cd p39 [topFrame pz]) = some (.next, nG w os, cd, j4) := fun os => by
 unfold piecesOf; rw [PySem.W.Fast.te10110043849684766642, PySem.W.Fast.te14364793385576792824, PySem.W.Fast.te12563942051412417395]; kernel_rfl
noncomputable def VH : List Stmt := (body.drop 100).take 29
theorem jv (w : World) : ∀ os : OsState, segRunT treeTable PySem.Challenge.pw_tn0014_01 w 11 YO 1 3955 (nG w os) (piecesOf VH env cd j4 [topFrame pz]) = some (.next, nF w os, cd, j3) := fun os => by
 unfold piecesOf; rw [PySem.W.Fast.te10110043849684766642, PySem.W.Fast.te14364793385576792824, PySem.W.Fast.te12563942051412417395]; kernel_rfl
noncomputable def VF : List Stmt := (body.drop 129).take 42
theorem ju (w : World) : ∀ os : OsState, segRunT treeTable PySem.Challenge.pw_tn0014_01 w 11 YO 1 1815 (nF w os) (piecesOf VF env cd j3 [topFrame pz]) = some (.next, YF w os, cd, j2) := fun os => by
 unfold piecesOf; rw [PySem.W.Fast.te10110043849684766642, PySem.W.Fast.te14364793385576792824, PySem.W.Fast.te12563942051412417395]; kernel_rfl
theorem j5 (w : World) : (fencedOpening treeTable PySem.Challenge.pw_tn0014_01 w 18904).map (fun s => (s.heap, s.gens, s.drawn, s.toks)) = some (boot_heap w.params, Array.mk [], boot_drawn, boot_toks) :=
 boot_open rfl rfl (fun s => rfl) w
theorem size (w : World) : ((boot_heap w.params).isNs mainGlobals && (Array.mk [] : Array GenState).size == 0, (boot_heap w.params).objs.size, (boot_heap w.params).nsMap mainGlobals "__annotations__") = (true, 11, YO) := by kernel_rfl
theorem pre (w : World) (os : OsState) : topGo treeTable PySem.Challenge.pw_tn0014_01 w 11 YO 12 ⟨boot_heap w.params, Array.mk [], boot_drawn, boot_toks, os⟩ (topStub PySem.Challenge.pw_tn0014_01) = some ((S0 w os).abs, ⟨denote treeTable cd, cd, pz, [topFrame pz]⟩) := by
 rw [PySem.W.Fast.te15667345088766844465, PySem.W.Fast.te11892475500146522536, PySem.W.Fast.te14364793385576792824]; kernel_rfl
theorem Xx (w : World) (os : OsState) : segRunT treeTable PySem.Challenge.pw_tn0014_01 w 11 YO 1 1 (S0 w os) (blockOf body env cd pz [topFrame pz]) = some (.next, S0 w os, cd, p0) := by
 rw [PySem.W.Fast.te10110043849684766642, PySem.W.Fast.te14364793385576792824]; kernel_rfl
theorem Et (w : World) (os : OsState) : topRun treeTable PySem.Challenge.pw_tn0014_01 w 11 YO 2 (YF w os).abs ⟨doneF .next, cd, j2, [topFrame pz]⟩ = some (YF w os).abs := by
 rw [PySem.W.Fast.te14082659384304107361, PySem.W.Fast.te14364793385576792824]; kernel_rfl
theorem Zj : body = Z8 ++ (Z6 ++ (VI ++ (VH ++ (VF ++ [])))) := by kernel_rfl
noncomputable def Hf (P : Params) : Heap := absHeap (gL P) 1143 lf
theorem run (w : World) (os : OsState) : topRun treeTable PySem.Challenge.pw_tn0014_01 w 11 YO (12 + (1 + (1187 + (413 + (2024 + (3955 + (1815 + 2))))))) ⟨boot_heap w.params, Array.mk [], boot_drawn, boot_toks, os⟩ (topStub PySem.Challenge.pw_tn0014_01) = some (YF w os).abs := by
 refine go_top (pre w os) (piece_block (segRun_of (Xx w os)) ?_)
 rw [Zj]
 exact piece_app (segRun_of (sf w os)) (piece_app (segRun_of (se w os)) (piece_app (segRun_of (jw w os)) (piece_app (segRun_of (jv w os)) (piece_app (segRun_of (ju w os)) (piece_nil (Et w os))))))
theorem dy (w : World) (os : OsState) : (YF w os).abs = ⟨Hf w.params, Array.mk [], {}, 2121, os⟩ := by kernel_rfl
noncomputable def KF (P : Params) : Frag := [(3, WU P), (37, WY P), (38, WW P), (50, WR P), (51, WQ P), (62, WO P), (63, WN P), (74, WM P), (75, WL P), (78, WK P), (79, Nv P), (109, Pu P), (110, Pt P), (270, Pq P), (271, Pp P), (291, Po P), (292, Pn P), (312, Pm P), (313, Pl P), (354, Pk P), (355, Pj P), (396, Ph P), (397, Pg P), (424, Pf P), (425, Pe P), (445, Pd P), (446, Pc P), (466, Pb P), (467, PZ P), (543, PY P), (544, PX P), (578, PW P), (579, PV P), (676, PU P), (677, PS P), (697, PR P), (698, PQ P), (718, PO P), (719, PN P), (767, PM P), (768, PL P), (809, PK P), (810, PJ P), (905, PI P), (906, PH P)] ++ af.flatMap fun d => [(d.c, d.cd), (d.f, d.fn)]
noncomputable def KA : List Addr := [3, 37, 38, 50, 51, 62, 63, 74, 75, 78, 79, 109, 110, 270, 271, 291, 292, 312, 313, 354, 355, 396, 397, 424, 425, 445, 446, 466, 467, 543, 544, 578, 579, 676, 677, 697, 698, 718, 719, 767, 768, 809, 810, 905, 906, 20, 21, 34, 35, 92, 93, 99, 100, 106, 107, 120, 121, 127, 128, 134, 135, 141, 142, 148, 149, 155, 156, 162, 163, 169, 170, 176, 177, 183, 184, 190, 191, 197, 198, 204, 205, 211, 212, 218, 219, 225, 226, 232, 233, 239, 240, 246, 247, 253, 254, 267, 268, 288, 289, 309, 310, 323, 324, 330, 331, 337, 338, 351, 352, 372, 373, 379, 380, 386, 387, 393, 394, 407, 408, 421, 422, 442, 443, 463, 464, 477, 478, 484, 485, 498, 499, 505, 506, 512, 513, 519, 520, 526, 527, 533, 534, 540, 541, 554, 555, 568, 569, 575, 576, 596, 597, 603, 604, 610, 611, 617, 618, 624, 625, 631, 632, 638, 639, 645, 646, 652, 653, 659, 660, 666, 667, 673, 674, 694, 695, 715, 716, 736, 737, 743, 744, 750, 751, 757, 758, 764, 765, 785, 786, 792, 793, 799, 800, 806, 807, 825, 826, 832, 833, 839, 840, 846, 847, 853, 854, 860, 861, 867, 868, 874, 875, 881, 882, 888, 889, 895, 896, 902, 903, 914, 915, 921, 922, 928, 929, 935, 936, 942, 943, 949, 950, 956, 957, 963, 964, 968, 969, 975, 976, 982, 983, 989, 990, 996, 997, 1003, 1004, 1010, 1011, 1017, 1018, 1024, 1025, 1031, 1032, 1038, 1039, 1045, 1046, 1052, 1053, 1059, 1060, 1066, 1067, 1073, 1074, 1078, 1079, 1085, 1086, 1090, 1091, 1095, 1096, 1100, 1101, 1105, 1106, 1112, 1113, 1117, 1118, 1122, 1123, 1129, 1130, 1136, 1137, 1141, 1142]
theorem oI (P : Params) : KA = (KF P).map (·.1) := by kernel_rfl
noncomputable def NZ : Program := { PySem.Challenge.pw_tn0014_01 with main := { PySem.Challenge.pw_tn0014_01.main with body := [S 170] } }
noncomputable def loose : List Str := (PySem.Challenge.pw_tn0014_01.main.scope.names.map (·.1)).filter fun x => !(x == ("law" : Str))
noncomputable def Mg : Hook := kHook KF KA oI
end
noncomputable abbrev Sf (w : World) (os : OsState) : Shared := ⟨Hf w.params, Array.mk [], {}, 2121, os⟩
theorem uH (w : World) : staticsOk (importedModules PySem.Challenge.pw_tn0014_01.main.body) (boot_heap w.params) (Hf w.params) = true := by kernel_rfl
theorem uG (w : World) : namesBound PySem.Challenge.pw_tn0014_01 (Hf w.params) = true := by kernel_rfl
theorem uF (w : World) (os : OsState) : gensDone (Sf w os) = true := by kernel_rfl
theorem uE (w : World) : laidKept (boot_heap w.params) (Hf w.params) = true := by kernel_rfl
theorem lk3 (w : World) (os : OsState) : Mg.obs (Sf w os) = Mg.val w := by kernel_rfl
theorem lk2 (w : World) (os : OsState) : openSeen NZ loose (importedModules PySem.Challenge.pw_tn0014_01.main.body) (fun _ => true) true (Sf w os) = openGood NZ loose := by
 rw [PySem.W.Fast.te4187177175401517315]; kernel_rfl
theorem left : LeftO PySem.Challenge.pw_tn0014_01 NZ loose (fun _ => true) Mg.obs Mg.val 18904 :=
 LeftO.of_pieces (H₁ := Hf) (gs₁ := Array.mk []) (d₁ := {}) (k₁ := 2121) j5 size (fun w os => (run w os).trans (congrArg some (dy w os))) (by decide) fun w => funext fun os =>
  looks_pair (by rw [Bool.and_eq_true, Bool.and_eq_true, Bool.and_eq_true]; exact ⟨⟨⟨uH w, uG w⟩, uF w os⟩, uE w⟩) (looks_pair (lk2 w os) (lk3 w os))
noncomputable abbrev RW : OpenRow := PySem.Challenge.rw_tn0014_01.row
noncomputable def dr : DefRec := fD (S 170)
theorem mN : defOf NZ RW.name = some (dr, []) := by kernel_rfl
theorem mL : RW.prog.theDef RW.name = some (dr.params, dr.body, dr.scope) := by kernel_rfl
theorem uu : kwWritten? dr.params.kwonlyargs dr.params.kw_defaults = some [] := by kernel_rfl
theorem YT : looksOpen RW.prog = true := by
 rw [PySem.W.Fast.te12908688711261696721]; kernel_rfl
theorem bS : RW.partSaid = true := by
 unfold OpenRow.partSaid
 iterate 13 (refine look_both ?_ (by as_aux_lemma => kernel_rfl))
 exact YT
theorem fk : RW.wellSaid = true := by
 unfold OpenRow.wellSaid
 refine look_both (look_both bS ?_) ?_
 ·as_aux_lemma => kernel_rfl
 ·as_aux_lemma => kernel_rfl
theorem ZN : PySem.Challenge.rw_tn0014_01.wellSaid = true := by
 unfold OpenLaw.wellSaid
 rw [fk]
 kernel_rfl
theorem ur : (chainsOk NZ && opensWell RW.prog && (frees RW.toRowW && RW.within.isEmpty)) = true := by decide +kernel
theorem dq : RW.prog.bare := ⟨rfl, rfl, rfl, rfl, rfl, by decide +kernel⟩
theorem dm : RW.toRowW.promised := ⟨[.list [.int 3, .int 1]], by decide +kernel, by decide +kernel⟩
theorem mM (h : Heap) : RecFacts RW.records h := ⟨fun _ x => (List.not_mem_nil x).elim, fun _ x => (List.not_mem_nil x).elim, fun _ _ _ x => Bool.noConfusion (show false = true from x), fun _ fs x => by cases (show (none : Option (List (Str × WShape))) = some fs from x)⟩
theorem head (walk : WalkO NZ loose (fun _ _ => True) Mg.says RW.toRowW dr [] fun f vs => call f vs) : PySem.Challenge.rw_tn0014_01.Holds :=
 holds_law ZN fun said => holds_open (r := RW) (q := NZ) (loose := loose) (Xt := fun _ => true) (XP := fun _ _ => True) (Yf := Mg.obs) (Ya := Mg.val) (YP := Mg.says) (N := 18904) left Mg.of Mg.keeps (fun _ _ => trivial)
  (fun _ _ _ _ _ => trivial) mN mL uu (fun s _ => mM s.heap) (by rfl) said ur dq dm walk
end Hd
end
section
namespace Kw
open PySem PySem.W PyProof.Rows PySem.Calls Mine
section
set_option genInjectivity false

theorem bt {a b : Bool} (h : (a && b) = true) : a = true /\ b = true := by
 cases a
 ·cases h
 ·exact ⟨rfl, h⟩
theorem bf {a : Bool} (h : (!a) = true) : a = false := by cases a; rfl; cases h
structure Sh where
 t : Nat
 p : Pos := default
 a : Expr := .List [] default
 b : Expr := .List [] default
 c : Expr := .List [] default
 l : List Expr := []
 x : Str := nm 0
 u : Const := .none
 n : Nat := 0
 o : Operator := .Add
 uo : UnaryOp := .Not
 bo : BoolOp := .And
 cs : List CmpOp := []
 ks : List (Option Expr) := []
 kw : List Keyword := []
 g : List Comprehension := []
 sc : Scope := default
 q : Option Expr := none
 r : Option Expr := none
 w : Option Expr := none
noncomputable def un : Expr -> Sh
 | .Constant u n p => { t := 1, u := u, n := n, p := p }
 | .Name x p => { t := 2, x := x, p := p }
 | .Tuple l n p => { t := 3, l := l, n := n, p := p }
 | .List l p => { t := 4, l := l, p := p }
 | .BinOp a o b p => { t := 5, a := a, o := o, b := b, p := p }
 | .UnaryOp o a p => { t := 6, uo := o, a := a, p := p }
 | .BoolOp o l p => { t := 7, bo := o, l := l, p := p }
 | .IfExp a b c p => { t := 8, a := a, b := b, c := c, p := p }
 | .Compare a cs l p => { t := 9, a := a, cs := cs, l := l, p := p }
 | .Call a l kw p => { t := 10, a := a, l := l, kw := kw, p := p }
 | .Attribute a x p => { t := 11, a := a, x := x, p := p }
 | .Subscript a b p => { t := 12, a := a, b := b, p := p }
 | .Slice q r w p => { t := 13, q := q, r := r, w := w, p := p }
 | .Dict ks l p => { t := 14, ks := ks, l := l, p := p }
 | .ListComp a g sc p => { t := 15, a := a, g := g, sc := sc, p := p }
 | .SetComp .. => { t := 16 }
 | .DictComp .. => { t := 17 }
 | .Starred .. => { t := 18 }
 | .Set .. => { t := 19 }
 | _ => { t := 0 }
noncomputable def Fe (t : Nat) (s : Sh) (e : Expr) : Prop := match t with
 | 1 => e = .Constant s.u s.n s.p
 | 2 => e = .Name s.x s.p
 | 3 => e = .Tuple s.l s.n s.p
 | 4 => e = .List s.l s.p
 | 5 => e = .BinOp s.a s.o s.b s.p
 | 6 => e = .UnaryOp s.uo s.a s.p
 | 7 => e = .BoolOp s.bo s.l s.p
 | 8 => e = .IfExp s.a s.b s.c s.p
 | 9 => e = .Compare s.a s.cs s.l s.p
 | 10 => e = .Call s.a s.l s.kw s.p
 | 11 => e = .Attribute s.a s.x s.p
 | 12 => e = .Subscript s.a s.b s.p
 | 13 => e = .Slice s.q s.r s.w s.p
 | 14 => e = .Dict s.ks s.l s.p
 | 15 => e = .ListComp s.a s.g s.sc s.p
 | _ => True
theorem FJ {e : Expr} {n : Nat} (h : ((un e).t == n) = true) : Fe n (un e) e := by
 rw [<- eq_of_beq h]
 cases e <;> first | exact rfl | exact trivial
structure Sm where
 t : Nat
 p : Pos := default
 a : Expr := .List [] default
 b : Expr := .List [] default
 l : List Expr := []
 o : Operator := .Add
 q : Option Expr := none
 f : List Stmt := []
 g : List Stmt := []
noncomputable def um : Stmt -> Sm
 | .Return q p => { t := 1, q := q, p := p }
 | .Assign l a p => { t := 2, l := l, a := a, p := p }
 | .AugAssign a o b p => { t := 3, a := a, o := o, b := b, p := p }
 | .Expr a p => { t := 4, a := a, p := p }
 | .If a f g p => { t := 5, a := a, f := f, g := g, p := p }
 | .While a f g p => { t := 6, a := a, f := f, g := g, p := p }
 | .For a b f g p => { t := 7, a := a, b := b, f := f, g := g, p := p }
 | .Continue p => { t := 8, p := p }
 | _ => { t := 0 }
noncomputable def vM (t : Nat) (s : Sm) (e : Stmt) : Prop := match t with
 | 1 => e = .Return s.q s.p
 | 2 => e = .Assign s.l s.a s.p
 | 3 => e = .AugAssign s.a s.o s.b s.p
 | 4 => e = .Expr s.a s.p
 | 5 => e = .If s.a s.f s.g s.p
 | 6 => e = .While s.a s.f s.g s.p
 | 7 => e = .For s.a s.b s.f s.g s.p
 | 8 => e = .Continue s.p
 | _ => True
theorem VC {e : Stmt} {n : Nat} (h : ((um e).t == n) = true) : vM n (um e) e := by
 rw [<- eq_of_beq h]
 cases e <;> first | exact rfl | exact trivial
noncomputable def plain (e : Expr) : Bool := !((un e).t == 15 || (un e).t == 16 || (un e).t == 17)
theorem Z5 {e : Expr} (h : plain e = true) {t : Option Expr} {l : Nat} {env : Env} : swapsWith e t l env = pure false := by
 cases e <;> first | rfl | cases h
theorem gU {e o : Expr} {x : Str} {p : Pos} {l : Nat} {env : Env} : swapsWith e (some (.Attribute o x p)) l env = pure false := by
 cases e <;> rfl
theorem gR {e o i : Expr} {p : Pos} {l : Nat} {env : Env} : swapsWith e (some (.Subscript o i p)) l env = pure false := by
 cases e <;> rfl
theorem gV {i : Expr} (h : (!((un i).t == 13)) = true) (x y : Value) : subscripted i false x y = operate [x, y] (getItem x y) := by
 cases i <;> first | rfl | cases h
noncomputable def base (o : Expr) : Bool := !((un o).t == 10 && (un o).l.isEmpty)
theorem az {o : Expr} (h : base o = true) {x : Str} {env : Env} {w : Sem Value} : attributeBase o x env w = w := by
 cases o with
 | Call f a k p => cases a with
  | nil => cases h
  | cons => cases f <;> rfl
 | _ => rfl
theorem m6 {o : Expr} (h : base o = true) {x : Str} {p : Pos} (env : Env) : eval (.Attribute o x p) env = (do
  let v <- eval o env
  standAt p.atName
  let r <- holding [v] (getAttr v x true)
  letTemporaryGo o v r
  pure r) := by
 show (attributeBase o x env (eval o env) >>= _) = (eval o env >>= _)
 rw [az h]
theorem YC {es : List Expr} {env : Env} {pos : Pos} (h : Dl es = true) : (backTo pos (starEach es env)).all (!·.1) = true := by
 induction es with
 | nil => rfl
 | cons e es ih =>
  obtain ⟨h0, h1⟩ := bt h
  rw [B9 (bf h0)]
  exact ih h1
noncomputable def tr (o : Expr) (p pos : Pos) (l : List Expr) : Bool := base o && (Dl l && (Nat.blt l.length 30 && p.endLine == pos.line))
theorem P6 {o : Expr} {p pos : Pos} {l : List Expr} (h : tr o p pos l = true) {x : Str} (env : Env) : eval (.Call (.Attribute o x p) l [] pos) env = (do
     let ov <- eval o env
     standAt p.atName
     let __x <- holding [ov] (getMethod ov x (do return (<- importBound o env).getD true))
     match __x with
      | (f, first) => callWith pos f first (backTo pos (starEach l env)) []) := by
 obtain ⟨h0, h⟩ := bt h
 obtain ⟨h1, h⟩ := bt h
 obtain ⟨h2, h3⟩ := bt h
 show (attributeBase o x env (eval o env) >>= _) = (eval o env >>= _)
 rw [az h0]
 show (eval o env >>= fun ov => standAt p.atName >>= fun _ => methodCall o x p pos env ov (l.length + 0) (backTo pos (starEach l env)) []) = _
 have f : methodCallForm (l.length + 0) (backTo pos (starEach l env)) [] = true := by
  unfold methodCallForm
  rw [YC h1]
  exact decide_eq_true (Nat.lt_of_not_le fun q => absurd (Nat.le_of_ble_eq_true h2) (Nat.not_le_of_gt (Nat.lt_succ_of_le q)))
 have m : ∀ ov, methodCall o x p pos env ov (l.length + 0) (backTo pos (starEach l env)) [] = (do
   let __x <- holding [ov] (getMethod ov x (do return (<- importBound o env).getD true))
   match __x with
    | (f, first) => callWith pos f first (backTo pos (starEach l env)) []) := fun ov => by
  unfold methodCall
  rw [f]
  have e : methodCallPos true o env p pos = pure pos := by
   unfold methodCallPos
   rw [h3]; rfl
  rw [e]; rfl
 simp only [m]
theorem a7 {t : Expr} (h : BP t = false) {ts : List Expr} (env : Env) : assignEach (t :: ts) env = (false, assign t env) :: assignEach ts env := by
 cases t <;> first | rfl | cases h
theorem Od {env : Env} : ∀ {ts : List Expr}, Dl ts = true -> (assignEach ts env).length = ts.length /\ (assignEach ts env).findIdx? (·.1) = none
 | [], _ => ⟨rfl, rfl⟩
 | t :: ts, h => by
  obtain ⟨h0, h1⟩ := bt h
  obtain ⟨a, b⟩ := Od (env := env) h1
  rw [a7 (bf h0), List.length_cons, a]
  refine ⟨rfl, ?_⟩
  rw [List.findIdx?_cons, b]; rfl
theorem gQ {e : Expr} {ts : List Expr} {n l : Nat} {p : Pos} {env : Env} : swapsWithSole [.Tuple ts n p] e l env = pure false := by
 cases e <;> rfl
theorem gY {e : Expr} {ts : List Expr} (h : (!((un e).t == 3) || !(ts.length == 2 || ts.length == 3)) = true) {n : Nat} {p : Pos} {env : Env} : swappedStores [.Tuple ts n p] e env = pure none := by
 cases e <;> first | rfl | skip
 have h' : (!(ts.length == 2 || ts.length == 3)) = true := h
 unfold swappedStores
 dsimp only
 rw [h']; rfl
theorem ab {e : Expr} (h : (!((un e).t == 19)) = true) {env : Env} {x : Value} : foldedSetIterable e env x = pure x := by
 cases e <;> first | rfl | cases h
theorem m5 {i : Expr} (h : (!((un i).t == 13)) = true) (ov iv new : Value) : augStore i ov iv new = (do holding [new, ov, iv] (setItem ov iv new); release [new, ov, iv] []; pure .next) := by
 cases i <;> first | rfl | cases h
noncomputable def isT (e : Expr) : Bool := (un e).t == 6 || ((un e).t == 7 || ((un e).t == 8 || (un e).t == 9))
theorem lZ {e : Expr} (h : (!isT e) = true) {env : Env} {w : Sem Value} : isTrue e env w = (do let v <- w; standAt e.pos; holding [v] (truthy v)) := by
 cases e <;> first | rfl | cases h
end
section
set_option genInjectivity false

structure Ut {S V : Type} (J : Cx -> Nat -> CZ -> S -> V -> Prop) where
 v : V
 k : Params -> Nat -> CZ -> S -> Bool
 h : ∀ {c : Cx} {d : Nat} {g : CZ} {e : S}, c.K = Hd.KF c.w.params -> k c.w.params d g e = true -> J c d g e v
noncomputable abbrev WE := Ut SE
noncomputable abbrev WT := Ut ST
noncomputable abbrev WS := Ut SO
noncomputable abbrev WB := Ut SS
structure Wo {O : Type} (f : O -> Value -> Value -> Sem Value) where
 p : V2
 o : O
 h : ∀ {c : Cx} {d : Nat}, S2 c d (f o) p
structure PF where
 f : Addr
 vp : VP
 l : Nat
 h : ∀ {c : Cx}, c.K = Hd.KF c.w.params -> SC c l (.ref f) vp
theorem PF.sp (q : PF) {c : Cx} {d : Nat} (hc : c.K = Hd.KF c.w.params) (h : Nat.ble q.l d = true) : SP c d (.ref q.f) q.vp := (q.h hc).sp.le (Nat.le_of_ble_eq_true h)
theorem Wo.b {O : Type} [DecidableEq O] {f : O -> Value -> Value -> Sem Value} (w : Wo f) {c : Cx} {d : Nat} {o : O} (h : (o == w.o) = true) : S2 c d (f o) w.p := by
 rw [eq_of_beq h]; exact w.h
noncomputable def fM (x : Str) : Bool := !(x == ("__debug__" : Str))
noncomputable def imp (g : CZ) (x : Str) : Bool := g.scope.names.lookup x == some .globalImplicit
noncomputable def WA (b : BoolOp) := Ut fun c d g es v => SA c d g b es v
noncomputable def WV (b : BoolOp) := Ut fun c d g es v => SB c d g b es v
noncomputable abbrev oz := Ut Zp
noncomputable abbrev WX := Ut SX
noncomputable abbrev WF := Ut SF
noncomputable abbrev WP := Ut eW
noncomputable abbrev WG := Ut SG
noncomputable abbrev oy := Ut nE
noncomputable def GC : WE := ⟨vC .none, fun _ _ _ e => (un e).t == 1 && (un e).u == .none, fun _ h => by
 obtain ⟨h0, h1⟩ := bt h
 rw [FJ h0, eq_of_beq h1]; exact gy⟩
noncomputable def K0 (b : Bool) : WE := ⟨vC (.bool b), fun _ _ _ e => (un e).t == 1 && (un e).u == .bool b, fun _ h => by
 obtain ⟨h0, h1⟩ := bt h
 rw [FJ h0, eq_of_beq h1]; exact hV⟩
noncomputable def it (i : Int) : WE := ⟨vC (.int i), fun _ _ _ e => (un e).t == 1 && (un e).u == .int i, fun _ h => by
 obtain ⟨h0, h1⟩ := bt h
 rw [FJ h0, eq_of_beq h1]; exact qO⟩
noncomputable def tx (cs : List Nat) : WE := ⟨vC (.str cs), fun _ _ _ e => (un e).t == 1 && (un e).u == .str ⟨cs.toArray⟩, fun _ h => by
 obtain ⟨h0, h1⟩ := bt h
 rw [FJ h0, eq_of_beq h1]; exact qG rfl⟩
noncomputable def RK (g : CZ) (i : Nat) (x : Str) : Bool := match getL g.slots i with
 | some (y, _) => y == x
 | none => false
theorem gZ {g : CZ} {i : Nat} {x : Str} (h : RK g i x = true) : ∃ k, getL g.slots i = some (x, k) := by
 unfold RK at h
 split at h
 ·rename_i y k e
  rw [eq_of_beq h] at e; exact ⟨k, e⟩
 ·cases h
noncomputable def L (i : Nat) : WE := ⟨vL i, fun _ _ g e => (un e).t == 2 && RK g i (un e).x && fM (un e).x, fun _ h => by
 obtain ⟨h, h2⟩ := bt h
 obtain ⟨h0, h1⟩ := bt h
 obtain ⟨k, e⟩ := gZ h1
 rw [FJ h0]
 cases k with
 | loc => exact qN e (bf h2)
 | cell => exact hS e (bf h2)
 | free => exact hJ e (bf h2)⟩
noncomputable def lu (i : Int) : Option (Option Value) -> Bool
 | some (some (.int j _)) => j == i
 | _ => false
theorem lq {i : Int} : ∀ {r : Option (Option Value)}, lu i r = true -> ∃ t, r = some (some (.int i t))
 | some (some (.int j t)), h => ⟨t, by rw [eq_of_beq (show (j == i) = true from h)]⟩
noncomputable def gi (i : Int) : WE := ⟨vC (.int i), fun P _ g e => (un e).t == 2 && imp g (un e).x && lu i (nsIn (Hd.KF P) mainGlobals (un e).x) && fM (un e).x, fun hc h => by
 obtain ⟨h, h3⟩ := bt h
 obtain ⟨h, h2⟩ := bt h
 obtain ⟨h0, h1⟩ := bt h
 obtain ⟨t, e⟩ := lq h2
 rw [FJ h0]
 exact hH (eq_of_beq h1) (by rw [hc]; exact e) (bf h3)⟩
noncomputable def eN : oz := ⟨AQ, fun _ _ _ es => es.isEmpty, fun {_ _ _ es} _ h => by cases es with
 | nil => exact qK
 | cons _ _ => cases h⟩
noncomputable def eC (a : WE) (b : oz) : oz := ⟨AA a.v b.v, fun P d g es => match es with
 | [] => false
 | e :: r => !BP e && (a.k P d g e && b.k P d g r), fun {_ _ _ es} hc h => by cases es with
 | nil => cases h
 | cons e r =>
  obtain ⟨h0, h⟩ := bt h
  exact hM (a.h hc (bt h).1) (b.h hc (bt h).2) (bf h0)⟩
noncomputable def es : List WE -> oz
 | [] => eN
 | a :: r => eC a (es r)
noncomputable def tp (l : List WE) : WE := ⟨Au (es l).v, fun P d g e => (un e).t == 3 && (es l).k P d g (un e).l, fun hc h => by
 rw [FJ (bt h).1]; exact qE ((es l).h hc (bt h).2)⟩
noncomputable def ls (l : List WE) : WE := ⟨Nc (es l).v, fun P d g e => (un e).t == 4 && (es l).k P d g (un e).l, fun hc h => by
 rw [FJ (bt h).1]; exact qM ((es l).h hc (bt h).2)⟩
noncomputable def lm (l : List WE) : WE := ⟨Ot (es l).v, fun P d g e => (un e).t == 4 && (es l).k P d g (un e).l, fun hc h => by
 rw [FJ (bt h).1]; exact hE ((es l).h hc (bt h).2)⟩
noncomputable def bn (a b : WE) (o : Wo binaryOp) : WE := ⟨AL a.v b.v o.p, fun P d g e => (un e).t == 5 && (a.k P d g (un e).a && (b.k P d g (un e).b && (un e).o == o.o)), fun hc h => by
 obtain ⟨h0, h⟩ := bt h
 obtain ⟨h1, h⟩ := bt h
 rw [FJ h0]; exact qT (a.h hc h1) (b.h hc (bt h).1) (o.b (bt h).2)⟩
noncomputable def J7 {α : Type} : List α -> Option α
 | [x] => some x
 | _ => none
theorem Gl {α : Type} {f : α -> Bool} : ∀ {l : List α}, (J7 l).any f = true -> ∃ x, l = [x] /\ f x = true
 | [x], h => ⟨x, rfl, h⟩
noncomputable def cX (a b : WE) (o : Wo compareOp) (P : Params) (d : Nat) (g : CZ) (e : Expr) : Bool :=
 (un e).t == 9 && (a.k P d g (un e).a && ((J7 (un e).cs).any (· == o.o) && (J7 (un e).l).any fun x => !behindInMarks o.o x && b.k P d g x))
theorem aJ {a b : WE} {o : Wo compareOp} {P : Params} {d : Nat} {g : CZ} {e : Expr} (h : cX a b o P d g e = true) : ∃ l r p, e = .Compare l [o.o] [r] p /\ a.k P d g l = true /\ behindInMarks o.o r = false /\ b.k P d g r = true := by
 obtain ⟨h0, h⟩ := bt h
 obtain ⟨h1, h⟩ := bt h
 obtain ⟨h2, h3⟩ := bt h
 obtain ⟨q, e2, h2⟩ := Gl h2
 obtain ⟨x, e3, h3⟩ := Gl h3
 have e0 : e = .Compare (un e).a (un e).cs (un e).l (un e).p := FJ h0
 rw [e2, e3, eq_of_beq h2] at e0
 exact ⟨_, x, _, e0, h1, bf (bt h3).1, (bt h3).2⟩
noncomputable def cm (a b : WE) (o : Wo compareOp) : WE := ⟨AL a.v b.v o.p, cX a b o, fun hc h => by
 obtain ⟨l, r, p, rfl, h1, h2, h3⟩ := aJ h
 exact qQ (a.h hc h1) (b.h hc h3) o.h h2⟩
noncomputable def ng (a : WE) : WE := ⟨Nb a.v, fun P d g e => (un e).t == 6 && ((un e).uo == .USub && a.k P d g (un e).a), fun hc h => by
 obtain ⟨h0, h⟩ := bt h
 rw [FJ h0, eq_of_beq (bt h).1]; exact qL (a.h hc (bt h).2)⟩
noncomputable def ie (t : WT) (a b : WE) : WE := ⟨Ky t.v a.v b.v, fun P d g e => (un e).t == 8 && (t.k P d g (un e).a && (a.k P d g (un e).b && b.k P d g (un e).c)), fun hc h => by
 obtain ⟨h0, h⟩ := bt h
 obtain ⟨h1, h⟩ := bt h
 rw [FJ h0]; exact qP (t.h hc h1) (a.h hc (bt h).1) (b.h hc (bt h).2)⟩
noncomputable def at_ (C a : Nat) (o : WE) : WE := ⟨AI C a o.v, fun P d g e => (un e).t == 11 && (o.k P d g (un e).a && ((un e).x == nm a && (MP (Hd.KF P) C (nm a) && base (un e).a))), fun hc h => by
 obtain ⟨h0, h⟩ := bt h
 obtain ⟨h1, h⟩ := bt h
 obtain ⟨h2, h⟩ := bt h
 rw [FJ h0]; exact hX (o.h hc h1) (eq_of_beq h2) (by rw [hc]; exact (bt h).1) (m6 (bt h).2)⟩
noncomputable def ix (o i : WE) : WE := ⟨AL o.v i.v AR, fun P d g e => (un e).t == 12 && (o.k P d g (un e).a && (i.k P d g (un e).b && !((un (un e).b).t == 13))), fun hc h => by
 obtain ⟨h0, h⟩ := bt h
 obtain ⟨h1, h⟩ := bt h
 rw [FJ h0]; exact qF (o.h hc h1) (i.h hc (bt h).1) (gV (bt h).2)⟩
noncomputable def gj (f : Expr -> Bool) (e : Expr) : Bool := (un e).t == 13 && ((un e).q.isNone && ((un e).w.isNone && (un e).r.any f))
theorem eR {α : Type} {f : α -> Bool} : ∀ {o : Option α}, o.any f = true -> ∃ x, o = some x /\ f x = true
 | some x, h => ⟨x, rfl, h⟩
theorem none_ {α : Type} : ∀ {o : Option α}, o.isNone = true -> o = none
 | none, _ => rfl
theorem gc {f : Expr -> Bool} {e : Expr} (h : gj f e = true) : ∃ x p, e = .Slice none (some x) none p /\ f x = true := by
 obtain ⟨h0, h⟩ := bt h
 obtain ⟨h1, h⟩ := bt h
 obtain ⟨h2, h⟩ := bt h
 obtain ⟨x, e3, h⟩ := eR h
 have e0 : e = .Slice (un e).q (un e).r (un e).w (un e).p := FJ h0
 rw [none_ h1, none_ h2, e3] at e0
 exact ⟨x, _, e0, h⟩
noncomputable def gm (f : Expr -> Bool) (e : Expr) : Bool := (un e).t == 13 && ((un e).r.isNone && ((un e).w.isNone && (un e).q.any f))
theorem gk {f : Expr -> Bool} {e : Expr} (h : gm f e = true) : ∃ x p, e = .Slice (some x) none none p /\ f x = true := by
 obtain ⟨h0, h⟩ := bt h
 obtain ⟨h1, h⟩ := bt h
 obtain ⟨h2, h⟩ := bt h
 obtain ⟨x, e3, h⟩ := eR h
 have e0 : e = .Slice (un e).q (un e).r (un e).w (un e).p := FJ h0
 rw [none_ h1, none_ h2, e3] at e0
 exact ⟨x, _, e0, h⟩
noncomputable def cC (V : VE -> VE -> VE) (R : ∀ {c : Cx} {d : Nat} {sg : CZ} {o e : Expr} {p pos : Pos} {vo va : VE}, SE c d sg o vo -> SE c d sg e va -> SE c d sg (.Subscript o (.Slice none (some e) none p) pos) (V vo va)) (o i : WE) : WE :=
 ⟨V o.v i.v, fun P d g e => (un e).t == 12 && (o.k P d g (un e).a && gj (i.k P d g) (un e).b), fun hc h => by
 obtain ⟨h0, h⟩ := bt h
 obtain ⟨x, p, e, h1⟩ := gc (bt h).2
 rw [FJ h0, e]; exact R (o.h hc (bt h).1) (i.h hc h1)⟩
noncomputable def oT (V : VE -> VE -> VE) (R : ∀ {c : Cx} {d : Nat} {sg : CZ} {o e : Expr} {p pos : Pos} {vo va : VE}, SE c d sg o vo -> SE c d sg e va -> SE c d sg (.Subscript o (.Slice (some e) none none p) pos) (V vo va)) (o i : WE) : WE :=
 ⟨V o.v i.v, fun P d g e => (un e).t == 12 && (o.k P d g (un e).a && gm (i.k P d g) (un e).b), fun hc h => by
 obtain ⟨h0, h⟩ := bt h
 obtain ⟨x, p, e, h1⟩ := gk (bt h).2
 rw [FJ h0, e]; exact R (o.h hc (bt h).1) (i.h hc h1)⟩
noncomputable def uL := cC (Uo SuL) (cG tL)
noncomputable def uS := cC (Uo vT) (cG tK)
noncomputable def uT := cC (Uo pA) (cG tJ)
noncomputable def lL := oT (Uo vV) (gx tO)
noncomputable def lS := oT (Uo vU) (gx tN)
noncomputable def u0 (P : Params) (g : CZ) (f : Addr) (e : Expr) : Bool := (un e).t == 2 && (imp g (un e).x && (nsIn (Hd.KF P) mainGlobals (un e).x == some (some (.ref f)) && (keepIn (Hd.KF P) (.ref f) && fM (un e).x)))
theorem mQ {P : Params} {g : CZ} {f : Addr} {e : Expr} (h : u0 P g f e = true) : ∃ x p, e = .Name x p /\ g.scope.names.lookup x = some .globalImplicit /\ nsIn (Hd.KF P) mainGlobals x = some (some (.ref f)) /\ keepIn (Hd.KF P) (.ref f) = true /\ (x == ("__debug__" : Str)) = false := by
 obtain ⟨h0, h⟩ := bt h
 obtain ⟨h1, h⟩ := bt h
 obtain ⟨h2, h⟩ := bt h
 exact ⟨_, _, FJ h0, eq_of_beq h1, eq_of_beq h2, (bt h).1, bf (bt h).2⟩
noncomputable def VD (f : Expr -> Bool) (q : List Expr -> Bool) (e : Expr) : Bool := (un e).t == 10 && (f (un e).a && ((un e).kw.isEmpty && q (un e).l))
theorem Sk {f : Expr -> Bool} {q : List Expr -> Bool} {e : Expr} (h : VD f q e = true) : ∃ x l p, e = .Call x l [] p /\ f x = true /\ q l = true := by
 obtain ⟨h0, h⟩ := bt h
 obtain ⟨h1, h⟩ := bt h
 obtain ⟨h2, h⟩ := bt h
 have e0 : e = .Call (un e).a (un e).l (un e).kw (un e).p := FJ h0
 rw [List.isEmpty_iff.mp h2] at e0
 exact ⟨_, _, _, e0, h1, h⟩
theorem cons_ {α : Type} {l : List α} (h : (!l.isEmpty) = true) : ∃ a r, l = a :: r := by
 cases l with
 | nil => cases h
 | cons a r => exact ⟨a, r, rfl⟩
noncomputable def ca (q : PF) (a : WE) (l : List WE) : WE := ⟨Ai (eC a (es l)).v q.vp, fun P d g e => VD (u0 P g q.f) (fun l' => (eC a (es l)).k P d g l' && (Dl l' && !l'.isEmpty)) e && Nat.ble q.l d, fun hc h => by
 obtain ⟨x, l', p, rfl, h1, w⟩ := Sk (bt h).1
 have hl := (bt h).2
 obtain ⟨y, _, rfl, h3, h4, h5, h6⟩ := mQ h1
 obtain ⟨h7, w⟩ := bt w
 obtain ⟨h8, w⟩ := bt w
 obtain ⟨b, r, rfl⟩ := cons_ w
 exact hU ((eC a (es l)).h hc h7) (q.sp hc hl) h3 (by rw [hc]; exact h4) (by rw [hc]; exact h5) h6 (bf (bt h8).1) (bt h8).2⟩
noncomputable def c0 (q : PF) : WE := ⟨Ai AQ q.vp, fun P d g e => VD (u0 P g q.f) (·.isEmpty) e && Nat.ble q.l d, fun hc h => by
 obtain ⟨x, l', p, rfl, h1, w⟩ := Sk (bt h).1
 have hl := (bt h).2
 obtain ⟨y, _, rfl, h3, h4, h5, h6⟩ := mQ h1
 rw [List.isEmpty_iff.mp w]
 exact cL (q.sp hc hl) h3 (by rw [hc]; exact h4) (by rw [hc]; exact h5) h6⟩
noncomputable def Tz (n : Str) (f : Expr -> Bool) (q : List Expr -> Bool) (e : Expr) : Bool := (un e).t == 10 && ((un (un e).a).t == 11 && ((un (un e).a).x == n && (f (un (un e).a).a && ((un e).kw.isEmpty && (q (un e).l && tr (un (un e).a).a (un (un e).a).p (un e).p (un e).l)))))
theorem Ox {n : Str} {f : Expr -> Bool} {q : List Expr -> Bool} {e : Expr} (h : Tz n f q e = true) : ∃ o p l pos, e = .Call (.Attribute o n p) l [] pos /\ f o = true /\ q l = true /\ tr o p pos l = true := by
 obtain ⟨h0, h⟩ := bt h
 obtain ⟨h1, h⟩ := bt h
 obtain ⟨h2, h⟩ := bt h
 obtain ⟨h3, h⟩ := bt h
 obtain ⟨h4, h⟩ := bt h
 have e0 : e = .Call (un e).a (un e).l (un e).kw (un e).p := FJ h0
 have e1 : (un e).a = .Attribute (un (un e).a).a (un (un e).a).x (un (un e).a).p := FJ h1
 rw [List.isEmpty_iff.mp h4] at e0
 generalize (un e).a = m at *
 rw [e1, eq_of_beq h2] at e0
 exact ⟨_, _, _, _, e0, h3, (bt h).1, (bt h).2⟩
theorem AAT {α : Type} {f : α -> Bool} : ∀ {l : List α}, (J7 l).any f = true -> ∃ x, l = [x] /\ f x = true := Gl
noncomputable def me (C a : Nat) (o : WE) (q : PF) (b : WE) (l : List WE) : WE := ⟨DH C a o.v (eC b (es l)).v q.vp, fun P d g e => Tz (nm a) (o.k P d g) (fun l' => (eC b (es l)).k P d g l' && (Dl l' && !l'.isEmpty)) e && (Nat.ble q.l d && J4 (Hd.KF P) C (nm a) q.f), fun hc h => by
 have hl := (bt h).2
 obtain ⟨o', p, l', pos, rfl, h1, w, hm⟩ := Ox (bt h).1
 obtain ⟨h7, w⟩ := bt w
 obtain ⟨h8, w⟩ := bt w
 obtain ⟨b', r, rfl⟩ := cons_ w
 exact hC (o.h hc h1) ((eC b (es l)).h hc h7) (q.sp hc (bt hl).1) rfl (by rw [hc]; exact (bt hl).2) (bf (bt h8).1) (bt h8).2 _ (P6 hm)⟩
noncomputable def ap (o a : WE) : WE := ⟨Di o.v a.v, fun P d g e => Tz "append" (o.k P d g) (fun l => (J7 l).any fun x => !BP x && a.k P d g x) e, fun hc h => by
 obtain ⟨o', p, l', pos, rfl, h1, w, hm⟩ := Ox h
 obtain ⟨x, rfl, w2⟩ := Gl w
 exact qV (o.h hc h1) (a.h hc (bt w2).2) (bf (bt w2).1) _ (P6 hm)⟩
noncomputable def po (o : WE) : WE := ⟨bX o.v, fun P d g e => Tz "pop" (o.k P d g) (·.isEmpty) e, fun hc h => by
 obtain ⟨o', p, l', pos, rfl, h1, w, hm⟩ := Ox h
 obtain rfl := List.isEmpty_iff.mp w
 exact qJ (o.h hc h1) _ (P6 hm)⟩
noncomputable def Qu (f h : Expr -> Bool) : List Expr -> Bool
 | [x, y] => (!BP x && !BP y) && (f x && h y)
 | _ => false
theorem gB {f h : Expr -> Bool} : ∀ {l : List Expr}, Qu f h l = true -> ∃ x y, l = [x, y] /\ (BP x = false /\ BP y = false) /\ f x = true /\ h y = true
 | [x, y], q => ⟨x, y, rfl, ⟨bf (bt (bt q).1).1, bf (bt (bt q).1).2⟩, (bt (bt q).2).1, (bt (bt q).2).2⟩
noncomputable def gI (o a b : WE) : WE := ⟨Ou o.v a.v b.v, fun P d g e => Tz "get" (o.k P d g) (Qu (a.k P d g) (b.k P d g)) e, fun hc h => by
 obtain ⟨o', p, l', pos, rfl, h1, w, hm⟩ := Ox h
 obtain ⟨x, y, rfl, h2, h3, h4⟩ := gB w
 exact hG (o.h hc h1) (a.h hc h3) (b.h hc h4) h2 _ (P6 hm)⟩
noncomputable def gT_ (o a b : WE) : WE := ⟨Z1 o.v a.v b.v, fun P d g e => Tz "get" (o.k P d g) (Qu (a.k P d g) (b.k P d g)) e, fun hc h => by
 obtain ⟨o', p, l', pos, rfl, h1, w, hm⟩ := Ox h
 obtain ⟨x, y, rfl, h2, h3, h4⟩ := gB w
 exact hF (o.h hc h1) (a.h hc h3) (b.h hc h4) h2 _ (P6 hm)⟩
structure Wf where
 p : V1
 f : Value
 h : ∀ {c : Cx} {d : Nat}, Zq c d f p
 n : (∃ i, f = .builtin i) \/ ∃ i, f = .type i
noncomputable def vJ (P : Params) (g : CZ) (f : Value) (e : Expr) : Bool := (un e).t == 2 && (imp g (un e).x && (nsIn (Hd.KF P) mainGlobals (un e).x == some none && (bootBuiltins (un e).x == some f && (!((un e).x == ("__name__" : Str)) && fM (un e).x))))
theorem mm {P : Params} {g : CZ} {f : Value} {e : Expr} (h : vJ P g f e = true) : ∃ x p, e = .Name x p /\ g.scope.names.lookup x = some .globalImplicit /\ nsIn (Hd.KF P) mainGlobals x = some none /\ bootBuiltins x = some f /\ x ≠ ("__name__" : Str) /\ (x == ("__debug__" : Str)) = false := by
 obtain ⟨h0, h⟩ := bt h
 obtain ⟨h1, h⟩ := bt h
 obtain ⟨h2, h⟩ := bt h
 obtain ⟨h3, h⟩ := bt h
 exact ⟨_, _, FJ h0, eq_of_beq h1, eq_of_beq h2, eq_of_beq h3, beq_eq_false_iff_ne.mp (bf (bt h).1), bf (bt h).2⟩
noncomputable def bl (f : Wf) (a : WE) : WE := ⟨BR a.v f.p, fun P d g e => VD (vJ P g f.f) (fun l => (J7 l).any fun x => !BP x && a.k P d g x) e, fun hc h => by
 obtain ⟨x, l', p, rfl, h1, w⟩ := Sk h
 obtain ⟨y, _, rfl, h3, h4, h5, h6, h7⟩ := mm h1
 obtain ⟨z, rfl, w⟩ := Gl w
 obtain ⟨fp, ff, fh, fn⟩ := f
 rcases fn with ⟨i, rfl⟩ | ⟨i, rfl⟩
 ·exact qS (a.h hc (bt w).2) fh h3 (by rw [hc]; exact h4) h5 h6 h7 (bf (bt w).1)
 ·exact hW (a.h hc (bt w).2) fh h3 (by rw [hc]; exact h4) h5 h6 h7 (bf (bt w).1)⟩
noncomputable def BI : Wf := ⟨Hu, _, tV, .inl ⟨_, rfl⟩⟩
noncomputable def Jm : Wf := ⟨Nu, _, cY, .inr ⟨_, rfl⟩⟩
noncomputable def XY : Wf := ⟨RU, _, cb, .inr ⟨_, rfl⟩⟩
noncomputable def MJ : Wf := ⟨UH, _, tM, .inr ⟨_, rfl⟩⟩
noncomputable def mU : Wf := ⟨cS, _, tG, .inl ⟨_, rfl⟩⟩
noncomputable def d0 (a : AO) (q : Jn a = true) : WE := ⟨Dh a, fun _ _ _ e => (un e).t == 14 && ((un e).ks.isEmpty && (un e).l.isEmpty), fun hc h => by
 obtain ⟨h0, h⟩ := bt h
 rw [FJ h0, List.isEmpty_iff.mp (bt h).1, List.isEmpty_iff.mp (bt h).2]; exact cK q⟩
noncomputable def Oh : WE := d0 (.sdict []) rfl
noncomputable def Ff : WE := d0 (.idict []) rfl
noncomputable def dT0 : WE := d0 (.tdict []) rfl
noncomputable def pN : WP := ⟨Na, fun _ _ _ l => l.isEmpty, fun _ h => by rw [List.isEmpty_iff.mp h]; exact qI⟩
noncomputable def pC (a b : WE) (r : WP) : WP := ⟨Fp a.v b.v r.v, fun P d g l => match l with
 | [] => false
 | (x, y) :: l => a.k P d g x && (b.k P d g y && r.k P d g l), fun {_ _ _ l} hc h => by cases l with
 | nil => cases h
 | cons p l =>
  obtain ⟨h0, h⟩ := bt h
  exact qH (a.h hc h0) (b.h hc (bt h).1) (r.h hc (bt h).2)⟩
noncomputable def dsC (w : WP) (P : Params) (d : Nat) (g : CZ) (e : Expr) : Bool := (un e).t == 14 && (w.k P d g (Th (un e).ks (un e).l) && (!((Th (un e).ks (un e).l).length == 0) && (Nat.ble (Th (un e).ks (un e).l).length 15 && fO (un e).ks (un e).l)))
noncomputable def dI (a b : WE) (w : WP) : WE := ⟨Ih (pC a b w).v, dsC (pC a b w), fun hc h => by
 obtain ⟨h0, h⟩ := bt h
 obtain ⟨h1, h⟩ := bt h
 obtain ⟨h2, h⟩ := bt h
 rw [FJ h0]; exact cJ ((pC a b w).h hc h1) (beq_eq_false_iff_ne.mp (bf h2)) (bt h).1 (bt h).2⟩
noncomputable def dS (a b : WE) (w : WP) : WE := ⟨Nh (pC a b w).v, dsC (pC a b w), fun hc h => by
 obtain ⟨h0, h⟩ := bt h
 obtain ⟨h1, h⟩ := bt h
 obtain ⟨h2, h⟩ := bt h
 rw [FJ h0]; exact cH ((pC a b w).h hc h1) (beq_eq_false_iff_ne.mp (bf h2)) (bt h).1 (bt h).2⟩
noncomputable def v1 {b : BoolOp} (a : WE) : WV b := ⟨a.v, fun P d g l => (J7 l).any (a.k P d g), fun hc h => by
 obtain ⟨x, rfl, h⟩ := Gl h
 exact vN (a.h hc h)⟩
noncomputable def dk (f : Expr -> Bool) (q : List Expr -> Bool) : List Expr -> Bool
 | e :: r => !r.isEmpty && (f e && q r)
 | [] => false
theorem aW {f : Expr -> Bool} {q : List Expr -> Bool} : ∀ {l : List Expr}, dk f q l = true -> ∃ a b r, l = a :: b :: r /\ f a = true /\ q (b :: r) = true
 | a :: b :: r, h => ⟨a, b, r, rfl, (bt h).1, (bt h).2⟩
noncomputable def vA (a : WE) (r : WV .And) : WV .And := ⟨Ov a.v r.v, fun P d g l => dk (a.k P d g) (r.k P d g) l, fun hc h => by
 obtain ⟨x, y, z, rfl, h1, h2⟩ := aW h
 exact vP (a.h hc h1) (r.h hc h2)⟩
noncomputable def vO (a : WE) (r : WV .Or) : WV .Or := ⟨bY a.v r.v, fun P d g l => dk (a.k P d g) (r.k P d g) l, fun hc h => by
 obtain ⟨x, y, z, rfl, h1, h2⟩ := aW h
 exact bOr (a.h hc h1) (r.h hc h2)⟩
noncomputable def bv {b : BoolOp} (a : WV b) : WE := ⟨a.v, fun P d g e => (un e).t == 7 && ((un e).bo == b && a.k P d g (un e).l), fun hc h => by
 obtain ⟨h0, h⟩ := bt h
 rw [FJ h0, eq_of_beq (bt h).1]; exact Yg (a.h hc (bt h).2)⟩
noncomputable def tv (a : WE) : WT := ⟨BK a.v, fun P d g e => !isT e && a.k P d g e, fun hc h => p6 (a.h hc (bt h).2) fun _ _ => lZ (bt h).1⟩
noncomputable def tn (a : WT) : WT := ⟨Mr a.v, fun P d g e => (un e).t == 6 && ((un e).uo == .Not && a.k P d g (un e).a), fun hc h => by
 obtain ⟨h0, h⟩ := bt h
 rw [FJ h0, eq_of_beq (bt h).1]; exact p9 (a.h hc (bt h).2)⟩
noncomputable def tc (a b : WE) (o : Wo compareOp) : WT := ⟨BK (AL a.v b.v o.p), cX a b o, fun hc h => by
 obtain ⟨l, r, p, rfl, h1, h2, h3⟩ := aJ h
 exact qB (a.h hc h1) (b.h hc h3) o.h h2⟩
noncomputable def aN : WA .And := ⟨Ni, fun _ _ _ l => l.isEmpty, fun _ h => by rw [List.isEmpty_iff.mp h]; exact gJ⟩
noncomputable def oN : WA .Or := ⟨LZ, fun _ _ _ l => l.isEmpty, fun _ h => by rw [List.isEmpty_iff.mp h]; exact p8⟩
noncomputable def aC (a : WT) (r : WA .And) : WA .And := ⟨Mt a.v r.v, fun P d g l => match l with
 | [] => false
 | e :: l => a.k P d g e && r.k P d g l, fun {_ _ _ l} hc h => by cases l with
 | nil => cases h
 | cons e l => exact gH (a.h hc (bt h).1) (r.h hc (bt h).2)⟩
noncomputable def oC (a : WT) (r : WA .Or) : WA .Or := ⟨HF a.v r.v, fun P d g l => match l with
 | [] => false
 | e :: l => a.k P d g e && r.k P d g l, fun {_ _ _ l} hc h => by cases l with
 | nil => cases h
 | cons e l => exact p7 (a.h hc (bt h).1) (r.h hc (bt h).2)⟩
noncomputable def tb {b : BoolOp} (a : WA b) : WT := ⟨a.v, fun P d g e => (un e).t == 7 && ((un e).bo == b && a.k P d g (un e).l), fun hc h => by
 obtain ⟨h0, h⟩ := bt h
 rw [FJ h0, eq_of_beq (bt h).1]; exact gG (a.h hc (bt h).2)⟩
noncomputable def al : List WT -> WA .And
 | [] => aN
 | a :: r => aC a (al r)
noncomputable def ol : List WT -> WA .Or
 | [] => oN
 | a :: r => oC a (ol r)
noncomputable def ta (l : List WT) : WT := tb (al l)
noncomputable def to (l : List WT) : WT := tb (ol l)
noncomputable def tg (a : Nat) (keys : List Int) (G : ∀ {c : Cx}, c.K = Hd.KF c.w.params -> YJ c a keys) (b : WE) : WT := ⟨fz keys b.v, fun P d g e => (un e).t == 9 && (b.k P d g (un e).a && ((un e).cs == [.In] && (J7 (un e).l).any fun x => (un x).t == 2 && (imp g (un x).x && (nsIn (Hd.KF P) mainGlobals (un x).x == some (some (.ref a)) && fM (un x).x)))), fun hc h => by
 obtain ⟨h0, h⟩ := bt h
 obtain ⟨h1, h⟩ := bt h
 obtain ⟨h2, h⟩ := bt h
 obtain ⟨x, e2, h⟩ := Gl h
 obtain ⟨h3, h⟩ := bt h
 obtain ⟨h4, h⟩ := bt h
 rw [FJ h0, e2, eq_of_beq h2, FJ h3]
 exact qA (b.h hc h1) (eq_of_beq h4) (by rw [hc]; exact eq_of_beq (bt h).1) (bf (bt h).2) (G hc) rfl⟩
noncomputable def xi (a : WE) : WX := ⟨vX a.v, a.k, fun hc h => sX (a.h hc h)⟩
noncomputable def xr (a : WE) : WX := ⟨ee a.v, fun P d g e => VD (fun e => vJ P g (.type "range") e && (un e).x == ("range" : Str)) (fun l => (J7 l).any fun x => !BP x && a.k P d g x) e, fun hc h => by
 obtain ⟨x, l', p, rfl, h1, w⟩ := Sk h
 obtain ⟨y, _, rfl, h3, h4, h5, h6, h7⟩ := mm (bt h1).1
 have e : y = ("range" : Str) := eq_of_beq (bt h1).2
 subst e
 obtain ⟨z, rfl, w⟩ := Gl w
 exact sXR (a.h hc (bt w).2) h3 (by rw [hc]; exact h4) h5 h6 h7 (bf (bt w).1)⟩
theorem RI {g : CZ} {i : Nat} {x : Str} (h : (getL g.slots i == some (x, .loc) || getL g.slots i == some (x, .cell)) = true) : Jq g x i := by
 rcases Bool.or_eq_true_iff.mp h with h | h
 ·exact .inl (eq_of_beq h)
 ·exact .inr (eq_of_beq h)
noncomputable def bw (g : CZ) (i : Nat) (x : Str) : Bool := getL g.slots i == some (x, .loc) || getL g.slots i == some (x, .cell)
noncomputable def gn (i : Nat) : WG := ⟨gN i, fun _ _ g e => (un e).t == 2 && bw g i (un e).x, fun _ h => by
 rw [FJ (bt h).1]; exact XS (RI (bt h).2)⟩
noncomputable def gs (o i : WE) : WG := ⟨gS o.v i.v, fun P d g e => (un e).t == 12 && (o.k P d g (un e).a && i.k P d g (un e).b), fun hc h => by
 obtain ⟨h0, h⟩ := bt h
 rw [FJ h0]; exact uy (o.h hc (bt h).1) (i.h hc (bt h).2)⟩
noncomputable def gE : oy := ⟨du, fun _ _ _ l => l.isEmpty, fun _ h => by rw [List.isEmpty_iff.mp h]; exact uz⟩
noncomputable def gK (a : WG) (b : oy) : oy := ⟨TZ a.v b.v, fun P d g es => match es with
 | [] => false
 | e :: r => !BP e && (a.k P d g e && b.k P d g r), fun {_ _ _ es} hc h => by cases es with
 | nil => cases h
 | cons e r =>
  obtain ⟨h0, h⟩ := bt h
  exact mP (a.h hc (bt h).1) (b.h hc (bt h).2) (a7 (bf h0))⟩
noncomputable def gl : List WG -> oy
 | [] => gE
 | a :: r => gK a (gl r)
noncomputable def gt (n : Nat) (l : List WG) : WG := ⟨gT n (gl l).v, fun P d g e => (un e).t == 3 && ((gl l).k P d g (un e).l && (Dl (un e).l && (un e).l.length == n)), fun hc h => by
 obtain ⟨h0, h⟩ := bt h
 obtain ⟨h1, h⟩ := bt h
 rw [FJ h0]; exact ux ((gl l).h hc h1) (fun env => (Od (bt h).1).1.trans (eq_of_beq (bt h).2)) (fun env => (Od (bt h).1).2)⟩
noncomputable def sN : WB := ⟨AS, fun _ _ _ l => l.isEmpty, fun _ h => by rw [List.isEmpty_iff.mp h]; exact pT⟩
noncomputable def sC (a : WS) (b : WB) : WB := ⟨AG a.v b.v, fun P d g l => match l with
 | [] => false
 | e :: r => a.k P d g e && b.k P d g r, fun {_ _ _ l} hc h => by cases l with
 | nil => cases h
 | cons e r => exact fb (a.h hc (bt h).1) (b.h hc (bt h).2)⟩
noncomputable def ss : List WS -> WB
 | [] => sN
 | a :: r => sC a (ss r)
noncomputable def Qz (f : Expr -> Bool) (q : Expr -> Bool) (s : Stmt) : Bool := (um s).t == 2 && ((J7 (um s).l).any f && q (um s).a)
theorem X0 {f q : Expr -> Bool} {s : Stmt} (h : Qz f q s = true) : ∃ t e p, s = .Assign [t] e p /\ f t = true /\ q e = true := by
 obtain ⟨h0, h⟩ := bt h
 obtain ⟨t, e1, h1⟩ := Gl (bt h).1
 have e0 : s = .Assign (um s).l (um s).a (um s).p := VC h0
 rw [e1] at e0
 exact ⟨_, _, _, e0, h1, (bt h).2⟩
noncomputable def as (i : Nat) (a : WE) : WS := ⟨BM i a.v, fun P d g s => Qz (fun t => (un t).t == 2 && bw g i (un t).x) (fun e => plain e && a.k P d g e) s, fun hc h => by
 obtain ⟨t, e, p, rfl, h1, h2⟩ := X0 h
 rw [FJ (bt h1).1]
 exact pW (a.h hc (bt h2).2) (RI (bt h1).2) fun _ => Z5 (bt h2).1⟩
noncomputable def aa (C a : Nat) (v o : WE) : WS := ⟨C7 C a v.v o.v, fun P d g s => Qz (fun t => (un t).t == 11 && (o.k P d g (un t).a && ((un t).x == nm a && Sn (Hd.KF P) C (nm a)))) (v.k P d g) s, fun hc h => by
 obtain ⟨t, e, p, rfl, h1, h2⟩ := X0 h
 obtain ⟨h0, h1⟩ := bt h1
 obtain ⟨h3, h1⟩ := bt h1
 rw [FJ h0]
 exact fi (v.h hc h2) (o.h hc h3) (eq_of_beq (bt h1).1) (by rw [hc]; exact (bt h1).2) fun _ => gU⟩
noncomputable def ai (v o i : WE) : WS := ⟨Bs v.v o.v i.v, fun P d g s => Qz (fun t => (un t).t == 12 && (o.k P d g (un t).a && i.k P d g (un t).b)) (v.k P d g) s, fun hc h => by
 obtain ⟨t, e, p, rfl, h1, h2⟩ := X0 h
 obtain ⟨h0, h1⟩ := bt h1
 rw [FJ h0]
 exact fg (v.h hc h2) (o.h hc (bt h1).1) (i.h hc (bt h1).2) fun _ => gR⟩
noncomputable def ag (v : WE) (t : WG) : WS := ⟨Ms v.v t.v, fun P d g s => Qz (fun e => (un e).t == 3 && ((!((un (um s).a).t == 3) || !((un e).l.length == 2 || (un e).l.length == 3)) && t.k P d g e)) (v.k P d g) s, fun hc h => by
 obtain ⟨t, e, p, rfl, h1, h2⟩ := X0 h
 obtain ⟨h0, h1⟩ := bt h1
 obtain ⟨h3, h1⟩ := bt h1
 have q := ‹WG›.h hc h1
 rw [FJ h0] at q ⊢
 exact fe (v.h hc h2) q (fun _ => gQ) fun _ => gY h3⟩
noncomputable def xx (a : WE) : WS := ⟨BE a.v, fun P d g s => (um s).t == 4 && (plain (um s).a && a.k P d g (um s).a), fun hc h => by
 obtain ⟨h0, h⟩ := bt h
 rw [VC h0]; exact fY (a.h hc (bt h).2) fun _ => Z5 (bt h).1⟩
noncomputable def If (t : WT) (a b : List WS) : WS := ⟨Iw t.v (ss a).v (ss b).v, fun P d g s => (um s).t == 5 && (t.k P d g (um s).a && ((ss a).k P d g (um s).f && (ss b).k P d g (um s).g)), fun hc h => by
 obtain ⟨h0, h⟩ := bt h
 obtain ⟨h1, h⟩ := bt h
 rw [VC h0]; exact xIf (t.h hc h1) ((ss a).h hc (bt h).1) ((ss b).h hc (bt h).2)⟩
noncomputable def rt (a : WE) : WS := ⟨Hs a.v, fun P d g s => (um s).t == 1 && (um s).q.any (a.k P d g), fun hc h => by
 obtain ⟨x, e, h1⟩ := eR (bt h).2
 have e0 := VC (bt h).1
 rename_i s
 have e0 : s = .Return (um s).q (um s).p := VC (bt h).1
 rw [e] at e0
 rw [e0]; exact pS (a.h hc h1)⟩
noncomputable def r0 : WS := ⟨U4, fun P d g s => (um s).t == 1 && (um s).q.isNone, fun {_ _ _ s} hc h => by
 have e0 : s = .Return (um s).q (um s).p := VC (bt h).1
 rw [none_ (bt h).2] at e0
 rw [e0]; exact fX⟩
noncomputable def ct : WS := ⟨U6, fun P d g s => (um s).t == 8, fun hc h => by rw [VC h]; exact fZ⟩
noncomputable def no : WS := ⟨fy, fun _ _ _ _ => true, fun _ _ => xNo⟩
noncomputable def au (i : Nat) (a : WE) (o : Wo inplaceOp) : WS := ⟨Sg i a.v o.p, fun P d g s => (um s).t == 3 && ((um s).o == o.o && ((un (um s).a).t == 2 && (getL g.slots i == some ((un (um s).a).x, .loc) && a.k P d g (um s).b))), fun hc h => by
 obtain ⟨h0, h⟩ := bt h
 obtain ⟨h1, h⟩ := bt h
 obtain ⟨h2, h⟩ := bt h
 rw [VC h0, FJ h2]; exact pV (a.h hc (bt h).2) (eq_of_beq (bt h).1) (o.b h1)⟩
noncomputable def ax (x i a : WE) (o : Wo inplaceOp) : WS := ⟨Z3 x.v i.v a.v o.p, fun P d g s => (um s).t == 3 && ((um s).o == o.o && ((un (um s).a).t == 12 && (x.k P d g (un (um s).a).a && (i.k P d g (un (um s).a).b && (!((un (un (um s).a).b).t == 13) && a.k P d g (um s).b))))), fun hc h => by
 obtain ⟨h0, h⟩ := bt h
 obtain ⟨h1, h⟩ := bt h
 obtain ⟨h2, h⟩ := bt h
 obtain ⟨h3, h⟩ := bt h
 obtain ⟨h4, h⟩ := bt h
 rw [VC h0, FJ h2]; exact fc (x.h hc h3) (i.h hc h4) (a.h hc (bt h).2) (o.b h1) (m5 (bt h).1)⟩
noncomputable def wh (t : WT) (l : List WS) : WS := ⟨U3 t.v (ss l).v, fun P d g s => (um s).t == 6 && (t.k P d g (um s).a && ((ss l).k P d g (um s).f && (um s).g.isEmpty)), fun {_ _ _ s} hc h => by
 obtain ⟨h0, h⟩ := bt h
 obtain ⟨h1, h⟩ := bt h
 have e0 : s = .While (um s).a (um s).f (um s).g (um s).p := VC h0
 rw [List.isEmpty_iff.mp (bt h).2] at e0
 rw [e0]; exact bO (t.h hc h1) ((ss l).h hc (bt h).1)⟩
noncomputable def fr (x : WX) (t : WG) (l : List WS) : WS := ⟨Ng x.v t.v (ss l).v, fun P d g s => (um s).t == 7 && (t.k P d g (um s).a && (x.k P d g (um s).b && ((ss l).k P d g (um s).f && ((um s).g.isEmpty && !((un (um s).b).t == 19))))), fun {_ _ _ s} hc h => by
 obtain ⟨h0, h⟩ := bt h
 obtain ⟨h1, h⟩ := bt h
 obtain ⟨h2, h⟩ := bt h
 obtain ⟨h3, h⟩ := bt h
 have e0 : s = .For (um s).a (um s).b (um s).f (um s).g (um s).p := VC h0
 rw [List.isEmpty_iff.mp (bt h).1] at e0
 rw [e0]; exact pU (x.h hc h2) (t.h hc h1) ((ss l).h hc h3) fun _ _ => ab (bt h).2⟩
noncomputable def fN : WF := ⟨U5, fun _ _ _ l => l.isEmpty, fun _ h => by rw [List.isEmpty_iff.mp h]; exact sF0⟩
noncomputable def f1 (a : WT) : WF := ⟨a.v, fun P d g l => (J7 l).any (a.k P d g), fun hc h => by
 obtain ⟨x, rfl, h⟩ := Gl h
 exact sF1 (a.h hc h)⟩
noncomputable def uJ (fs : List (Str × Nat)) (x : WX) (f : WF) (a : WE) (P : Params) (d : Nat) (g : CZ) (e : Expr) : Bool :=
 (un e).t == 15 && ((J7 (un e).g).any fun q => (un q.target).t == 2 && (q.is_async == 0 && (x.k P d g q.iter && (!((un q.iter).t == 19) &&
  (fM (un q.target).x && (KD g (un e).sc (un q.target).x fs && (f.k P d (BG g (un e).sc (un q.target).x fs) q.ifs && a.k P d (BG g (un e).sc (un q.target).x fs) (un e).a)))))))
structure AAE (c : Cx) (d : Nat) (g : CZ) (fs : List (Str × Nat)) (x : WX) (f : WF) (a : WE) (elt iter : Expr) (y : Str) (ifs : List Expr) (sc : Scope) : Prop where
 ok : KD g sc y fs = true
 x : SX c d g iter x.v
 f : SF c d (BG g sc y fs) ifs f.v
 a : SE c d (BG g sc y fs) elt a.v
 d : (y == ("__debug__" : Str)) = false
 s : ∀ env z, foldedSetIterable iter env z = pure z
theorem kS {fs : List (Str × Nat)} {x : WX} {f : WF} {a : WE} {c : Cx} {d : Nat} {g : CZ} {e : Expr} (hc : c.K = Hd.KF c.w.params) (h : uJ fs x f a c.w.params d g e = true) : ∃ elt iter y yp ifs sc p, e = .ListComp elt [⟨.Name y yp, iter, ifs, 0⟩] sc p /\ AAE c d g fs x f a elt iter y ifs sc := by
 obtain ⟨h0, h⟩ := bt h
 obtain ⟨⟨tg, iter, ifs, as⟩, e1, h⟩ := Gl h
 obtain ⟨h1, h⟩ := bt h
 obtain ⟨h2, h⟩ := bt h
 obtain ⟨h3, h⟩ := bt h
 obtain ⟨h4, h⟩ := bt h
 obtain ⟨h5, h⟩ := bt h
 obtain ⟨h6, h⟩ := bt h
 have e0 : e = .ListComp (un e).a (un e).g (un e).sc (un e).p := FJ h0
 have e2 : tg = .Name (un tg).x (un tg).p := FJ h1
 have e3 : as = 0 := eq_of_beq h2
 rw [e1, e3] at e0
 exact ⟨(un e).a, iter, (un tg).x, (un tg).p, ifs, (un e).sc, (un e).p, e2 ▸ e0, h6, x.h hc h3, f.h hc (bt h).1, a.h hc (bt h).2, bf h5, fun _ _ => ab h4⟩
noncomputable def lc (fs : List (Str × Nat)) (x : WX) (f : WF) (a : WE) : WE := ⟨oO fs x.v f.v a.v, uJ fs x f a, fun hc h => by
 obtain ⟨elt, iter, y, yp, ifs, sc, p, rfl, k⟩ := kS hc h
 exact sLC k.ok k.x k.f k.a k.d k.s⟩
noncomputable def bB (i : Nat) (fs : List (Str × Nat)) (x : WX) (f : WF) (a : WE) : WS := ⟨RD i fs x.v f.v a.v, fun P d g s => Qz (fun t => (un t).t == 2 && bw g i (un t).x) (uJ fs x f a P d g) s && ((J7 (um s).l).any fun t =>
  g.scope.names.lookup (un t).x == some .local && ((un t).p.line == (un (um s).a).p.line && !((un (um s).a).sc.names.any fun (n, k) => n == (un t).x && (k == .local || k == .cell)))), fun hc h => by
 obtain ⟨t, e, p, rfl, h1, h2⟩ := X0 (bt h).1
 obtain ⟨elt, iter, y, yp, ifs, sc, p', rfl, k⟩ := kS hc h2
 obtain ⟨t', e, w⟩ := Gl (bt h).2
 cases e
 obtain ⟨w1, w⟩ := bt w
 have e4 := FJ (bt h1).1
 rw [show t = .Name (un t).x (un t).p from e4]
 exact bP k.ok k.x k.f k.a k.d (RI (bt h1).2) (eq_of_beq w1) (bt w).1 (bf (bt w).2) k.s⟩
noncomputable def AAn : Wo binaryOp := ⟨_, .Add, kG⟩
end
noncomputable def LB : List (Str × NameKind) -> List (Str × SK)
 | [] => []
 | (x, .local) :: r => (x, .loc) :: LB r
 | (x, .cell) :: r => (x, .cell) :: LB r
 | _ :: r => LB r
noncomputable def Hw (P : Params) (a : Addr) : FuncData := match (Hd.KF P).lookup a with
 | some ⟨_, _, .func fd, _⟩ => fd
 | _ => default
noncomputable def ug : Option Obj -> Bool
 | some ⟨_, _, .func _, _⟩ => true
 | _ => false
noncomputable def T4 (P : Params) (a : Addr) : CZ := ⟨(Hw P a).scope, LB (Hw P a).scope.names⟩
noncomputable def RT (P : Params) (a n : Nat) : List Str := ((T4 P a).slots.map (·.1)).take n
noncomputable def eO (P : Params) (a : Addr) : List Stmt := match (Hw P a).body with
 | .stmts b => b
 | _ => []
noncomputable def lh : FuncBody -> Bool
 | .stmts _ => true
 | _ => false
noncomputable def bq (n : Nat) (f : Nat -> Value) : List Value := (List.range n).map f
theorem p5 {n : Nat} {vs : List Value} (h : vs.length = n) : bq n (fun i => vs.getD i .none) = vs := by
 refine List.ext_getElem (by simp [bq, h]) fun i h1 h2 => ?_
 simp [bq, h2]
noncomputable def ae (w : WB) (a n m d : Nat) (P : Params) : Bool := ug ((Hd.KF P).lookup a) && ((Hw P a).globals == mainGlobals && ((Hw P a).builtins == builtinsNs && ((Hw P a).closure.isEmpty && (!(Hw P a).scope.isCoroutine && (!(Hw P a).scope.isGenerator &&
 (codeIn (Hd.KF P) (Hw P a).code (Hw P a).qualname && (HH (T4 P a) && (WZ (T4 P a) && (lh (Hw P a).body && ((RT P a n).length == n && ((T4 P a).slots.length == m && w.k P d (T4 P a) (eO P a))))))))))))
theorem Uq {w : WB} {a n m d : Nat} {vp : VP} (e : vp = AP n m w.v) (h : ∀ P, ae w a n m d P = true) (hb : ∀ P f, bindArgs (Hw P a) ⟨bq n f, []⟩ = pure ((RT P a n).zip (bq n f))) {c : Cx} (hc : c.K = Hd.KF c.w.params) : SC c (d + 1) (.ref a) vp := by
 obtain ⟨h0, q⟩ := bt (h c.w.params)
 obtain ⟨h1, q⟩ := bt q
 obtain ⟨h2, q⟩ := bt q
 obtain ⟨h3, q⟩ := bt q
 obtain ⟨h4, q⟩ := bt q
 obtain ⟨h5, q⟩ := bt q
 obtain ⟨h6, q⟩ := bt q
 obtain ⟨h7, q⟩ := bt q
 obtain ⟨h8, q⟩ := bt q
 obtain ⟨h9, q⟩ := bt q
 obtain ⟨hA, q⟩ := bt q
 obtain ⟨hB, q⟩ := bt q
 rw [e]
 have hA := eq_of_beq hA
 refine aA (sg := T4 c.w.params a) (fd := Hw c.w.params a) (body := eO c.w.params a) (pn := RT c.w.params a n) ⟨?_, eq_of_beq h1, eq_of_beq h2, List.isEmpty_iff.mp h3, bf h4, bf h5, by rw [hc]; exact h6, rfl, h7, h8, ?_, ⟨_, (List.take_append_drop n _).symm⟩, fun vs hl => ?_⟩ (w.h hc q) hA.symm (eq_of_beq hB).symm
 ·rw [hc]
  unfold Hw
  cases e : (Hd.KF c.w.params).lookup a with
  | none => rw [e] at h0; cases h0
  | some o =>
   obtain ⟨oc, od, da, sl⟩ := o
   cases da <;> first | exact ⟨_, _, _, rfl⟩ | (rw [e] at h0; cases h0)
 ·unfold eO
  cases e : (Hw c.w.params a).body with
  | stmts b => rfl
  | expr b => rw [e] at h9; cases h9
 ·have := hb c.w.params fun i => vs.getD i .none
  rwa [p5 (hl.trans hA)] at this
@[irreducible] noncomputable def Bi {α : Type} (v : α) : α := Classical.choose (⟨v, rfl⟩ : ∃ x, x = v)
theorem AJ {α : Type} (v : α) : Bi v = v := by unfold Bi; exact Classical.choose_spec (⟨v, rfl⟩ : ∃ x, x = v)
theorem AU {v : VP} {xs : List AV} {H : Hp} {k : AV -> Hp -> Prop} (h : v xs H k) : Bi v xs H k := by rw [AJ]; exact h
end Kw
end
section
namespace Wk
open PySem PySem.W PyProof.Rows PySem.Calls Mine Kw
noncomputable def oX : Nat := 97
noncomputable def JT : Nat := 3982453436897
noncomputable def Kg : Nat := 1702241
noncomputable def Lx : Nat := 1800673
noncomputable def Ra : Nat := 242973153
noncomputable def JS : Nat := 14945
noncomputable def Wi : Nat := 213709026
noncomputable def N0 : Nat := 31083786466
noncomputable def Hl : Nat := 28932044386
noncomputable def P4 : Nat := 3980301956706
noncomputable def Iq : Nat := 255408098
noncomputable def BH : Nat := 3978446075874
noncomputable def TN : Nat := 30836339171
noncomputable def DV : Nat := 443303916565603
noncomputable def EM : Nat := 3463328822883
noncomputable def Lv : Nat := 3982751414243
noncomputable def M3 : Nat := 448145974162148
noncomputable def J3 : Nat := 236548836
noncomputable def DK : Nat := 3979532317412
noncomputable def Eg : Nat := 31087686884
noncomputable def TM : Nat := 32709062885
noncomputable def HP : Nat := 230258277
noncomputable def Nz : Nat := 32721680229
noncomputable def P2 : Nat := 3982740781925
noncomputable def TL : Nat := 31111003237
noncomputable def JR : Nat := 31366934758
noncomputable def P1 : Nat := 3978441618662
noncomputable def J2 : Nat := 421792860173542
noncomputable def Kf : Nat := 8271933077936911590
noncomputable def P0 : Nat := 3944367338726
noncomputable def CY : Nat := 31087687270
noncomputable def Pz : Nat := 14182
noncomputable def Ip : Nat := 211449702
noncomputable def II : Nat := 1898342
noncomputable def HO : Nat := 213481830
noncomputable def Es : Nat := 509241097711975
noncomputable def DJ : Nat := 3979223970663
noncomputable def HN : Nat := 3978712086375
noncomputable def cp : Nat := 242841575
noncomputable def Wh : Nat := 213612520
noncomputable def Io : Nat := 245168104
noncomputable def HM : Nat := 3978691113833
noncomputable def TK : Nat := 31098418921
noncomputable def Gb : Nat := 32425719657
noncomputable def HL : Nat := 245004137
noncomputable def Ny : Nat := 31115081577
noncomputable def Wg : Nat := 3982185183081
noncomputable def TJ : Nat := 27329641194
noncomputable def Py : Nat := 3944358703851
noncomputable def Fb : Nat := 242824427
noncomputable def DA : Nat := 211530987
noncomputable def TH : Nat := 31081608427
noncomputable def BW : Nat := 14955
noncomputable def aO : Nat := 1651948
noncomputable def Lu : Nat := 242824428
noncomputable def Hk : Nat := 31106791404
noncomputable def C2 : Nat := 509241338966765
noncomputable def Cn : Nat := 1651949
noncomputable def RZ : Nat := 242825197
noncomputable def Ba : Nat := 213610734
noncomputable def Nx : Nat := 31083688174
noncomputable def Ls : Nat := 3502231073006
noncomputable def RY : Nat := 243135214
noncomputable def Lr : Nat := 232354798
noncomputable def aM : Nat := 1651950
noncomputable def TG : Nat := 31083804654
noncomputable def Fx : Nat := 3464389718895
noncomputable def FK : Nat := 31102433391
noncomputable def Bc : Nat := 30815271919
noncomputable def Ap : Nat := 3980834681072
noncomputable def Fw : Nat := 3979223970672
noncomputable def Fv : Nat := 3978712086384
noncomputable def TF : Nat := 31106791792
noncomputable def BO : Nat := 1915632
noncomputable def Bt : Nat := 1913586
noncomputable def Lq : Nat := 1964018
noncomputable def BS : Nat := 243136498
noncomputable def Yy : Nat := 31083688179
noncomputable def Cm : Nat := 3978718605811
noncomputable def RX : Nat := 251393139
noncomputable def Lp : Nat := 3982730441971
noncomputable def E9 : Nat := 245151731
noncomputable def Nw : Nat := 31115229171
noncomputable def Dm : Nat := 3430044695155
noncomputable def TC : Nat := 31115147891
noncomputable def CX : Nat := 27352889971
noncomputable def M1 : Nat := 509788408295668
noncomputable def DU : Nat := 7268149395789083764
noncomputable def aL : Nat := 1651956
noncomputable def We : Nat := 211498996
noncomputable def Bh : Nat := 509546839177332
noncomputable def Px : Nat := 3944354724596
noncomputable def DL : Nat := 31083740404
noncomputable def TB : Nat := 30815106933
noncomputable def JQ : Nat := 3982185019253
noncomputable def E8 : Nat := 245004149
noncomputable def TA : Nat := 31352125301
noncomputable def Yx : Nat := 14453
noncomputable def CA : Nat := 8343920472093405430
noncomputable def E7 : Nat := 243052790
noncomputable def DT : Nat := 509789213455095
noncomputable def Ed : List Int := [20, 9, 10, 11, 12, 13, 14, 15, 16, 17, 18, 19, 1, 4]
noncomputable def Nn : List DictEntry -> Bool
 | [] => true
 | e :: r => (match e.key with
  | .int i _ => e.hash == hashInt i
  | _ => false) && Nn r
noncomputable def N5 : List DictEntry -> List (Int × Value)
 | [] => []
 | e :: r => (match e.key with
  | .int i _ => (i, e.val)
  | _ => (0, e.val)) :: N5 r
theorem Sr {prog : Program} {w : World} : ∀ {l : List DictEntry}, Nn l = true -> (∀ e ∈ l, ∃ k, (intKind prog w).is k e.key = true /\ e.hash = (intKind prog w).hash k) /\ Pairs (intKind prog w) l (N5 l)
 | [], _ => ⟨fun _ h => (by cases h), .nil⟩
 | ⟨hs, k, v⟩ :: r, h => by
  unfold Nn at h
  rw [Bool.and_eq_true] at h
  obtain ⟨h1, h2⟩ := h
  obtain ⟨a, b⟩ := Sr (prog := prog) (w := w) h2
  cases k <;> first | (cases h1; done) | skip
  rename_i i t
  have h1' : (hs == hashInt i) = true := h1
  refine ⟨fun e he => ?_, .cons (by simp [intKind, Value.isInt]) rfl b⟩
  rcases List.mem_cons.mp he with rfl | he
  ·exact ⟨i, by simp [intKind, Value.isInt], eq_of_beq h1'⟩
  ·exact a e he
theorem c6 (P : Params) : (Hd.KF P).lookup 79 = some (Hd.Nv P) := by kernel_rfl
theorem cM (P : Params) : Nn (Hd.N3 P) = true := by kernel_rfl
theorem W5 (P : Params) : (N5 (Hd.N3 P)).map (·.1) = Ed := by kernel_rfl
theorem p4 {c : Cx} (hc : c.K = Hd.KF c.w.params) : YJ c 79 Ed := by
 obtain ⟨a, b⟩ := Sr (prog := c.prog) (w := c.w) (cM c.w.params)
 refine ⟨⟨Hd.Nv c.w.params, N5 (Hd.N3 c.w.params), by rw [hc]; exact c6 _, ⟨_, _, ⟨rfl, rfl, rfl⟩, rfl, fun e he => a e (by simpa using he), b, ?_⟩, W5 _⟩, by decide⟩
 rw [W5]
 decide
noncomputable def tP := tg 79 Ed p4
noncomputable def E2 : Wo binaryOp := ⟨_, _, kG⟩
noncomputable def Tt : Wo binaryOp := ⟨_, _, tH⟩
noncomputable def Iy : Wo binaryOp := ⟨_, _, tU⟩
noncomputable def YW : Wo binaryOp := ⟨_, _, td⟩
noncomputable def fq : Wo binaryOp := ⟨_, _, tT⟩
noncomputable def Tv : Wo binaryOp := ⟨_, _, te⟩
noncomputable def pY : Wo binaryOp := ⟨_, _, oOr⟩
noncomputable def Mk : Wo binaryOp := ⟨_, _, kF⟩
noncomputable def Mj : Wo binaryOp := ⟨_, _, kD⟩
noncomputable def Zx : Wo binaryOp := ⟨_, _, j9⟩
noncomputable def Zw : Wo binaryOp := ⟨_, _, j8⟩
noncomputable def Bd : Wo compareOp := ⟨_, _, oEq⟩
noncomputable def MU : Wo compareOp := ⟨_, _, oNe⟩
noncomputable def Sa : Wo compareOp := ⟨_, _, oLt⟩
noncomputable def eZ : Wo compareOp := ⟨_, _, oLe⟩
noncomputable def U2 : Wo compareOp := ⟨_, _, oGt⟩
noncomputable def oL : Wo compareOp := ⟨_, _, oGe⟩
noncomputable def YL : Wo compareOp := ⟨_, _, oIs⟩
noncomputable def NW : Wo compareOp := ⟨_, _, cg⟩
noncomputable def YV : Wo compareOp := ⟨_, _, tZ⟩
noncomputable def Tu : Wo compareOp := ⟨_, _, tS⟩
noncomputable def RB : Wo compareOp := ⟨_, _, tR⟩
noncomputable def fm : Wo compareOp := ⟨_, _, tQ⟩
noncomputable def Zv : Wo compareOp := ⟨_, _, j6⟩
noncomputable def YU : Wo compareOp := ⟨_, _, tW⟩
noncomputable def fu : Wo compareOp := ⟨_, _, tY⟩
noncomputable def U1 : Wo compareOp := ⟨_, _, tX⟩
noncomputable def SW : Wo compareOp := ⟨_, _, Yu⟩
noncomputable def SY : Wo compareOp := ⟨_, _, Yv⟩
noncomputable def Iz : Wo inplaceOp := ⟨_, _, kC⟩
noncomputable def As (vp : VP) (w : WB) (a n m d : Nat) (e : vp = AP n m w.v) (h : ∀ P, ae w a n m d P = true := by intro P; kernel_rfl) (hb : ∀ P f, bindArgs (Hw P a) ⟨bq n f, []⟩ = pure ((RT P a n).zip (bq n f)) := by intro P f; kernel_rfl) : PF := ⟨a, vp, d + 1, Uq e h hb⟩
noncomputable def Dy : WB := ss [aa 110 BS (lm []) (L 0), aa 110 Gb dT0 (L 0), aa 110 DK (lm []) (L 0), aa 110 DT (lm []) (L 0), aa 110 FK (lm []) (L 0), fr (xr (gi 16)) (gn 1) [as 2 (tp [gi 1, L 1]), xx (ap (at_ 110 BS (L 0)) (L 2)), ai (L 1) (at_ 110 Gb (L 0)) (L 2), xx (ap (at_ 110 DK (L 0)) (it 1)), xx (ap (at_ 110 DT (L 0)) (it 1)), xx (ap (at_ 110 FK (L 0)) (it 0))]]
noncomputable def Fo : VS := (fun u (_ : Dy.v = u) => u) _ (by dsimp only [Dy, As, it, L, gi, eN, eC, es, tp, lm, at_, ap, d0, dT0, xr, gn, sN, sC, ss, as, aa, ai, xx, fr])
@[irreducible] noncomputable def BD : VP := Bi (AP 1 3 Fo)
theorem KC {xs H k} (h : AP 1 3 Fo xs H k) : BD xs H k := by unfold BD; exact AU h
noncomputable def GA : PF := As BD Dy 93 1 3 0 (by unfold BD; exact AJ _)
noncomputable def EX : WB := ss [If (to [tc (L 1) (it 0) Sa, tc (L 1) (bl BI (at_ 110 BS (L 0))) oL]) [no] [], rt (ix (at_ 110 BS (L 0)) (L 1))]
noncomputable def Gi : VS := (fun u (_ : EX.v = u) => u) _ (by dsimp only [EX, As, it, L, at_, ix, bl, BI, tc, oN, oC, tb, ol, to, sN, sC, ss, If, rt, no, Sa, oL])
@[irreducible] noncomputable def BV : VP := Bi (AP 2 2 Gi)
theorem K2 {xs H k} (h : AP 2 2 Gi xs H k) : BV xs H k := by unfold BV; exact AU h
noncomputable def Al : PF := As BV EX 100 2 2 0 (by unfold BV; exact AJ _)
noncomputable def Gz : WB := ss [If (to [tc (L 1) (gi 0) Bd, tc (L 1) (gi 14) Bd]) [rt (K0 false)] [], as 2 (ix (me 110 Lq (L 0) Al (L 1) []) (it 0)), rt (bv (vO (cm (L 2) (gi 4) eZ) (vO (cm (L 2) (gi 6) Bd) (v1 (cm (L 2) (gi 7) Bd)))))]
noncomputable def KS : VS := (fun u (_ : Gz.v = u) => u) _ (by dsimp only [Gz, Al, As, K0, it, L, gi, eN, eC, es, cm, ix, me, v1, vO, bv, tc, oN, oC, tb, ol, to, sN, sC, ss, as, If, rt, Bd, eZ])
@[irreducible] noncomputable def Ct : VP := Bi (AP 2 3 KS)
theorem QK {xs H k} (h : AP 2 3 KS xs H k) : Ct xs H k := by unfold Ct; exact AU h
noncomputable def FP : PF := As Ct Gz 163 2 3 1 (by unfold Ct; exact AJ _)
noncomputable def GP : WB := ss [fr (xi (L 1)) (gn 2) [If (tn (tv (ca FP (L 0) [L 2]))) [no] []]]
noncomputable def JC : VS := (fun u (_ : GP.v = u) => u) _ (by dsimp only [GP, FP, As, L, eN, eC, es, ca, tv, tn, xi, gn, sN, sC, ss, If, no, fr])
@[irreducible] noncomputable def EB : VP := Bi (AP 2 3 JC)
theorem OK {xs H k} (h : AP 2 3 JC xs H k) : EB xs H k := by unfold EB; exact AU h
noncomputable def Jg : PF := As EB GP 156 2 3 2 (by unfold EB; exact AJ _)
noncomputable def FX : WB := ss [If (to [tc (ix (L 1) (it 1)) (it 0) eZ, tP (ix (L 1) (it 1))]) [no] [], xx (ca Jg (L 0) [ix (L 1) (it 2)])]
noncomputable def IE : VS := (fun u (_ : FX.v = u) => u) _ (by dsimp only [FX, Jg, As, it, L, eN, eC, es, ix, ca, tc, oN, oC, tb, ol, to, tg, tP, sN, sC, ss, xx, If, no, eZ])
@[irreducible] noncomputable def Ci : VP := Bi (AP 2 2 IE)
theorem Md {xs H k} (h : AP 2 2 IE xs H k) : Ci xs H k := by unfold Ci; exact AU h
noncomputable def IQ : PF := As Ci FX 149 2 2 3 (by unfold Ci; exact AJ _)
noncomputable def FW : WB := ss [as 1 (ix (L 0) (it 0)), If (to [tc (L 1) (gi 2) Bd, tc (L 1) (gi 3) Bd]) [rt (ix (L 0) (it 2))] [], If (to [tc (L 1) (gi 4) Bd, tc (L 1) (gi 5) Bd, tc (L 1) (gi 8) Bd, tc (L 1) (gi 9) Bd, tc (L 1) (gi 11) Bd]) [rt (tp [ix (L 0) (it 1)])] [], If (tc (L 1) (gi 10) Bd) [no] [], rt (tp [])]
noncomputable def IC : VS := (fun u (_ : FW.v = u) => u) _ (by dsimp only [FW, As, it, L, gi, eN, eC, es, tp, ix, tc, oN, oC, tb, ol, to, sN, sC, ss, as, If, rt, no, Bd])
@[irreducible] noncomputable def BY : VP := Bi (AP 1 2 IC)
theorem Fd {xs H k} (h : AP 1 2 IC xs H k) : BY xs H k := by unfold BY; exact AU h
noncomputable def ED : PF := As BY FW 121 1 2 0 (by unfold BY; exact AJ _)
noncomputable def GG : WB := ss [If (to [tc (L 0) (gi 2) Bd, tc (L 0) (gi 3) Bd]) [rt (it 3)] [], If (tc (L 0) (gi 10) Bd) [rt (it 4)] [], rt (it 2)]
noncomputable def I4 : VS := (fun u (_ : GG.v = u) => u) _ (by dsimp only [GG, As, it, L, gi, tc, oN, oC, tb, ol, to, sN, sC, ss, If, rt, Bd])
@[irreducible] noncomputable def EA : VP := Bi (AP 1 1 I4)
theorem Ge {xs H k} (h : AP 1 1 I4 xs H k) : EA xs H k := by unfold EA; exact AU h
noncomputable def Ja : PF := As EA GG 135 1 1 0 (by unfold EA; exact AJ _)
noncomputable def Dw : WB := ss [If (to [tc (bl BI (L 1)) (it 0) Bd, tc (ix (L 1) (it 0)) (gi 1) eZ, tc (ix (L 1) (it 0)) (gi 11) U2]) [no] [], as 2 (ix (L 1) (it 0)), If (tc (bl BI (L 1)) (ca Ja (L 2) []) MU) [no] [], fr (xi (ca ED (L 1) [])) (gn 3) [xx (me 110 Lq (L 0) Al (L 3) [])], If (to [tc (L 2) (gi 2) Bd, tc (L 2) (gi 3) Bd]) [xx (ca IQ (L 0) [L 1])] [If (to [tc (L 2) (gi 6) Bd, tc (L 2) (gi 7) Bd]) [If (tc (ix (L 1) (it 1)) (it 0) Sa) [no] []] [If (tc (L 2) (gi 10) Bd) [no, no] [If (tc (L 2) (gi 8) Bd) [no] [If (tn (tv (ca FP (L 0) [ix (L 1) (it 1)]))) [no] []]]]]]
noncomputable def Fj : VS := (fun u (_ : Dw.v = u) => u) _ (by dsimp only [Dw, Al, IQ, ED, FP, Ja, As, it, L, gi, eN, eC, es, ix, ca, me, bl, BI, tv, tn, tc, oN, oC, tb, ol, to, xi, gn, sN, sC, ss, as, xx, If, no, fr, Bd, MU, Sa, eZ, U2])
@[irreducible] noncomputable def Bl : VP := Bi (AP 2 4 Fj)
theorem D6 {xs H k} (h : AP 2 4 Fj xs H k) : Bl xs H k := by unfold Bl; exact AU h
noncomputable def F7 : PF := As Bl Dw 142 2 4 4 (by unfold Bl; exact AJ _)
noncomputable def Gx : WB := ss [If (to [tc (L 0) (gi 2) Bd, tc (L 0) (gi 3) Bd, tc (L 0) (gi 4) Bd]) [rt (it 1)] [], rt (it 0)]
noncomputable def KQ : VS := (fun u (_ : Gx.v = u) => u) _ (by dsimp only [Gx, As, it, L, gi, tc, oN, oC, tb, ol, to, sN, sC, ss, If, rt, Bd])
@[irreducible] noncomputable def Dd : VP := Bi (AP 1 1 KQ)
theorem QJ {xs H k} (h : AP 1 1 KQ xs H k) : Dd xs H k := by unfold Dd; exact AU h
noncomputable def Kn : PF := As Dd Gx 128 1 1 0 (by unfold Dd; exact AJ _)
noncomputable def EY : WB := ss [as 2 (gT_ (at_ 110 Gb (L 0)) (L 1) (ng (it 1))), If (tc (L 2) (it 0) oL) [rt (L 2)] [], xx (ca F7 (L 0) [L 1]), as 3 (it 1), as 4 (it 1), as 5 (it 0), If (to [tc (ix (L 1) (it 0)) (gi 6) Bd, tc (ix (L 1) (it 0)) (gi 7) Bd]) [as 5 (it 1)] [], as 6 (ca Kn (ix (L 1) (it 0)) []), fr (xi (ca ED (L 1) [])) (gn 7) [If (tc (bn (ix (at_ 110 DK (L 0)) (L 7)) (L 6) E2) (L 3) U2) [as 3 (bn (ix (at_ 110 DK (L 0)) (L 7)) (L 6) E2)] [], au 4 (ix (at_ 110 DT (L 0)) (L 7)) Iz, If (tc (ix (at_ 110 FK (L 0)) (L 7)) (it 1) Bd) [as 5 (it 1)] []], If (tc (L 3) (gi 24) U2) [no] [], If (tc (L 4) (gi 4096) U2) [no] [], as 8 (bl BI (at_ 110 BS (L 0))), xx (ap (at_ 110 BS (L 0)) (L 1)), ai (L 8) (at_ 110 Gb (L 0)) (L 1), xx (ap (at_ 110 DK (L 0)) (L 3)), xx (ap (at_ 110 DT (L 0)) (L 4)), xx (ap (at_ 110 FK (L 0)) (L 5)), rt (L 8)]
noncomputable def Gj : VS := (fun u (_ : EY.v = u) => u) _ (by dsimp only [EY, F7, ED, Kn, As, it, L, gi, eN, eC, es, bn, ng, at_, ix, ca, ap, gT_, bl, BI, tc, oN, oC, tb, ol, to, xi, gn, sN, sC, ss, as, ai, xx, If, rt, no, au, fr, E2, Bd, U2, oL, Iz])
@[irreducible] noncomputable def AN : VP := Bi (AP 2 9 Gj)
theorem Gn {xs H k} (h : AP 2 9 Gj xs H k) : AN xs H k := by unfold AN; exact AU h
noncomputable def AH : PF := As AN EY 107 2 9 5 (by unfold AN; exact AJ _)
noncomputable def GO : WB := ss [If (tP (L 1)) [no] [], rt (me 110 BO (L 0) AH (tp [gi 2, L 1, L 2]) [])]
noncomputable def JB : VS := (fun u (_ : GO.v = u) => u) _ (by dsimp only [GO, AH, As, L, gi, eN, eC, es, tp, me, tg, tP, sN, sC, ss, If, rt, no])
@[irreducible] noncomputable def DF : VP := Bi (AP 3 3 JB)
theorem OJ {xs H k} (h : AP 3 3 JB xs H k) : DF xs H k := by unfold DF; exact AU h
noncomputable def Jf : PF := As DF GO 170 3 3 6 (by unfold DF; exact AJ _)
noncomputable def GD : WB := ss [If (tP (L 1)) [no] [], rt (me 110 BO (L 0) AH (tp [gi 3, L 1, L 2]) [])]
noncomputable def I2 : VS := (fun u (_ : GD.v = u) => u) _ (by dsimp only [GD, AH, As, L, gi, eN, eC, es, tp, me, tg, tP, sN, sC, ss, If, rt, no])
@[irreducible] noncomputable def DB : VP := Bi (AP 3 3 I2)
theorem OB {xs H k} (h : AP 3 3 I2 xs H k) : DB xs H k := by unfold DB; exact AU h
noncomputable def JY : PF := As DB GD 177 3 3 6 (by unfold DB; exact AJ _)
noncomputable def GS : WB := ss [rt (me 110 BO (L 0) AH (tp [gi 4, L 1]) [])]
noncomputable def JF : VS := (fun u (_ : GS.v = u) => u) _ (by dsimp only [GS, AH, As, L, gi, eN, eC, es, tp, me, sN, sC, ss, rt])
@[irreducible] noncomputable def CU : VP := Bi (AP 2 2 JF)
theorem OM {xs H k} (h : AP 2 2 JF xs H k) : CU xs H k := by unfold CU; exact AU h
noncomputable def Jj : PF := As CU GS 191 2 2 6 (by unfold CU; exact AJ _)
noncomputable def GQ : WB := ss [rt (me 110 BO (L 0) AH (tp [gi 5, L 1]) [])]
noncomputable def JD : VS := (fun u (_ : GQ.v = u) => u) _ (by dsimp only [GQ, AH, As, L, gi, eN, eC, es, tp, me, sN, sC, ss, rt])
@[irreducible] noncomputable def CT : VP := Bi (AP 2 2 JD)
theorem OL {xs H k} (h : AP 2 2 JD xs H k) : CT xs H k := by unfold CT; exact AU h
noncomputable def Jh : PF := As CT GQ 198 2 2 6 (by unfold CT; exact AJ _)
noncomputable def IU : WB := ss [rt (me 110 BO (L 0) AH (tp [gi 6, L 1]) [])]
noncomputable def LO : VS := (fun u (_ : IU.v = u) => u) _ (by dsimp only [IU, AH, As, L, gi, eN, eC, es, tp, me, sN, sC, ss, rt])
@[irreducible] noncomputable def Cb : VP := Bi (AP 2 2 LO)
theorem Rt {xs H k} (h : AP 2 2 LO xs H k) : Cb xs H k := by unfold Cb; exact AU h
noncomputable def DN : PF := As Cb IU 205 2 2 6 (by unfold Cb; exact AJ _)
noncomputable def Gy : WB := ss [rt (me 110 BO (L 0) AH (tp [gi 7, L 1]) [])]
noncomputable def KR : VS := (fun u (_ : Gy.v = u) => u) _ (by dsimp only [Gy, AH, As, L, gi, eN, eC, es, tp, me, sN, sC, ss, rt])
@[irreducible] noncomputable def CC : VP := Bi (AP 2 2 KR)
theorem Kj {xs H k} (h : AP 2 2 KR xs H k) : CC xs H k := by unfold CC; exact AU h
noncomputable def EU : PF := As CC Gy 212 2 2 6 (by unfold CC; exact AJ _)
noncomputable def G2 : WB := ss [rt (ix (me 110 Lq (L 0) Al (L 1) []) (it 0))]
noncomputable def KW : VS := (fun u (_ : G2.v = u) => u) _ (by dsimp only [G2, Al, As, it, L, eN, eC, es, ix, me, sN, sC, ss, rt])
@[irreducible] noncomputable def Cv : VP := Bi (AP 2 2 KW)
theorem QN {xs H k} (h : AP 2 2 KW xs H k) : Cv xs H k := by unfold Cv; exact AU h
noncomputable def CB : PF := As Cv G2 219 2 2 1 (by unfold Cv; exact AJ _)
noncomputable def Jt : WB := ss [as 2 (me 110 Lq (L 0) Al (L 1) []), If (to [tc (ix (L 2) (it 0)) (gi 4) Bd, tc (ix (L 2) (it 0)) (gi 5) Bd, tc (ix (L 2) (it 0)) (gi 9) Bd, tc (ix (L 2) (it 0)) (gi 8) Bd]) [rt (ix (L 2) (it 1))] [], rt (ng (it 1))]
noncomputable def Mn : VS := (fun u (_ : Jt.v = u) => u) _ (by dsimp only [Jt, Al, As, it, L, gi, eN, eC, es, ng, ix, me, tc, oN, oC, tb, ol, to, sN, sC, ss, as, If, rt, Bd])
@[irreducible] noncomputable def Dz : VP := Bi (AP 2 3 Mn)
theorem UU {xs H k} (h : AP 2 3 Mn xs H k) : Dz xs H k := by unfold Dz; exact AU h
noncomputable def NB : PF := As Dz Jt 226 2 3 1 (by unfold Dz; exact AJ _)
noncomputable def LK : WB := ss [as 2 (me 110 Lq (L 0) Al (L 1) []), If (to [tc (ix (L 2) (it 0)) (gi 2) Bd, tc (ix (L 2) (it 0)) (gi 3) Bd]) [rt (ix (L 2) (it 1))] [], If (tc (ix (L 2) (it 0)) (gi 1) Bd) [no] [], If (tc (ix (L 2) (it 0)) (gi 4) Bd) [rt (gi 5)] [], rt (it 0)]
noncomputable def Oo : VS := (fun u (_ : LK.v = u) => u) _ (by dsimp only [LK, Al, As, it, L, gi, eN, eC, es, ix, me, tc, oN, oC, tb, ol, to, sN, sC, ss, as, If, rt, no, Bd])
@[irreducible] noncomputable def Fg : VP := Bi (AP 2 3 Oo)
theorem XM {xs H k} (h : AP 2 3 Oo xs H k) : Fg xs H k := by unfold Fg; exact AU h
noncomputable def HV : PF := As Fg LK 233 2 3 1 (by unfold Fg; exact AJ _)
noncomputable def Jv : WB := ss [as 2 (me 110 Lq (L 0) Al (L 1) []), If (to [tc (ix (L 2) (it 0)) (gi 2) Bd, tc (ix (L 2) (it 0)) (gi 3) Bd]) [rt (ix (L 2) (it 2))] [], rt (tp [])]
noncomputable def Mp : VS := (fun u (_ : Jv.v = u) => u) _ (by dsimp only [Jv, Al, As, it, L, gi, eN, eC, es, tp, ix, me, tc, oN, oC, tb, ol, to, sN, sC, ss, as, If, rt, Bd])
@[irreducible] noncomputable def E4 : VP := Bi (AP 2 3 Mp)
theorem UW {xs H k} (h : AP 2 3 Mp xs H k) : E4 xs H k := by unfold E4; exact AU h
noncomputable def Hr : PF := As E4 Jv 240 2 3 1 (by unfold E4; exact AJ _)
noncomputable def E0 : WB := ss [aa 271 aL (L 1) (L 0), aa 271 Ba (L 2) (L 0), aa 271 E9 (L 3) (L 0), aa 271 CY (L 4) (L 0), aa 271 Wi (L 5) (L 0), aa 271 HM (ls []) (L 0), aa 271 Ap (lm []) (L 0), aa 271 CA (lm []) (L 0), aa 271 BH (lm []) (L 0), fr (xi (L 6)) (gn 8) [xx (ap (at_ 271 Ap (L 0)) (L 8)), xx (ap (at_ 271 CA (L 0)) (gi 0)), xx (ap (at_ 271 BH (L 0)) (tp [it 0, tp []]))], aa 271 P1 (ls []) (L 0), aa 271 C2 (ls []) (L 0), aa 271 Lx (L 7) (L 0), aa 271 TN (it 0) (L 0), aa 271 TB (ng (it 1)) (L 0), aa 271 TK (ls []) (L 0), aa 271 TF (ls []) (L 0), aa 271 P2 (ls []) (L 0), aa 271 Kf (it 0) (L 0), aa 271 Wh (it 0) (L 0)]
noncomputable def HD : VS := (fun u (_ : E0.v = u) => u) _ (by dsimp only [E0, As, it, L, gi, eN, eC, es, tp, ls, lm, ng, at_, ap, xi, gn, sN, sC, ss, aa, xx, fr])
@[irreducible] noncomputable def BQ : VP := Bi (AP 8 9 HD)
theorem L9 {xs H k} (h : AP 8 9 HD xs H k) : BQ xs H k := by unfold BQ; exact AU h
noncomputable def He : PF := As BQ E0 268 8 9 0 (by unfold BQ; exact AJ _)
noncomputable def FU : WB := ss [as 1 (lm []), fr (xr (L 0)) (gn 2) [xx (ap (L 1) (bn (tx [112]) (bl MJ (L 2)) Mk))], rt (bl Jm (L 1))]
noncomputable def IA : VS := (fun u (_ : FU.v = u) => u) _ (by dsimp only [FU, As, tx, L, eN, eC, es, lm, bn, ap, bl, Jm, MJ, xr, gn, sN, sC, ss, as, xx, rt, fr, Mk])
@[irreducible] noncomputable def Cf : VP := Bi (AP 1 3 IA)
theorem Mb {xs H k} (h : AP 1 3 IA xs H k) : Cf xs H k := by unfold Cf; exact AU h
noncomputable def IM : PF := As Cf FU 324 1 3 0 (by unfold Cf; exact AJ _)
noncomputable def Dx : WB := ss [aa 292 Cn (L 1) (L 0), aa 292 Bc (L 2) (L 0), aa 292 Ba (L 3) (L 0), aa 292 JT (L 4) (L 0), aa 292 CY (L 5) (L 0), aa 292 Lr (it 0) (L 0), aa 292 HN (ls []) (L 0), aa 292 Es (ls []) (L 0), aa 292 Bt (L 6) (L 0), aa 292 Ap (bl Jm (L 7)) (L 0), aa 292 Fv (ca IM (bl BI (L 7)) []) (L 0), aa 292 Fw (bn (tp [it 0]) (bl BI (L 7)) Zw) (L 0), aa 292 Iq GC (L 0), aa 292 Ls (it 0) (L 0)]
noncomputable def Fm : VS := (fun u (_ : Dx.v = u) => u) _ (by dsimp only [Dx, IM, As, GC, it, L, eN, eC, es, tp, ls, bn, ca, bl, BI, Jm, sN, sC, ss, aa, Zw])
@[irreducible] noncomputable def BC : VP := Bi (AP 8 8 Fm)
theorem J9 {xs H k} (h : AP 8 8 Fm xs H k) : BC xs H k := by unfold BC; exact AU h
noncomputable def F9 : PF := As BC Dx 289 8 8 1 (by unfold BC; exact AJ _)
@[irreducible] noncomputable def Cz : VP := Bi (C0 110 BD)
theorem QT {xs H k} (h : C0 110 BD xs H k) : Cz xs H k := by unfold Cz; exact AU h
noncomputable def Ku : PF := ⟨110, Cz, 2, fun hc => HI (GA.h hc) (by rw [hc]; kernel_rfl) |> fun z => (show Cz = C0 110 BD by unfold Cz; exact AJ _) ▸ z⟩
noncomputable def GU : WB := ss [aa 313 BW (c0 Ku) (L 0), aa 313 DL (lm [GC]) (L 0), aa 313 J2 (ls [GC]) (L 0), aa 313 C2 (lm [GC]) (L 0), aa 313 Nx Oh (L 0), aa 313 Ra (ls []) (L 0), aa 313 Nz (it 0) (L 0)]
noncomputable def JG : VS := (fun u (_ : GU.v = u) => u) _ (by dsimp only [GU, Ku, GA, As, GC, it, L, eN, eC, es, ls, lm, c0, d0, Oh, sN, sC, ss, aa])
@[irreducible] noncomputable def Bp : VP := Bi (AP 1 1 JG)
theorem ON {xs H k} (h : AP 1 1 JG xs H k) : Bp xs H k := by unfold Bp; exact AU h
noncomputable def Jk : PF := As Bp GU 310 1 1 2 (by unfold Bp; exact AJ _)
noncomputable def G1 : WB := ss [as 3 (at_ 271 E9 (ix (at_ 313 DL (L 0)) (L 1))), If (to [tc (L 3) (gi 2) Bd, tc (L 3) (gi 5) Bd]) [rt (ca JY (at_ 313 BW (L 0)) [L 1, L 2])] [], rt (ca Jf (at_ 313 BW (L 0)) [L 1, L 2])]
noncomputable def KV : VS := (fun u (_ : G1.v = u) => u) _ (by dsimp only [G1, Jf, JY, As, L, gi, eN, eC, es, at_, ix, ca, tc, oN, oC, tb, ol, to, sN, sC, ss, as, If, rt, Bd])
@[irreducible] noncomputable def Df : VP := Bi (AP 3 4 KV)
theorem QM {xs H k} (h : AP 3 4 KV xs H k) : Df xs H k := by unfold Df; exact AU h
noncomputable def Kp : PF := As Df G1 338 3 4 7 (by unfold Df; exact AJ _)
noncomputable def Gw : WB := ss [If (tP (L 1)) [no] [], as 2 (ix (at_ 313 DL (L 0)) (L 1)), as 3 (lm []), fr (xr (bl BI (at_ 271 Ap (L 2)))) (gn 4) [xx (ap (L 3) (ca DN (at_ 313 BW (L 0)) [L 4]))], rt (ca Kp (L 0) [L 1, bl Jm (L 3)])]
noncomputable def KO : VS := (fun u (_ : Gw.v = u) => u) _ (by dsimp only [Gw, Kp, DN, As, L, eN, eC, es, lm, at_, ix, ca, ap, bl, BI, Jm, tg, tP, xr, gn, sN, sC, ss, as, xx, If, rt, no, fr])
@[irreducible] noncomputable def Cs : VP := Bi (AP 2 5 KO)
theorem QI {xs H k} (h : AP 2 5 KO xs H k) : Cs xs H k := by unfold Cs; exact AU h
noncomputable def Km : PF := As Cs Gw 331 2 5 8 (by unfold Cs; exact AJ _)
noncomputable def G6 : WB := ss [aa 355 DA (L 1) (L 0), aa 355 oX (L 2) (L 0), aa 355 Fb (L 3) (L 0), aa 355 RZ (L 4) (L 0), aa 355 JS (L 5) (L 0), aa 355 aM (it 0) (L 0)]
noncomputable def Kb : VS := (fun u (_ : G6.v = u) => u) _ (by dsimp only [G6, As, it, L, sN, sC, ss, aa])
@[irreducible] noncomputable def CG : VP := Bi (AP 6 6 Kb)
theorem QR {xs H k} (h : AP 6 6 Kb xs H k) : CG xs H k := by unfold CG; exact AU h
noncomputable def Ks : PF := As CG G6 352 6 6 0 (by unfold CG; exact AJ _)
noncomputable def GW : WB := ss [aa 397 BS (lm []) (L 0)]
noncomputable def JI : VS := (fun u (_ : GW.v = u) => u) _ (by dsimp only [GW, As, L, eN, eC, es, lm, sN, sC, ss, aa])
@[irreducible] noncomputable def Br : VP := Bi (AP 1 1 JI)
theorem OP {xs H k} (h : AP 1 1 JI xs H k) : Br xs H k := by unfold Br; exact AU h
noncomputable def Jl : PF := As Br GW 373 1 1 0 (by unfold Br; exact AJ _)
noncomputable def G7 : WB := ss [xx (ap (at_ 397 BS (L 0)) (tp [L 1, L 2, L 3]))]
noncomputable def Kc : VS := (fun u (_ : G7.v = u) => u) _ (by dsimp only [G7, As, L, eN, eC, es, tp, at_, ap, sN, sC, ss, xx])
@[irreducible] noncomputable def Dg : VP := Bi (AP 4 4 Kc)
theorem QU {xs H k} (h : AP 4 4 Kc xs H k) : Dg xs H k := by unfold Dg; exact AU h
noncomputable def Kv : PF := As Dg G7 380 4 4 0 (by unfold Dg; exact AJ _)
noncomputable def Uz : WB := ss [rt (cm (bn (at_ 355 RZ (L 0)) (L 1) Tv) (it 0) MU)]
noncomputable def Zz : VS := (fun u (_ : Uz.v = u) => u) _ (by dsimp only [Uz, As, it, L, bn, cm, at_, sN, sC, ss, rt, Tv, MU])
@[irreducible] noncomputable def LN : VP := Bi (AP 2 2 Zz)
theorem aV {xs H k} (h : AP 2 2 Zz xs H k) : LN xs H k := by unfold LN; exact AU h
noncomputable def ah : PF := As LN Uz 408 2 2 0 (by unfold LN; exact AJ _)
noncomputable def Ie : WB := ss [aa 425 aO (L 1) (L 0), aa 425 Ba (L 2) (L 0), aa 425 DA (L 3) (L 0), aa 425 CY (L 4) (L 0), aa 425 Bc (L 5) (L 0), aa 425 Kg (ng (it 1)) (L 0), aa 425 Hl (it 0) (L 0)]
noncomputable def LY : VS := (fun u (_ : Ie.v = u) => u) _ (by dsimp only [Ie, As, it, L, ng, sN, sC, ss, aa])
@[irreducible] noncomputable def Cj : VP := Bi (AP 6 6 LY)
theorem R3 {xs H k} (h : AP 6 6 LY xs H k) : Cj xs H k := by unfold Cj; exact AU h
noncomputable def MH : PF := As Cj Ie 422 6 6 0 (by unfold Cj; exact AJ _)
noncomputable def Jw : WB := ss [aa 446 Ip (L 1) (L 0), aa 446 Cn (L 2) (L 0), aa 446 Lu (lm []) (L 0), aa 446 Ap (lm []) (L 0), aa 446 DU (ng (it 1)) (L 0), aa 446 Bt (it 0) (L 0), aa 446 Iq GC (L 0), aa 446 Yx (L 3) (L 0), aa 446 E9 (gi 0) (L 0), aa 446 HP (ng (it 1)) (L 0), aa 446 JS (L 4) (L 0)]
noncomputable def Mq : VS := (fun u (_ : Jw.v = u) => u) _ (by dsimp only [Jw, As, GC, it, L, gi, eN, eC, es, lm, ng, sN, sC, ss, aa])
@[irreducible] noncomputable def DM : VP := Bi (AP 5 5 Mq)
theorem UY {xs H k} (h : AP 5 5 Mq xs H k) : DM xs H k := by unfold DM; exact AU h
noncomputable def NF : PF := As DM Jw 443 5 5 0 (by unfold DM; exact AJ _)
@[irreducible] noncomputable def Fi : VP := Bi (C0 397 Br)
theorem ZJ {xs H k} (h : C0 397 Br xs H k) : Fi xs H k := by unfold Fi; exact AU h
noncomputable def Td : PF := ⟨397, Fi, 2, fun hc => HI (Jl.h hc) (by rw [hc]; kernel_rfl) |> fun z => (show Fi = C0 397 Br by unfold Fi; exact AJ _) ▸ z⟩
noncomputable def G4 : WB := ss [aa 467 CX (L 1) (L 0), aa 467 Lx (L 2) (L 0), aa 467 II (lm [GC]) (L 0), aa 467 E7 (lm [GC]) (L 0), aa 467 Fx Ff (L 0), aa 467 Eg (c0 Td) (L 0), aa 467 Ny Ff (L 0), aa 467 Lp Ff (L 0), aa 467 Lv Ff (L 0)]
noncomputable def KZ : VS := (fun u (_ : G4.v = u) => u) _ (by dsimp only [G4, Td, Jl, As, GC, L, eN, eC, es, lm, c0, d0, Ff, sN, sC, ss, aa])
@[irreducible] noncomputable def CE : VP := Bi (AP 3 3 KZ)
theorem QP {xs H k} (h : AP 3 3 KZ xs H k) : CE xs H k := by unfold CE; exact AU h
noncomputable def Kq : PF := As CE G4 464 3 3 2 (by unfold CE; exact AJ _)
@[irreducible] noncomputable def Ml : VP := Bi (C0 446 DM)
theorem uq {xs H k} (h : C0 446 DM xs H k) : Ml xs H k := by unfold Ml; exact AU h
noncomputable def mS : PF := ⟨446, Ml, 2, fun hc => HI (NF.h hc) (by rw [hc]; kernel_rfl) |> fun z => (show Ml = C0 446 DM by unfold Ml; exact AJ _) ▸ z⟩
noncomputable def LL : WB := ss [as 4 (bl BI (at_ 467 II (L 0))), xx (ap (at_ 467 II (L 0)) (ca mS (L 4) [L 1, L 2, L 3])), If (tv (L 1)) [ai (L 4) (at_ 467 Fx (L 0)) (L 1)] [], rt (L 4)]
noncomputable def Oq : VS := (fun u (_ : LL.v = u) => u) _ (by dsimp only [LL, mS, NF, As, L, eN, eC, es, at_, ca, ap, bl, BI, tv, sN, sC, ss, as, ai, xx, If, rt])
@[irreducible] noncomputable def Eo : VP := Bi (AP 4 5 Oq)
theorem XN {xs H k} (h : AP 4 5 Oq xs H k) : Eo xs H k := by unfold Eo; exact AU h
noncomputable def QZ : PF := As Eo LL 478 4 5 2 (by unfold Eo; exact AJ _)
@[irreducible] noncomputable def Jx : VP := Bi (C0 425 Cj)
theorem mJ {xs H k} (h : C0 425 Cj xs H k) : Jx xs H k := by unfold Jx; exact AU h
noncomputable def ak : PF := ⟨425, Jx, 2, fun hc => HI (MH.h hc) (by rw [hc]; kernel_rfl) |> fun z => (show Jx = C0 425 Cj by unfold Jx; exact AJ _) ▸ z⟩
noncomputable def Js : WB := ss [as 5 (bl BI (at_ 467 E7 (L 0))), xx (ap (at_ 467 E7 (L 0)) (ca ak (L 5) [L 2, L 3, L 4, L 1])), If (tv (L 1)) [xx (ap (at_ 446 Lu (ix (at_ 467 II (L 0)) (L 1))) (L 5))] [], rt (L 5)]
noncomputable def Mm : VS := (fun u (_ : Js.v = u) => u) _ (by dsimp only [Js, ak, MH, As, L, eN, eC, es, at_, ix, ca, ap, bl, BI, tv, sN, sC, ss, as, xx, If, rt])
@[irreducible] noncomputable def E3 : VP := Bi (AP 5 6 Mm)
theorem UT {xs H k} (h : AP 5 6 Mm xs H k) : E3 xs H k := by unfold E3; exact AU h
noncomputable def NA : PF := As E3 Js 485 5 6 2 (by unfold E3; exact AJ _)
noncomputable def EZ : WB := ss [aa 544 BW (L 1) (L 0), aa 544 N0 Ff (L 0), aa 544 HM Ff (L 0), aa 544 Nw Ff (L 0), aa 544 CA Ff (L 0), aa 544 JQ Ff (L 0), aa 544 BH Ff (L 0), aa 544 DJ Ff (L 0), aa 544 RY Ff (L 0)]
noncomputable def Gk : VS := (fun u (_ : EZ.v = u) => u) _ (by dsimp only [EZ, As, L, d0, Ff, sN, sC, ss, aa])
@[irreducible] noncomputable def BJ : VP := Bi (AP 2 2 Gk)
theorem K6 {xs H k} (h : AP 2 2 Gk xs H k) : BJ xs H k := by unfold BJ; exact AU h
noncomputable def Gq : PF := As BJ EZ 499 2 2 0 (by unfold BJ; exact AJ _)
noncomputable def FT : WB := ss [aa 544 BH Ff (L 0), aa 544 DJ Ff (L 0), If (tv (L 2)) [as 4 (it 0), fr (xi (at_ 271 BH (ix (at_ 313 DL (L 1)) (L 2)))) (gt 2 [gn 5, gn 6]) [ai (bl Jm (L 6)) (at_ 544 BH (L 0)) (ca DN (at_ 544 BW (L 0)) [L 4]), ai (L 5) (at_ 544 DJ (L 0)) (ca DN (at_ 544 BW (L 0)) [L 4]), au 4 (it 1) Iz]] [], If (tv (L 3)) [as 4 (it 0), fr (xi (at_ 292 Es (ix (at_ 313 C2 (L 1)) (L 3)))) (gt 2 [gn 5, gn 6]) [ai (bl Jm (L 6)) (at_ 544 BH (L 0)) (ca EU (at_ 544 BW (L 0)) [L 4]), ai (L 5) (at_ 544 DJ (L 0)) (ca EU (at_ 544 BW (L 0)) [L 4]), au 4 (it 1) Iz]] []]
noncomputable def Hz : VS := (fun u (_ : FT.v = u) => u) _ (by dsimp only [FT, EU, DN, As, it, L, eN, eC, es, at_, ix, ca, bl, Jm, d0, Ff, tv, xi, gn, gE, gK, gl, gt, sN, sC, ss, as, aa, ai, If, au, fr, Iz])
@[irreducible] noncomputable def Ce : VP := Bi (AP 4 7 Hz)
theorem Ma {xs H k} (h : AP 4 7 Hz xs H k) : Ce xs H k := by unfold Ce; exact AU h
noncomputable def IL : PF := As Ce FT 555 4 7 7 (by unfold Ce; exact AJ _)
noncomputable def FY : WB := ss [aa 677 cp Ff (L 0), aa 677 Yy Ff (L 0), aa 677 JQ Ff (L 0), aa 677 Wg Ff (L 0)]
noncomputable def IF : VS := (fun u (_ : FY.v = u) => u) _ (by dsimp only [FY, As, L, d0, Ff, sN, sC, ss, aa])
@[irreducible] noncomputable def BZ : VP := Bi (AP 1 1 IF)
theorem Mf {xs H k} (h : AP 1 1 IF xs H k) : BZ xs H k := by unfold BZ; exact AU h
noncomputable def IS : PF := As BZ FY 597 1 1 0 (by unfold BZ; exact AJ _)
@[irreducible] noncomputable def Ep : VP := Bi (C0 677 BZ)
theorem XO {xs H k} (h : C0 677 BZ xs H k) : Ep xs H k := by unfold Ep; exact AU h
noncomputable def Qa : PF := ⟨677, Ep, 2, fun hc => HI (IS.h hc) (by rw [hc]; kernel_rfl) |> fun z => (show Ep = C0 677 BZ by unfold Ep; exact AJ _) ▸ z⟩
noncomputable def Qc : PF := ⟨698, Se 698, 1, fun hc => VQ (by rw [hc]; kernel_rfl)⟩
noncomputable def Tc : PF := ⟨579, Se 579, 1, fun hc => VQ (by rw [hc]; kernel_rfl)⟩
noncomputable def Qb : PF := ⟨719, Se 719, 1, fun hc => VQ (by rw [hc]; kernel_rfl)⟩
noncomputable def G5 : WB := ss [aa 906 E8 (L 1) (L 0), aa 906 CX (at_ 467 CX (L 1)) (L 0), aa 906 BW (at_ 313 BW (at_ 467 CX (L 1))) (L 0), aa 906 Io (L 3) (L 0), aa 906 Lx (L 2) (L 0), aa 906 TH Ff (L 0), aa 906 TA Ff (L 0), aa 906 We (ls []) (L 0), aa 906 Eg (at_ 467 Eg (L 1)) (L 0), aa 906 TL Ff (L 0), aa 906 TC Ff (L 0), aa 906 DL Ff (L 0), aa 906 Cm (ls []) (L 0), aa 906 BS (ls []) (L 0), aa 906 EM Ff (L 0), aa 906 Pz GC (L 0), aa 906 Bc (it 0) (L 0), aa 906 Cn (it 0) (L 0), aa 906 Dm (it 0) (L 0), aa 906 HL (it 0) (L 0), aa 906 DV (it 0) (L 0), aa 906 HO (it 0) (L 0), aa 906 Hk (ls []) (L 0), aa 906 P4 (it 0) (L 0), aa 906 Bh Oh (L 0), aa 906 M1 (ls []) (L 0), aa 906 TJ (c0 Tc) (L 0), aa 906 Px (c0 Qa) (L 0), aa 906 P0 (c0 Qc) (L 0), aa 906 Py (c0 Qb) (L 0), aa 906 TM (it 0) (L 0), aa 906 J3 (it 0) (L 0), aa 906 JS (it 0) (L 0), aa 906 TG Ff (L 0)]
noncomputable def Ka : VS := (fun u (_ : G5.v = u) => u) _ (by dsimp only [G5, Qc, Tc, Qb, Qa, IS, As, GC, it, L, eN, eC, es, ls, at_, c0, d0, Oh, Ff, sN, sC, ss, aa])
@[irreducible] noncomputable def CF : VP := Bi (AP 4 4 Ka)
theorem QQ {xs H k} (h : AP 4 4 Ka xs H k) : CF xs H k := by unfold CF; exact AU h
noncomputable def Kr : PF := As CF G5 826 4 4 2 (by unfold CF; exact AJ _)
noncomputable def NV : WB := ss [If (tc (L 1) GC YL) [rt (at_ 906 JS (L 0))] [], rt (at_ 355 JS (L 1))]
noncomputable def Sb : VS := (fun u (_ : NV.v = u) => u) _ (by dsimp only [NV, As, GC, L, at_, tc, sN, sC, ss, If, rt, YL])
@[irreducible] noncomputable def I0 : VP := Bi (AP 2 2 Sb)
theorem ZH {xs H k} (h : AP 2 2 Sb xs H k) : I0 xs H k := by unfold I0; exact AU h
noncomputable def Ta : PF := As I0 NV 929 2 2 0 (by unfold I0; exact AJ _)
noncomputable def GV : WB := ss [xx (me 397 BO (at_ 906 Eg (L 0)) Kv (L 1) [ca Ta (L 0) [L 2], L 3])]
noncomputable def JH : VS := (fun u (_ : GV.v = u) => u) _ (by dsimp only [GV, Kv, Ta, As, L, eN, eC, es, at_, ca, me, sN, sC, ss, xx])
@[irreducible] noncomputable def Bq : VP := Bi (AP 4 4 JH)
theorem OO {xs H k} (h : AP 4 4 JH xs H k) : Bq xs H k := by unfold Bq; exact AU h
noncomputable def C5 : PF := As Bq GV 868 4 4 1 (by unfold Bq; exact AJ _)
noncomputable def EW : WB := ss [fr (xi (uL (at_ 906 Cm (L 0)) (ng (it 1)))) (gn 2) [If (tc (L 1) (L 2) U1) [rt (K0 true)] []], rt (cm (L 1) (gI (at_ 906 EM (L 0)) (bl BI (at_ 906 Cm (L 0))) Oh) U1)]
noncomputable def Gh : VS := (fun u (_ : EW.v = u) => u) _ (by dsimp only [EW, As, K0, it, L, cm, ng, at_, cC, uL, gI, bl, BI, d0, Oh, tc, xi, gn, sN, sC, ss, If, rt, fr, U1])
@[irreducible] noncomputable def By : VP := Bi (AP 2 3 Gh)
theorem K1 {xs H k} (h : AP 2 3 Gh xs H k) : By xs H k := by unfold By; exact AU h
noncomputable def Gp : PF := As By EW 950 2 3 0 (by unfold By; exact AJ _)
noncomputable def Ey : WB := ss [as 4 (ix (at_ 906 Cm (L 0)) (ng (it 1))), If (tc (L 1) (L 4) U1) [no] [If (tv (ca Gp (L 0) [L 1])) [no] []], as 5 (it 0), If (tc (at_ 906 Pz (L 0)) GC NW) [as 5 (at_ 446 Ip (at_ 906 Pz (L 0)))] [], as 6 (ca NA (at_ 906 E8 (L 0)) [L 5, L 1, L 2, L 3]), aa 425 Hl (ix (at_ 906 BS (L 0)) (ng (it 1))) (ix (at_ 467 E7 (at_ 906 E8 (L 0))) (L 6)), If (tc (L 1) (L 4) SY) [ai (L 6) (L 4) (L 1)] [], rt (L 6)]
noncomputable def HB : VS := (fun u (_ : Ey.v = u) => u) _ (by dsimp only [Ey, NA, Gp, As, GC, it, L, eN, eC, es, ng, at_, ix, ca, tv, tc, sN, sC, ss, as, aa, ai, If, rt, no, NW, U1, SY])
@[irreducible] noncomputable def CK : VP := Bi (AP 4 7 HB)
theorem L7 {xs H k} (h : AP 4 7 HB xs H k) : CK xs H k := by unfold CK; exact AU h
noncomputable def HY : PF := As CK Ey 957 4 7 3 (by unfold CK; exact AJ _)
noncomputable def E1 : WB := ss [rt (ca HY (L 0) [L 1, L 2, L 3])]
noncomputable def HE : VS := (fun u (_ : E1.v = u) => u) _ (by dsimp only [E1, HY, As, L, eN, eC, es, ca, sN, sC, ss, rt])
@[irreducible] noncomputable def Bg : VP := Bi (AP 4 4 HE)
theorem MA {xs H k} (h : AP 4 4 HE xs H k) : Bg xs H k := by unfold Bg; exact AU h
noncomputable def Hg : PF := As Bg E1 882 4 4 4 (by unfold Bg; exact AJ _)
noncomputable def G3 : WB := ss [rt (bl MJ (L 1))]
noncomputable def KY : VS := (fun u (_ : G3.v = u) => u) _ (by dsimp only [G3, As, L, bl, MJ, sN, sC, ss, rt])
@[irreducible] noncomputable def Cw : VP := Bi (AP 2 2 KY)
theorem QO {xs H k} (h : AP 2 2 KY xs H k) : Cw xs H k := by unfold Cw; exact AU h
noncomputable def FQ : PF := As Cw G3 758 2 2 0 (by unfold Cw; exact AJ _)
noncomputable def U0 : WB := ss [rt (tp [gi 1, gi 15, it 0])]
noncomputable def Z0 : VS := (fun u (_ : U0.v = u) => u) _ (by dsimp only [U0, As, it, gi, eN, eC, es, tp, sN, sC, ss, rt])
@[irreducible] noncomputable def NX : VP := Bi (AP 1 1 Z0)
theorem mH {xs H k} (h : AP 1 1 Z0 xs H k) : NX xs H k := by unfold NX; exact AU h
noncomputable def aj : PF := As NX U0 915 1 1 0 (by unfold NX; exact AJ _)
noncomputable def Ex : WB := ss [aa 906 Bc (L 1) (L 0), aa 906 Cn (L 2) (L 0), aa 906 Bh Oh (L 0), as 4 (ix (at_ 313 DL (at_ 906 CX (L 0))) (L 1)), fr (xr (bl BI (at_ 271 Ap (L 4)))) (gn 5) [ai (ca DN (at_ 906 BW (L 0)) [L 5]) (at_ 906 Bh (L 0)) (ix (at_ 271 Ap (L 4)) (L 5))], fr (xr (bl BI (L 3))) (gn 5) [ai (ca EU (at_ 906 BW (L 0)) [L 5]) (at_ 906 Bh (L 0)) (ix (L 3) (L 5))], xx (ca IL (at_ 906 Io (L 0)) [at_ 906 CX (L 0), L 1, L 2])]
noncomputable def HA : VS := (fun u (_ : Ex.v = u) => u) _ (by dsimp only [Ex, EU, IL, DN, As, L, eN, eC, es, at_, ix, ca, bl, BI, d0, Oh, xr, gn, sN, sC, ss, as, aa, ai, xx, fr])
@[irreducible] noncomputable def CJ : VP := Bi (AP 4 6 HA)
theorem L6 {xs H k} (h : AP 4 6 HA xs H k) : CJ xs H k := by unfold CJ; exact AU h
noncomputable def HX : PF := As CJ Ex 964 4 6 8 (by unfold CJ; exact AJ _)
noncomputable def Eu : WB := ss [rt (lc [] (xi (at_ 355 Fb (L 0))) fN (ix (at_ 355 oX (L 0)) (it 0)))]
noncomputable def G8 : VS := (fun u (_ : Eu.v = u) => u) _ (by dsimp only [Eu, As, it, L, at_, ix, xi, sN, sC, ss, rt, fN, lc])
@[irreducible] noncomputable def Be : VP := Bi (AP 1 1 G8)
theorem L1 {xs H k} (h : AP 1 1 G8 xs H k) : Be xs H k := by unfold Be; exact AU h
noncomputable def HU : PF := As Be Eu 969 1 1 0 (by unfold Be; exact AJ _)
noncomputable def Dc : WB := ss [aa 906 Cm (lm []) (L 0), aa 906 BS (lm []) (L 0), aa 906 EM Ff (L 0), aa 906 Hk (ls []) (L 0), aa 906 J3 (it 0) (L 0)]
noncomputable def FI : VS := (fun u (_ : Dc.v = u) => u) _ (by dsimp only [Dc, As, it, L, eN, eC, es, ls, lm, d0, Ff, sN, sC, ss, aa])
@[irreducible] noncomputable def BX : VP := Bi (AP 1 1 FI)
theorem JV {xs H k} (h : AP 1 1 FI xs H k) : BX xs H k := by unfold BX; exact AU h
noncomputable def FO : PF := As BX Dc 976 1 1 0 (by unfold BX; exact AJ _)
noncomputable def GF : WB := ss [xx (me 906 JR (L 0) C5 (L 1) [L 2, L 3]), rt (ca aj (ng (it 1)) [])]
noncomputable def I3 : VS := (fun u (_ : GF.v = u) => u) _ (by dsimp only [GF, C5, aj, As, it, L, eN, eC, es, ng, ca, me, sN, sC, ss, xx, rt])
@[irreducible] noncomputable def DC : VP := Bi (AP 4 4 I3)
theorem OC {xs H k} (h : AP 4 4 I3 xs H k) : DC xs H k := by unfold DC; exact AU h
noncomputable def JZ : PF := As DC GF 983 4 4 2 (by unfold DC; exact AJ _)
noncomputable def Ez : WB := ss [If (tc (ca CB (at_ 906 BW (L 0)) [L 1]) (gi 2) MU) [rt (ng (it 1))] [], If (tc (ca HV (at_ 906 BW (L 0)) [L 1]) (gi 38) Bd) [rt (gi 0)] [], If (tc (ca HV (at_ 906 BW (L 0)) [L 1]) (gi 39) Bd) [rt (ix (ca Hr (at_ 906 BW (L 0)) [L 1]) (it 0))] [], rt (ng (it 1))]
noncomputable def HC : VS := (fun u (_ : Ez.v = u) => u) _ (by dsimp only [Ez, Hr, CB, HV, As, it, L, gi, eN, eC, es, ng, at_, ix, ca, tc, sN, sC, ss, If, rt, Bd, MU])
@[irreducible] noncomputable def CL : VP := Bi (AP 2 2 HC)
theorem L8 {xs H k} (h : AP 2 2 HC xs H k) : CL xs H k := by unfold CL; exact AU h
noncomputable def HZ : PF := As CL Ez 990 2 2 2 (by unfold CL; exact AJ _)
noncomputable def FV : WB := ss [xx (ap (at_ 906 Cm (L 0)) Oh), xx (ap (at_ 906 BS (L 0)) (it 0)), ai Oh (at_ 906 EM (L 0)) (bl BI (at_ 906 Cm (L 0)))]
noncomputable def IB : VS := (fun u (_ : FV.v = u) => u) _ (by dsimp only [FV, As, it, L, at_, ap, bl, BI, d0, Oh, sN, sC, ss, ai, xx])
@[irreducible] noncomputable def Bz : VP := Bi (AP 1 1 IB)
theorem Mc {xs H k} (h : AP 1 1 IB xs H k) : Bz xs H k := by unfold Bz; exact AU h
noncomputable def IP : PF := As Bz FV 997 1 1 0 (by unfold Bz; exact AJ _)
noncomputable def GR : WB := ss [as 3 (ie (tc (L 1) (gi 0) MU) (ca HZ (L 0) [L 1]) (ng (it 1))), If (tc (L 3) (it 0) Sa) [xx (ca JZ (L 0) [it 1983, L 2, tp [me 906 RX (L 0) FQ (L 1) []]]), rt (gi 0)] [], rt (L 3)]
noncomputable def JE : VS := (fun u (_ : GR.v = u) => u) _ (by dsimp only [GR, FQ, HZ, JZ, As, it, L, gi, eN, eC, es, tp, ng, ie, ca, me, tc, sN, sC, ss, as, xx, If, rt, MU, Sa])
@[irreducible] noncomputable def DG : VP := Bi (AP 3 4 JE)
theorem JW {xs H k} (h : AP 3 4 JE xs H k) : DG xs H k := by unfold DG; exact AU h
noncomputable def Ji : PF := As DG GR 1004 3 4 3 (by unfold DG; exact AJ _)
noncomputable def Ju : WB := ss [If (tc (L 0) GC YL) [rt GC] [], If (tc (at_ 355 DA (L 0)) (gi 91) Bd) [rt (ix (at_ 355 Fb (L 0)) (it 4))] [], If (tc (at_ 355 DA (L 0)) (tp [gi 92, gi 99]) YU) [rt (ix (at_ 355 Fb (L 0)) (it 2))] [], rt (ix (at_ 355 Fb (L 0)) (it 0))]
noncomputable def Mo : VS := (fun u (_ : Ju.v = u) => u) _ (by dsimp only [Ju, As, GC, it, L, gi, eN, eC, es, tp, at_, ix, tc, sN, sC, ss, If, rt, Bd, YL, YU])
@[irreducible] noncomputable def D0 : VP := Bi (AP 1 1 Mo)
theorem J8 {xs H k} (h : AP 1 1 Mo xs H k) : D0 xs H k := by unfold D0; exact AU h
noncomputable def NC : PF := As D0 Ju 1011 1 1 0 (by unfold D0; exact AJ _)
noncomputable def Ca : WB := ss [If (tc (ca CB (at_ 906 BW (L 0)) [ix (at_ 292 Ap (L 1)) (L 2)]) (gi 5) MU) [rt (gi 1)] [], If (ta [tc (L 2) (bl BI (at_ 292 Fw (L 1))) Sa, tv (bn (ix (at_ 292 Fw (L 1)) (L 2)) (gi 1) Tv)]) [rt (bn (gi 1) (gi 4) pY)] [], rt (bn (gi 1) (gi 2) pY)]
noncomputable def EH : VS := (fun u (_ : Ca.v = u) => u) _ (by dsimp only [Ca, CB, As, L, gi, eN, eC, es, bn, at_, ix, ca, bl, BI, tv, tc, aN, aC, tb, al, ta, sN, sC, ss, If, rt, Tv, pY, MU, Sa])
@[irreducible] noncomputable def Ax : VP := Bi (AP 3 3 EH)
theorem HR {xs H k} (h : AP 3 3 EH xs H k) : Ax xs H k := by unfold Ax; exact AU h
noncomputable def EV : PF := As Ax Ca 1018 3 3 2 (by unfold Ax; exact AJ _)
noncomputable def Bx : WB := ss [fr (xr (bl BI (at_ 292 Ap (L 1)))) (gn 3) [as 4 (ca EV (L 0) [L 1, L 3]), as 5 (ix (at_ 292 Ap (L 1)) (L 3)), If (tc (L 4) (gi 1) MU) [as 5 (ca NB (at_ 906 BW (L 0)) [L 5])] [], as 6 (me 906 M3 (L 0) Hg (ix (at_ 292 Fv (L 1)) (L 3)) [L 5, L 4]), aa 425 Kg (L 3) (ix (at_ 467 E7 (at_ 906 E8 (L 0))) (L 6)), xx (ap (at_ 446 Ap (L 2)) (L 6))]]
noncomputable def DR : VS := (fun u (_ : Bx.v = u) => u) _ (by dsimp only [Bx, Hg, NB, EV, As, L, gi, eN, eC, es, at_, ix, ca, me, ap, bl, BI, tc, xr, gn, sN, sC, ss, as, aa, xx, If, fr, MU])
@[irreducible] noncomputable def Aq : VP := Bi (AP 3 7 DR)
theorem Fy {xs H k} (h : AP 3 7 DR xs H k) : Aq xs H k := by unfold Aq; exact AU h
noncomputable def DX : PF := As Aq Bx 1025 3 7 5 (by unfold Aq; exact AJ _)
noncomputable def LJ : WB := ss [as 1 (lm [L 0]), wh (tv (L 1)) [as 2 (po (L 1)), If (to [tc (L 2) GC YL, tc (at_ 355 DA (L 2)) (gi 30) Bd]) [ct] [], If (tc (at_ 355 DA (L 2)) (tp [gi 71, gi 72]) YU) [rt (K0 true)] [], fr (xi (at_ 355 Fb (L 2))) (gn 3) [xx (ap (L 1) (L 3))]], rt (K0 false)]
noncomputable def Om : VS := (fun u (_ : LJ.v = u) => u) _ (by dsimp only [LJ, As, GC, K0, L, gi, eN, eC, es, tp, lm, at_, ap, po, tv, tc, oN, oC, tb, ol, to, xi, gn, sN, sC, ss, as, xx, If, rt, ct, wh, fr, Bd, YL, YU])
@[irreducible] noncomputable def Em : VP := Bi (AP 1 4 Om)
theorem XK {xs H k} (h : AP 1 4 Om xs H k) : Em xs H k := by unfold Em; exact AU h
noncomputable def QY : PF := As Em LJ 1032 1 4 0 (by unfold Em; exact AJ _)
noncomputable def GH : WB := ss [fr (xi (at_ 292 Ap (L 1))) (gn 4) [If (tc (ca CB (at_ 906 BW (L 0)) [L 4]) (gi 5) Bd) [xx (me 906 JR (L 0) C5 (L 2) [L 3, tp [at_ 292 Ba (L 1)]]), r0] []]]
noncomputable def I5 : VS := (fun u (_ : GH.v = u) => u) _ (by dsimp only [GH, C5, CB, As, L, gi, eN, eC, es, tp, at_, ca, me, tc, xi, gn, sN, sC, ss, xx, If, r0, fr, Bd])
@[irreducible] noncomputable def DD : VP := Bi (AP 4 5 I5)
theorem OD {xs H k} (h : AP 4 5 I5 xs H k) : DD xs H k := by unfold DD; exact AU h
noncomputable def Ej : PF := As DD GH 1039 4 5 2 (by unfold DD; exact AJ _)
noncomputable def Ew : WB := ss [xx (ca Ej (L 0) [L 1, it 1623, L 3]), If (to [tc (at_ 446 E9 (L 2)) (gi 2) Bd, tc (ca CB (at_ 906 BW (L 0)) [at_ 292 Bt (L 1)]) (gi 2) MU, tc (ca HV (at_ 906 BW (L 0)) [at_ 292 Bt (L 1)]) (tp [gi 35, gi 36]) SW]) [xx (me 906 JR (L 0) C5 (it 1624) [L 3, tp [at_ 292 Ba (L 1), me 906 RX (L 0) FQ (at_ 292 Bt (L 1)) []]]), aa 446 HP (gi 0) (L 2)] [aa 446 HP (ix (ca Hr (at_ 906 BW (L 0)) [at_ 292 Bt (L 1)]) (it 0)) (L 2)], aa 446 E9 (gi 1) (L 2)]
noncomputable def G9 : VS := (fun u (_ : Ew.v = u) => u) _ (by dsimp only [Ew, C5, FQ, Hr, CB, Ej, HV, As, it, L, gi, eN, eC, es, tp, at_, ix, ca, me, tc, oN, oC, tb, ol, to, sN, sC, ss, aa, xx, If, Bd, MU, SW])
@[irreducible] noncomputable def Bf : VP := Bi (AP 4 4 G9)
theorem L4 {xs H k} (h : AP 4 4 G9 xs H k) : Bf xs H k := by unfold Bf; exact AU h
noncomputable def HW : PF := As Bf Ew 1053 4 4 3 (by unfold Bf; exact AJ _)
noncomputable def IV : WB := ss [If (tc (L 3) GC YL) [r0] [], If (ta [tc (at_ 355 DA (L 3)) (gi 91) Bd, tv (ca ah (L 3) [gi 4096])]) [aa 446 E9 (gi 2) (L 2), aa 446 HP (ca Ji (L 0) [at_ 292 Bt (L 1), L 3]) (L 2), xx (ca Ej (L 0) [L 1, it 1988, L 3])] [], If (tv (ca QY (ca NC (L 3) []) [])) [xx (ca HW (L 0) [L 1, L 2, L 3])] []]
noncomputable def LP : VS := (fun u (_ : IV.v = u) => u) _ (by dsimp only [IV, Ji, NC, ah, Ej, HW, QY, As, GC, it, L, gi, eN, eC, es, at_, ca, tv, tc, aN, aC, tb, al, ta, sN, sC, ss, aa, xx, If, r0, Bd, YL])
@[irreducible] noncomputable def Cd : VP := Bi (AP 4 4 LP)
theorem L2 {xs H k} (h : AP 4 4 LP xs H k) : Cd xs H k := by unfold Cd; exact AU h
noncomputable def MC : PF := As Cd IV 1046 4 4 4 (by unfold Cd; exact AJ _)
noncomputable def GN : WB := ss [as 3 (ix (at_ 313 C2 (at_ 906 CX (L 0))) (L 1)), as 4 (ls []), If (ta [tc (L 2) GC NW, tc (at_ 355 DA (L 2)) (gi 91) Bd]) [as 4 (ca HU (ix (at_ 355 Fb (L 2)) (it 1)) [])] [], xx (ca HX (L 0) [at_ 292 Bc (L 3), L 1, L 4]), xx (ca FO (L 0) []), aa 906 Dm (ie (tv (bn (at_ 292 CY (L 3)) (gi 1) Tv)) (it 1) (it 0)) (L 0), aa 906 HL (it 0) (L 0), aa 906 DV (it 0) (L 0), aa 906 HO (it 0) (L 0), as 5 (ca QZ (at_ 906 E8 (L 0)) [L 1, it 0, ie (tc (L 2) GC YL) (it 0) (at_ 355 JS (L 2))]), as 6 (ix (at_ 467 II (at_ 906 E8 (L 0))) (L 5)), aa 446 Bt (at_ 292 Bt (L 3)) (L 6), If (tn (tv (at_ 906 Dm (L 0)))) [aa 446 DU (ca Km (at_ 906 CX (L 0)) [at_ 292 Bc (L 3)]) (L 6)] [], aa 906 Pz (L 6) (L 0), rt (L 6)]
noncomputable def JA : VS := (fun u (_ : GN.v = u) => u) _ (by dsimp only [GN, HX, QZ, Km, FO, HU, As, GC, it, L, gi, eN, eC, es, ls, bn, ie, at_, ix, ca, tv, tn, tc, aN, aC, tb, al, ta, sN, sC, ss, as, aa, xx, If, rt, Tv, Bd, YL, NW])
@[irreducible] noncomputable def CS : VP := Bi (AP 3 7 JA)
theorem OI {xs H k} (h : AP 3 7 JA xs H k) : CS xs H k := by unfold CS; exact AU h
noncomputable def Je : PF := As CS GN 1060 3 7 9 (by unfold CS; exact AJ _)
noncomputable def IY : WB := ss [If (tc (ix (L 0) (tx [112, 108, 97, 99, 101])) (bl BI (ix (L 0) (tx [103, 105, 118, 101, 110]))) Sa) [ax (L 0) (tx [112, 108, 97, 99, 101]) (it 1) Iz, rt (bn (ix (ix (L 0) (tx [103, 105, 118, 101, 110])) (bn (ix (L 0) (tx [112, 108, 97, 99, 101])) (it 1) Tt)) (L 1) Iy)] [], ai (bn (bn (bn (ix (L 0) (tx [115, 101, 101, 100])) (it 37) fq) (it 11) E2) (it 1009) Iy) (L 0) (tx [115, 101, 101, 100]), rt (bn (bn (ix (L 0) (tx [115, 101, 101, 100])) (it 3) YW) (L 1) Iy)]
noncomputable def LS : VS := (fun u (_ : IY.v = u) => u) _ (by dsimp only [IY, As, it, tx, L, bn, ix, bl, BI, tc, sN, sC, ss, ai, If, rt, ax, E2, Tt, Iy, YW, fq, Sa, Iz])
@[irreducible] noncomputable def Ad : VP := Bi (AP 2 2 LS)
theorem Rw {xs H k} (h : AP 2 2 LS xs H k) : Ad xs H k := by unfold Ad; exact AU h
noncomputable def AW : PF := As Ad IY 1067 2 2 0 (by unfold Ad; exact AJ _)
@[irreducible] noncomputable def I1 : VP := Bi (Sd 355 CG)
theorem di {xs H k} (h : Sd 355 CG xs H k) : I1 xs H k := by unfold I1; exact AU h
noncomputable def XX : PF := ⟨355, I1, 2, fun hc => gz (Ks.h hc) (by rw [hc]; kernel_rfl) |> fun z => (show I1 = Sd 355 CG by unfold I1; exact AJ _) ▸ z⟩
noncomputable def Ia : WB := ss [ax (L 0) (tx [110, 111, 100, 101, 115]) (it 1) Iz, rt (ca XX (L 1) [L 2, L 3, L 4, ix (L 0) (tx [110, 111, 100, 101, 115])])]
noncomputable def LV : VS := (fun u (_ : Ia.v = u) => u) _ (by dsimp only [Ia, XX, Ks, As, it, tx, L, eN, eC, es, ix, ca, sN, sC, ss, rt, ax, Iz])
@[irreducible] noncomputable def Bk : VP := Bi (AP 5 5 LV)
theorem Ry {xs H k} (h : AP 5 5 LV xs H k) : Bk xs H k := by unfold Bk; exact AU h
noncomputable def Ac : PF := As Bk Ia 1074 5 5 2 (by unfold Bk; exact AJ _)
noncomputable def GK : WB := ss [as 2 (ca Ac (L 0) [gi 50, tx [], L 1, it 0]), rt (ca Ac (L 0) [gi 53, tx [], ls [ca Ac (L 0) [gi 30, tx [], ls [ca Ac (L 0) [gi 110, tx [], ls [], it 0], L 2], it 0]], it 0])]
noncomputable def I8 : VS := (fun u (_ : GK.v = u) => u) _ (by dsimp only [GK, Ac, As, it, tx, L, gi, eN, eC, es, ls, ca, sN, sC, ss, as, rt])
@[irreducible] noncomputable def CR : VP := Bi (AP 2 3 I8)
theorem OG {xs H k} (h : AP 2 3 I8 xs H k) : CR xs H k := by unfold CR; exact AU h
noncomputable def Dr : PF := As CR GK 1086 2 3 3 (by unfold CR; exact AJ _)
noncomputable def EE (q : PF) : WB := ss [as 2 (ca AW (L 0) [it 10]), If (tc (L 2) (it 0) Bd) [rt (tp [GC, K0 false])] [], If (tc (L 2) (it 1) Bd) [rt (tp [ca Ac (L 0) [gi 72, tx [], ls [], it 0], K0 true])] [], If (tc (L 2) (it 2) Bd) [as 3 (ie (tc (L 1) (it 0) U2) (ca Dr (L 0) [ls [ca Ac (L 0) [gi 72, tx [], ls [], it 0]]]) GC), rt (tp [ca Ac (L 0) [gi 71, tx [], ls [L 3], it 0], K0 true])] [], If (tc (L 1) (it 0) Bd) [rt (tp [ca Ac (L 0) [ix (tp [gi 66, gi 53]) (bn (L 2) (it 2) Iy), tx [], ls [GC], it 0], K0 false])] [], bB 4 [("deep", 1), ("w", 0)] (xr (bn (ca AW (L 0) [it 3]) (it 1) E2)) fN (ca q (L 2) [bn (L 1) (it 1) Tt]), bB 5 [] (xi (L 4)) fN (ix (L 0) (it 0)), If (tc (L 2) (it 6) Sa) [rt (tp [ca Dr (L 0) [L 5], K0 false])] [], as 6 (cm (bl BI (lc [] (xi (L 4)) (f1 (tv (ix (L 0) (it 1)))) (L 0))) (it 0) U2), rt (tp [ca Ac (L 0) [ix (tp [gi 54, gi 55, gi 50, gi 68]) (bn (L 2) (it 4) Iy), tx [], L 5, it 0], L 6])]
noncomputable def EJ (p : VP) : VS := (fun u (_ : ∀ q : PF, q.vp = p -> (EE q).v = u) => u) _ (by intro q e; dsimp only [EE, Dr, Ac, AW, As, GC, K0, it, tx, L, gi, eN, eC, es, tp, ls, bn, cm, ie, ix, ca, bl, BI, tv, tc, xi, xr, sN, sC, ss, as, If, rt, fN, f1, lc, bB, E2, Tt, Iy, Bd, Sa, U2]; rw [e])
noncomputable def BB : Nat -> VP
 | 0 => fun _ _ _ => False
 | n + 1 => Bi (AP 2 7 (EJ (BB n)))
theorem QL {d xs H k} (h : AP 2 7 (EJ (BB d)) xs H k) : BB (d + 1) xs H k := AU h
noncomputable def OT : PF := ⟨1079, BB 0, 5, fun _ A W G H s xs vs k Q R rm X r v q qR => v.elim⟩
noncomputable def OS : PF := As (BB 1) (EE OT) 1079 2 7 5 (AJ (AP 2 7 (EJ (BB 0))))
noncomputable def OR : PF := As (BB 2) (EE OS) 1079 2 7 6 (AJ (AP 2 7 (EJ (BB 1))))
noncomputable def Jb : PF := As (BB 3) (EE OR) 1079 2 7 7 (AJ (AP 2 7 (EJ (BB 2))))
noncomputable def Ic : WB := ss [If (tc (ca AW (L 0) [it 7]) (it 6) Bd) [rt (tp [GC, K0 false])] [], bB 1 [("w", 0)] (xr (bn (ca AW (L 0) [it 3]) (it 1) E2)) fN (ca Jb (L 1) [it 2]), as 2 (ca Ac (L 0) [gi 50, tx [], lc [] (xi (L 1)) fN (ix (L 0) (it 0)), it 0]), rt (tp [L 2, cm (K0 true) (lc [] (xi (L 1)) fN (ix (L 0) (it 1))) fu])]
noncomputable def LX : VS := (fun u (_ : Ic.v = u) => u) _ (by dsimp only [Ic, Ac, Jb, AW, As, GC, K0, it, tx, L, gi, eN, eC, es, tp, bn, cm, ix, ca, tc, xi, xr, sN, sC, ss, as, If, rt, fN, lc, bB, E2, Bd, fu])
@[irreducible] noncomputable def DQ : VP := Bi (AP 1 3 LX)
theorem R0 {xs H k} (h : AP 1 3 LX xs H k) : DQ xs H k := by unfold DQ; exact AU h
noncomputable def MG : PF := As DQ Ic 1091 1 3 8 (by unfold DQ; exact AJ _)
noncomputable def G0 : WB := ss [If (tc (L 1) (gi 96) Bd) [rt (ca Ac (L 0) [gi 96, tx [103, 101, 116], ls [L 4], L 2])] [], as 5 (ca Ac (L 0) [gi 40, tx [105, 110, 116], ls [], it 0]), as 6 (ca Ac (L 0) [gi 110, tx [], ls [], it 0]), If (tc (L 1) (gi 99) Bd) [rt (ca Ac (L 0) [gi 99, tx [43], ls [L 5, L 6, L 4], L 2])] [], as 7 (ca Ac (L 0) [gi 110, tx [], lc [("w", 0)] (xi (L 3)) fN (ca Ac (L 1) [gi 87, tp [L 0, it 0], ls [], it 0]), it 0]), rt (ca Ac (L 0) [gi 91, tp [tx [109], bl BI (L 3)], ls [L 5, L 7, L 6, L 6, L 4, GC], L 2])]
noncomputable def KU : VS := (fun u (_ : G0.v = u) => u) _ (by dsimp only [G0, Ac, As, GC, it, tx, L, gi, eN, eC, es, tp, ls, ca, bl, BI, tc, xi, sN, sC, ss, as, If, rt, fN, lc, Bd])
@[irreducible] noncomputable def Cu : VP := Bi (AP 5 8 KU)
theorem HS {xs H k} (h : AP 5 8 KU xs H k) : Cu xs H k := by unfold Cu; exact AU h
noncomputable def Ko : PF := As Cu G0 1096 5 8 3 (by unfold Cu; exact AJ _)
noncomputable def GL : WB := ss [as 2 (tp [tp [], tp [ix (L 0) (tx [102, 97, 99, 101])], tp [ix (L 0) (tx [102, 97, 99, 101]), gi 12]]), rt (lc [("faces", 2), ("w", 0)] (xr (L 1)) fN (tp [ix (tp [it 0, it 1, it 4]) (ca AW (L 2) [it 3]), ix (L 1) (ca AW (L 2) [it 3])]))]
noncomputable def I9 : VS := (fun u (_ : GL.v = u) => u) _ (by dsimp only [GL, AW, As, it, tx, L, gi, eN, eC, es, tp, ix, ca, xr, sN, sC, ss, as, rt, fN, lc])
@[irreducible] noncomputable def Bo : VP := Bi (AP 2 3 I9)
theorem OH {xs H k} (h : AP 2 3 I9 xs H k) : Bo xs H k := by unfold Bo; exact AU h
noncomputable def Ek : PF := As Bo GL 1101 2 3 1 (by unfold Bo; exact AJ _)
@[irreducible] noncomputable def D2 : VP := Bi (C0 271 BQ)
theorem UX {xs H k} (h : C0 271 BQ xs H k) : D2 xs H k := by unfold D2; exact AU h
noncomputable def ND : PF := ⟨271, D2, 2, fun hc => HI (He.h hc) (by rw [hc]; kernel_rfl) |> fun z => (show D2 = C0 271 BQ by unfold D2; exact AJ _) ▸ z⟩
noncomputable def IW : WB := ss [as 5 (ca ND (L 2) [bn (tx [116]) (bl MJ (L 2)) Mk, L 3, it 0, gi 12, L 4, it 1]), ai (L 4) (ix (L 0) (tx [119, 111, 114, 100, 115])) (L 2), ai (ca Ek (L 0) [bl BI (L 4)]) (ix (L 0) (tx [98, 111, 117, 110, 100, 115])) (L 2), aa 271 BH (bl XY (ix (ix (L 0) (tx [98, 111, 117, 110, 100, 115])) (L 2))) (L 5), xx (ap (at_ 313 DL (L 1)) (L 5)), as 6 (bl Jm (lc [("store", 1)] (xr (bl BI (L 4))) fN (me 110 BO (at_ 313 BW (L 1)) AH (tp [gi 6, L 0]) []))), ai (me 110 BO (at_ 313 BW (L 1)) AH (tp [ie (tc (L 3) (gi 1) Bd) (gi 2) (gi 3), L 2, L 6]) []) (ix (L 0) (tx [115, 101, 108, 118, 101, 115])) (L 2)]
noncomputable def LQ : VS := (fun u (_ : IW.v = u) => u) _ (by dsimp only [IW, AH, ND, He, Ek, As, it, tx, L, gi, eN, eC, es, tp, bn, ie, at_, ix, ca, me, ap, bl, BI, Jm, XY, MJ, tc, xr, sN, sC, ss, as, aa, ai, xx, fN, lc, Mk, Bd])
@[irreducible] noncomputable def Bj : VP := Bi (AP 5 7 LQ)
theorem Ru {xs H k} (h : AP 5 7 LQ xs H k) : Bj xs H k := by unfold Bj; exact AU h
noncomputable def Iu : PF := As Bj IW 1106 5 7 6 (by unfold Bj; exact AJ _)
noncomputable def GJ : WB := ss [aa 906 Cm (ls [dS (tx [120]) (it 7) pN, dS (tx [113]) (it 8) pN]) (L 1), aa 906 BS (ls [it 4, it 5]) (L 1), aa 906 EM (dI (it 1) (dS (tx [121]) (it 1) pN) (pC (it 2) Oh pN)) (L 1), aa 906 Hk (ls [bn (it 1) (ca AW (L 0) [it 5]) E2]) (L 1), aa 906 J3 (it 3) (L 1), aa 906 Dm (ca AW (L 0) [it 2]) (L 1), aa 906 HL (ca AW (L 0) [it 3]) (L 1), aa 906 DV (ca AW (L 0) [it 2]) (L 1), aa 906 HO (ca AW (L 0) [it 2]) (L 1)]
noncomputable def I7 : VS := (fun u (_ : GJ.v = u) => u) _ (by dsimp only [GJ, AW, As, it, tx, L, eN, eC, es, ls, bn, ca, d0, Oh, pN, pC, dI, dS, sN, sC, ss, aa, E2])
@[irreducible] noncomputable def CQ : VP := Bi (AP 2 2 I7)
theorem OF {xs H k} (h : AP 2 2 I7 xs H k) : CQ xs H k := by unfold CQ; exact AU h
noncomputable def Jd : PF := As CQ GJ 1113 2 2 1 (by unfold CQ; exact AJ _)
@[irreducible] noncomputable def Cy : VP := Bi (C0 292 BC)
theorem QS {xs H k} (h : C0 292 BC xs H k) : Cy xs H k := by unfold Cy; exact AU h
noncomputable def Kt : PF := ⟨292, Cy, 3, fun hc => HI (F9.h hc) (by rw [hc]; kernel_rfl) |> fun z => (show Cy = C0 292 BC by unfold Cy; exact AJ _) ▸ z⟩
noncomputable def GI : WB := ss [as 6 (bl BI (at_ 313 C2 (at_ 906 CX (L 1)))), as 7 (lm []), as 8 (lm []), as 9 (lm []), as 10 (ca AW (L 0) [it 5]), fr (xr (ca AW (L 0) [it 4])) (gn 11) [as 12 (ix (tp [gi 7, gi 13, ix (ix (L 0) (tx [115, 101, 108, 118, 101, 115])) (L 2)]) (ca AW (L 0) [it 3])), as 13 (ca AW (L 0) [it 4]), xx (ap (L 9) (L 13)), as 14 (cm (ca AW (L 0) [it 3]) (it 0) Bd), xx (ap (L 7) (ie (tv (L 14)) (ca Jh (at_ 906 BW (L 1)) [L 12]) (L 12))), as 15 (gi 1), If (tv (L 14)) [as 15 (bn (gi 1) (ie (ta [tv (bn (L 13) (it 2) Iy), tc (L 11) (L 10) Sa]) (gi 4) (gi 2)) E2)] [], xx (ap (L 8) (tp [ix (tx [120, 121, 122]) (L 11), L 12, L 15]))], as 16 (ca Kt (L 6) [L 2, bn (tx [109]) (bl MJ (L 6)) Mk, it 6, ix (tp [it 0, it 1, it 6, it 129]) (ca AW (L 0) [it 4]), L 3, L 7]), aa 292 Fv (bl Jm (lc [] (xi (L 8)) fN (ix (L 0) (it 0)))) (L 16), aa 292 Fw (bl Jm (uL (L 9) (L 10))) (L 16), aa 292 Lr (bl BI (L 4)) (L 16), aa 292 HN (bl XY (L 4)) (L 16), aa 292 Es (bl XY (L 5)) (L 16), xx (ap (at_ 313 C2 (at_ 906 CX (L 1))) (L 16)), rt (tp [L 16, L 8])]
noncomputable def I6 : VS := (fun u (_ : GI.v = u) => u) _ (by dsimp only [GI, Kt, F9, Jh, AW, As, it, tx, L, gi, eN, eC, es, tp, lm, bn, cm, ie, at_, ix, cC, uL, ca, ap, bl, BI, Jm, XY, MJ, tv, tc, aN, aC, tb, al, ta, xi, xr, gn, sN, sC, ss, as, aa, xx, If, rt, fr, fN, lc, E2, Iy, Mk, Bd, Sa])
@[irreducible] noncomputable def CP : VP := Bi (AP 6 17 I6)
theorem OE {xs H k} (h : AP 6 17 I6 xs H k) : CP xs H k := by unfold CP; exact AU h
noncomputable def Jc : PF := As CP GI 1118 6 17 7 (by unfold CP; exact AJ _)
noncomputable def IZ : WB := ss [as 7 (gi 0), as 8 (ng (it 1)), as 9 (cm (bl BI (lc [] (xi (L 2)) (f1 (tc (ix (L 0) (it 2)) (gi 1) MU)) (L 0))) (it 0) U2), If (tv (L 3)) [as 7 (gi 2), as 8 (gI (dI (ix (L 0) (tx [116, 97, 115, 107])) (gi 0) (pC (ix (L 0) (tx [116, 97, 115, 107, 52])) (gi 7) (pC (ix (ix (L 0) (tx [116, 97, 115, 107, 111, 102])) (L 6)) (L 6) pN))) (at_ 292 Bt (L 1)) (ng (it 1))), If (tc (L 8) (ng (it 1)) Bd) [xx (ap (ix (L 0) (tx [116, 111, 108, 100])) (tp [it 1983, L 5, tp [bl MJ (at_ 292 Bt (L 1))]])), as 8 (gi 0)] [], If (tv (L 9)) [xx (ap (ix (L 0) (tx [116, 111, 108, 100])) (tp [it 1988, L 5, tp [at_ 292 Ba (L 1)]]))] []] [], If (tv (L 4)) [If (tv (L 9)) [xx (ap (ix (L 0) (tx [116, 111, 108, 100])) (tp [it 1623, L 5, tp [at_ 292 Ba (L 1)]]))] [], as 8 (gI (dI (ix (L 0) (tx [101, 97, 99, 104, 52])) (gi 7) (pC (ix (L 0) (tx [119, 97, 108, 107])) (gi 13) (pC (ix (ix (L 0) (tx [101, 97, 99, 104, 111, 102])) (L 6)) (L 6) pN))) (at_ 292 Bt (L 1)) (ng (it 1))), If (to [tv (L 3), tc (L 8) (ng (it 1)) Bd]) [xx (ap (ix (L 0) (tx [116, 111, 108, 100])) (tp [it 1624, L 5, tp [at_ 292 Ba (L 1), bl MJ (at_ 292 Bt (L 1))]])), as 8 (gi 0)] [], as 7 (gi 1)] [], rt (tp [L 7, L 8])]
noncomputable def LU : VS := (fun u (_ : IZ.v = u) => u) _ (by dsimp only [IZ, As, it, tx, L, gi, eN, eC, es, tp, cm, ng, at_, ix, ap, gI, bl, BI, MJ, pN, pC, dI, tv, tc, oN, oC, tb, ol, to, xi, sN, sC, ss, as, xx, If, rt, f1, lc, Bd, MU, U2])
@[irreducible] noncomputable def B0 : VP := Bi (AP 7 10 LU)
theorem Rx {xs H k} (h : AP 7 10 LU xs H k) : B0 xs H k := by unfold B0; exact AU h
noncomputable def ME : PF := As B0 IZ 1123 7 10 0 (by unfold B0; exact AJ _)
noncomputable def Ib : WB := ss [as 6 Oh, as 7 Ff, as 8 Ff, fr (xr (bl BI (ix (ix (L 0) (tx [119, 111, 114, 100, 115])) (L 2)))) (gn 9) [as 10 (me 110 BO (at_ 906 BW (L 1)) AH (tp [gi 6, L 9]) []), ai (L 10) (L 6) (ix (ix (ix (L 0) (tx [119, 111, 114, 100, 115])) (L 2)) (L 9)), ag (ix (ix (ix (L 0) (tx [98, 111, 117, 110, 100, 115])) (L 2)) (L 9)) (gt 2 [gs (L 8) (L 10), gs (L 7) (L 10)])], fr (xr (bl BI (L 5))) (gn 9) [as 10 (me 110 BO (at_ 906 BW (L 1)) AH (tp [gi 7, L 9]) []), ai (L 10) (L 6) (ix (L 4) (L 9)), ag (ix (L 5) (L 9)) (gt 2 [gs (L 8) (L 10), gs (L 7) (L 10)])], If (to [tc (at_ 906 Bh (L 1)) (L 6) fm, tc (at_ 544 BH (at_ 906 Io (L 1))) (L 7) RB, tc (at_ 544 DJ (at_ 906 Io (L 1))) (L 8) RB]) [rt (K0 false)] [], rt (cm (tp [at_ 906 Bc (L 1), at_ 906 Cn (L 1), at_ 906 HL (L 1), at_ 906 DV (L 1), at_ 906 HO (L 1), at_ 906 J3 (L 1)]) (tp [L 2, L 3, it 0, it 0, it 0, it 0]) YV)]
noncomputable def LW : VS := (fun u (_ : Ib.v = u) => u) _ (by dsimp only [Ib, AH, As, K0, it, tx, L, gi, eN, eC, es, tp, cm, at_, ix, me, bl, BI, d0, Oh, Ff, tc, oN, oC, tb, ol, to, xr, gn, gs, gE, gK, gl, gt, sN, sC, ss, as, ai, ag, If, rt, fr, YV, RB, fm])
@[irreducible] noncomputable def DP : VP := Bi (AP 6 11 LW)
theorem Rz {xs H k} (h : AP 6 11 LW xs H k) : DP xs H k := by unfold DP; exact AU h
noncomputable def MF : PF := As DP Ib 1130 6 11 6 (by unfold DP; exact AJ _)
noncomputable def IX : WB := ss [as 3 (bn (it 64) (ca AW (L 0) [it 2]) E2), as 4 (ix (ix (L 0) (tx [115, 101, 108, 118, 101, 115])) (L 3)), as 5 (bn (ix (L 0) (tx [114, 101, 116, 115])) (tp [ix (ix (L 0) (tx [101, 97, 99, 104, 111, 102])) (L 4), ix (ix (L 0) (tx [116, 97, 115, 107, 111, 102])) (L 4), L 4]) Mj), as 6 (ix (L 5) (ca AW (L 0) [bl BI (L 5)])), as 7 (ix (tp [gi 91, gi 91, gi 91, gi 99, gi 96, it 0]) (ca AW (L 0) [it 6])), as 8 (ie (tc (L 7) (gi 91) Bd) (ix (tp [it 0, gi 4096, gi 16, bn (gi 4096) (gi 16) E2, gi 2048, gi 8192]) (ca AW (L 0) [it 6])) (it 0)), ag (ca MG (L 0) []) (gt 2 [gn 9, gn 10]), If (tv (L 2)) [ag (tp [gi 7, gi 91, it 0, K0 false]) (gt 4 [gn 6, gn 7, gn 8, gn 10]), as 9 (ca Ac (L 0) [gi 50, tx [], ls [ca Dr (L 0) [ls [ca Ac (L 0) [gi 72, tx [], ls [], it 0]]]], it 0])] [], as 11 (ie (tc (L 7) (gi 91) Bd) (uS (lS (tx [85, 86, 84, 85]) (ca AW (L 0) [it 3])) (ca AW (L 0) [it 3])) (tx [])), as 12 (ca Ek (L 0) [bl BI (L 11)]), ag (ca Jc (L 0) [L 1, L 3, L 6, L 11, L 12]) (gt 2 [gn 13, gn 14]), as 15 (ie (tv (L 7)) (ca Ko (L 0) [L 7, L 8, L 11, L 9]) GC), xx (ca Jd (L 0) [L 1]), as 16 (ca Je (L 1) [at_ 292 Cn (L 13), L 15]), xx (ca MC (L 1) [L 13, L 16, L 15]), xx (ca IP (L 1) []), xx (ca DX (L 1) [L 13, L 16]), as 17 (ie (tv (L 7)) (at_ 355 JS (L 15)) (it 0)), as 18 (bv (vO (cm (L 8) (gi 4096) Bd) (v1 (cm (L 8) (bn (gi 4096) (gi 16) E2) Bd)))), as 19 (ca ME (L 0) [L 13, L 14, L 18, bv (vA (L 10) (v1 (cm (L 7) (it 0) MU))), L 17, L 4]), as 20 (bn (bl BI (ix (L 0) (tx [109, 105, 100, 115]))) (it 1) E2), ai (L 20) (ix (L 0) (tx [109, 105, 100, 115])) (at_ 292 Cn (L 13)), as 21 (lm []), fr (xr (bl BI (L 14))) (gn 22) [xx (ap (L 21) (bn (bl BI (ix (L 0) (tx [118, 97, 114, 105, 97, 98, 108, 101, 115]))) (it 1) E2)), xx (ap (ix (L 0) (tx [118, 97, 114, 105, 97, 98, 108, 101, 115])) (bn (ix (L 14) (L 22)) (tp [L 20, L 22, it 0]) Mj))], as 23 (bn (at_ 292 CY (L 13)) (it 2) Iy), as 24 (tp [at_ 446 Ip (L 16), at_ 446 Cn (L 16), at_ 446 Lu (L 16), at_ 446 Ap (L 16), at_ 446 DU (L 16), at_ 446 Bt (L 16), at_ 446 Iq (L 16), at_ 446 Yx (L 16), at_ 446 E9 (L 16), at_ 446 HP (L 16), at_ 446 JS (L 16)]), If (tc (L 24) (tp [L 20, at_ 292 Cn (L 13), L 21, L 21, ie (tv (L 23)) (ng (it 1)) (L 4), L 6, GC, it 0, ix (L 19) (it 0), ix (L 19) (it 1), L 17]) Tu) [rt (K0 false)] [], as 25 Oh, fr (xr (bl BI (L 14))) (gn 22) [ai (ix (L 21) (L 22)) (L 25) (ix (ix (L 14) (L 22)) (it 0))], If (to [tc (at_ 906 Cm (L 1)) (ls [L 25]) Zv, tc (at_ 906 BS (L 1)) (ls [it 0]) Tu, tc (at_ 906 EM (L 1)) (dI (it 1) Oh pN) RB, tc (at_ 906 Hk (L 1)) (ls []) Tu, tc (at_ 906 Dm (L 1)) (L 23) MU]) [rt (K0 false)] [], rt (bv (vA (cm (at_ 446 Ip (at_ 906 Pz (L 1))) (L 20) Bd) (v1 (ca MF (L 0) [L 1, L 3, at_ 292 Cn (L 13), L 11, L 12]))))]
noncomputable def LR : VS := (fun u (_ : IX.v = u) => u) _ (by dsimp only [IX, DX, Je, MG, Ek, MF, Dr, Jd, Jc, Ac, ME, AW, Ko, IP, MC, As, GC, K0, it, tx, L, gi, eN, eC, es, tp, ls, lm, bn, cm, ng, ie, at_, ix, cC, oT, uS, lS, ca, ap, bl, BI, d0, Oh, pN, pC, dI, v1, vA, vO, bv, tv, tc, oN, oC, tb, ol, to, xr, gn, gE, gK, gl, gt, sN, sC, ss, as, ai, ag, xx, If, rt, fr, E2, Iy, Mj, Bd, MU, Tu, RB, Zv])
@[irreducible] noncomputable def Cg : VP := Bi (AP 3 26 LR)
theorem Rv {xs H k} (h : AP 3 26 LR xs H k) : Cg xs H k := by unfold Cg; exact AU h
noncomputable def MD : PF := As Cg IX 1137 3 26 10 (by unfold Cg; exact AJ _)
@[irreducible] noncomputable def B1 : VP := Bi (C0 544 BJ)
theorem R4 {xs H k} (h : C0 544 BJ xs H k) : B1 xs H k := by unfold B1; exact AU h
noncomputable def MI : PF := ⟨544, B1, 2, fun hc => HI (Gq.h hc) (by rw [hc]; kernel_rfl) |> fun z => (show B1 = C0 544 BJ by unfold B1; exact AJ _) ▸ z⟩
@[irreducible] noncomputable def GX : VP := Bi (C0 906 CF)
theorem dh {xs H k} (h : C0 906 CF xs H k) : GX xs H k := by unfold GX; exact AU h
noncomputable def XW : PF := ⟨906, GX, 4, fun hc => HI (Kr.h hc) (by rw [hc]; kernel_rfl) |> fun z => (show GX = C0 906 CF by unfold GX; exact AJ _) ▸ z⟩
@[irreducible] noncomputable def Fh : VP := Bi (C0 313 Bp)
theorem ZI {xs H k} (h : C0 313 Bp xs H k) : Fh xs H k := by unfold Fh; exact AU h
noncomputable def Tb : PF := ⟨313, Fh, 4, fun hc => HI (Jk.h hc) (by rw [hc]; kernel_rfl) |> fun z => (show Fh = C0 313 Bp by unfold Fh; exact AJ _) ▸ z⟩
@[irreducible] noncomputable def FH : VP := Bi (C0 467 CE)
theorem df {xs H k} (h : C0 467 CE xs H k) : FH xs H k := by unfold FH; exact AU h
noncomputable def XU : PF := ⟨467, FH, 4, fun hc => HI (Kq.h hc) (by rw [hc]; kernel_rfl) |> fun z => (show FH = C0 467 CE by unfold FH; exact AJ _) ▸ z⟩
noncomputable def Uy : WB := ss [bB 1 [] (xi (uL (L 0) (it 40))) fN (bn (L 0) (it 1000003) Iy), as 2 (c0 Tb), as 3 (at_ 313 BW (L 2)), aa 313 DL (bn (ls [GC]) (it 64) Zx) (L 2), as 4 (dS (tx [103, 105, 118, 101, 110]) (L 1) (pC (tx [112, 108, 97, 99, 101]) (it 0) (pC (tx [115, 101, 101, 100]) (bn (bn (bl mU (L 1)) (bl BI (L 1)) E2) (it 1009) Iy) (pC (tx [110, 111, 100, 101, 115]) (it 0) (pC (tx [116, 111, 108, 100]) (lm []) (pC (tx [118, 97, 114, 105, 97, 98, 108, 101, 115]) (lm []) pN)))))), ai Ff (L 4) (tx [109, 105, 100, 115]), ai Ff (L 4) (tx [119, 111, 114, 100, 115]), ai Ff (L 4) (tx [98, 111, 117, 110, 100, 115]), ai Ff (L 4) (tx [115, 101, 108, 118, 101, 115]), ai (me 110 BO (L 3) AH (tp [gi 2, gi 34, tp []]) []) (L 4) (tx [102, 97, 99, 101]), xx (ca Iu (L 4) [L 2, it 64, gi 1, uT (tp [tx [84], tx [85]]) (ca AW (L 4) [it 3])]), xx (ca Iu (L 4) [L 2, it 65, gi 2, uT (tp [tx [85]]) (ca AW (L 4) [it 2])]), ai (me 110 BO (L 3) AH (tp [gi 2, gi 38, tp []]) []) (L 4) (tx [116, 97, 115, 107]), ai (me 110 BO (L 3) AH (tp [gi 2, gi 39, tp [gi 7]]) []) (L 4) (tx [116, 97, 115, 107, 52]), ai (me 110 BO (L 3) AH (tp [gi 2, gi 35, tp [gi 7]]) []) (L 4) (tx [101, 97, 99, 104, 52]), ai (me 110 BO (L 3) AH (tp [gi 2, gi 36, tp [gi 13]]) []) (L 4) (tx [119, 97, 108, 107]), ai Ff (L 4) (tx [116, 97, 115, 107, 111, 102]), ai Ff (L 4) (tx [101, 97, 99, 104, 111, 102]), fr (xi (tp [it 64, it 65])) (gn 5) [as 6 (ix (ix (L 4) (tx [115, 101, 108, 118, 101, 115])) (L 5)), ai (me 110 BO (L 3) AH (tp [gi 2, gi 39, tp [L 6]]) []) (ix (L 4) (tx [116, 97, 115, 107, 111, 102])) (L 6), ai (me 110 BO (L 3) AH (tp [gi 2, ix (tp [gi 35, gi 36]) (bn (L 5) (it 64) Tt), tp [L 6]]) []) (ix (L 4) (tx [101, 97, 99, 104, 111, 102])) (L 6)], as 7 (tp [me 110 BO (L 3) AH (tp [gi 3, gi 35, tp [gi 7]]) [], me 110 BO (L 3) AH (tp [gi 3, gi 39, tp [gi 9]]) [], me 110 BO (L 3) AH (tp [gi 2, gi 37, tp [gi 7]]) []]), as 8 (bn (tp [gi 0, gi 7, gi 13, ix (L 4) (tx [102, 97, 99, 101]), ca Jj (L 3) [ix (L 4) (tx [101, 97, 99, 104, 52])]]) (L 7) Mj), ai (bn (L 8) (tp [ix (L 4) (tx [101, 97, 99, 104, 52]), ix (L 4) (tx [119, 97, 108, 107]), ix (L 4) (tx [116, 97, 115, 107]), ix (L 4) (tx [116, 97, 115, 107, 52]), ix (L 4) (tx [101, 97, 99, 104, 52]), ix (L 4) (tx [119, 97, 108, 107])]) Mj) (L 4) (tx [114, 101, 116, 115]), as 9 (ca XU (L 2) [it 1]), as 10 (ca XW (L 9) [it 1, ca MI (L 3) []]), fr (xr (bn (it 3) (bn (bl BI (L 1)) (it 12) YW) E2)) (gn 11) [If (tn (tv (ca MD (L 4) [L 10, cm (L 11) (it 0) Bd]))) [rt (K0 false)] []], bB 12 [] (xi (lL (at_ 467 E7 (L 9)) (it 1))) fN (tp [at_ 425 Ba (L 0), at_ 425 DA (L 0), at_ 425 CY (L 0), at_ 425 Bc (L 0), at_ 425 Kg (L 0), at_ 425 Hl (L 0)]), If (to [tc (L 12) (ix (L 4) (tx [118, 97, 114, 105, 97, 98, 108, 101, 115])) Tu, tc (at_ 467 Fx (L 9)) (ix (L 4) (tx [109, 105, 100, 115])) RB, tc (bl BI (at_ 467 II (L 9))) (bn (bl BI (ix (L 4) (tx [109, 105, 100, 115]))) (it 1) E2) MU]) [rt (K0 false)] [], rt (cm (at_ 397 BS (at_ 467 Eg (L 9))) (ix (L 4) (tx [116, 111, 108, 100])) YV)]
noncomputable def Zy : VS := (fun u (_ : Uy.v = u) => u) _ (by dsimp only [Uy, MI, Gq, AH, XW, Kr, Tb, Jk, XU, Kq, Jj, AW, MD, Iu, As, GC, K0, it, tx, L, gi, eN, eC, es, tp, ls, lm, bn, cm, at_, ix, cC, oT, uL, uT, lL, ca, c0, me, bl, BI, mU, d0, Ff, pN, pC, dS, tv, tn, tc, oN, oC, tb, ol, to, xi, xr, gn, sN, sC, ss, as, aa, ai, xx, If, rt, fr, fN, bB, E2, Tt, Iy, YW, Mj, Zx, Bd, MU, YV, Tu, RB])
@[irreducible] noncomputable def Ig : VP := Bi (AP 1 13 Zy)
theorem mG {xs H k} (h : AP 1 13 Zy xs H k) : Ig xs H k := by unfold Ig; exact AU h
noncomputable def mR : PF := As Ig Uy 1142 1 13 11 (by unfold Ig; exact AJ _)
theorem XR (P : Params) : nsIn (Hd.KF P) mainGlobals (Str.ofString "law") = some (some (.ref 1142)) := by kernel_rfl
theorem c5 (P : Params) : ((Hd.KF P).lookup 1142).isSome = true := by kernel_rfl
theorem O4 {W : Wd} : ∀ {vs : List Value} {ns : List Int}, IntsAre vs ns -> Cr W (ns.map .int) vs
 | _, _, .nil => .nil
 | _, _, .cons n t h => .cons (.int n t) (O4 h)
theorem UD (a : WData) : Hd.RW.claim.post [a] (.bool true) [a] = true := by kernel_rfl
theorem T7 (a : WData) (cls : ExcName) : Hd.RW.claim.raises [a] cls = false := by kernel_rfl
theorem join (hlaw : ∀ l : List Int, l.length <= 63 -> Ig [.lst (l.map .int)] [] (fun r _ => r = .bool true)) : PySem.Challenge.rw_tn0014_01.Holds := by
 refine Hd.head ?_
 intro w s₀ s₁ mg mb G Y fa o pm cd doc dV kV ho hd hcd hD hmg hg args vals as hpre hlay hrd hwl hlo
 have KX : (Hd.KF w.params).In s₁.heap := kIn_of Y
 have TR := topRead_of G.T
 wrow_args hpre hlay hrd hwl hlo
 rename_i ns hs hl0 hL1 hr1 hl2 as4 as3 la vs as1 hL ra w1 r0 hI hr hc1 hc2
 have e1 : mg (Str.ofString "law") = some (.ref 1142) := mg_of KX TR.g (XR _)
 have e2 : fa = 1142 := by
  have : mg (Str.ofString "law") = some (.ref fa) := hmg
  rw [e1] at this; cases this; rfl
 subst e2
 obtain ⟨ol, gl, hcl, n, hdl⟩ := hL
 let c : Cx := ⟨Hd.RW.prog, w, Hd.KF w.params, s₁.heap, Hd.NZ, looseW Hd.NZ Hd.loose, mg, mb, KX, TR⟩
 let W : Wd := ⟨0, fun _ => 0, fun _ => 0, fun b => if b = la then some ol else none⟩
 obtain ⟨ob, eob⟩ := Option.isSome_iff_exists.mp (c5 w.params)
 have no : ∀ {n : Nat} {o : AO}, AB [] n = some o -> False := fun {n o} e => by cases n <;> cases e
 have X : AM c.prog c.w c.h₀ W s₁.heap.get? [] s₁.heap := by
  refine ⟨rfl, fun a o e => e, fun a o e => ?_, fun a o e => e, fun n o e => (no e).elim, fun n m o o' e => (no e).elim, fun n o e => (no e).elim, fun n o e => (no e).elim, fun a o e z => ?_, fun n o e => (no e).elim, ⟨1142, _, by decide, KX _ _ eob⟩⟩
  ·have e' : (if a = la then some ol else none) = some o := e
   by_cases q : a = la
   ·rw [if_pos q] at e'; cases e'; rw [q]; exact gl
   ·rw [if_neg q] at e'; cases e'
  ·have z' : s₁.heap.get? a = none := z
   rw [z'] at e; cases e
 have rm : Rm 13 callerA := ⟨rfl, by decide, by decide⟩
 have rv : Cr W [.lst (ns.map .int)] [.ref la] := .cons (.lst (if_pos rfl) ⟨hcl, n, hdl⟩ (O4 hI)) .nil
 refine wpAny_mono (mR.sp (c := c) (d := 13) rfl rfl callerA W s₁.heap.get? [] s₁ _ _ _ (fun v s' => GoodWG Hd.RW.claim (classAt s₀.heap) (ExcName.means s₀.heap) [ofPy (PyData.list (List.map PyData.int ns))] s₁ (Except.ok (Flow.ret v)) s') rm X rv (hlaw ns (by omega)) fun z r W' H' h' t S' X' r' k' => ?_) (fun _ _ h => h) (fun _ _ e => e.elim)
 subst k'
 cases r'
 refine ⟨.inl ⟨.bool true, .bool true, [], rfl, T7 _, .bool _, UD _, fun _ => ⟨.nil, fun a ha => nomatch ha⟩⟩, .of_keep fun a o e => X'.keepG a o e, rfl, .of_eq hg⟩
end Wk
end
section
namespace Lw
section
theorem AE {a b c i j k l : Nat} (h : a + i <= b + j) (g : b + k <= c + l) : a + (i + k) <= c + (j + l) := by omega
theorem Aa {a b i j p q : Nat} (h : a + i <= b + j) (d : Nat.ble (p + j) (i + q) = true) : a + p <= b + q := by have := Nat.le_of_ble_eq_true d; omega
theorem ZR {a p q : Nat} (d : Nat.ble p q = true) : a + p <= a + q := Nat.add_le_add_left (Nat.le_of_ble_eq_true d) a
theorem dln {a b : Nat} : -(a : Int) <= (b : Int) := by omega
theorem dlm {a b : Nat} : -((a + 1 : Nat) : Int) < (b : Int) := by omega
theorem dlz {x : Nat} {L : List Nat} : x ∈ ([] : List Nat) -> x ∈ L := fun h => by cases h
theorem dlk {x a : Nat} {r L : List Nat} (m : List.Mem a L) (g : x ∈ r -> x ∈ L) : x ∈ a :: r -> x ∈ L := fun h => by
 rcases List.mem_cons.mp h with rfl | h
 ·exact m
 ·exact g h
theorem dle {a b : Nat} (h : a ≠ b) : (a : Int) ≠ (b : Int) := by omega
theorem dlo {p q : Prop} (h : ¬ p) (g : ¬ q) : ¬ (p \/ q) := fun z => z.elim h g
theorem dlc {a b : Nat} {l : List Nat} (h : a ≠ b) (g : ¬ a ∈ l) : ¬ a ∈ b :: l := fun z => (List.mem_cons.mp z).elim h g
theorem ADE {a : Nat} {l : List Nat} (h : 0 + 63 <= a + 0) (d : (l.all fun x => Nat.blt x 63) = true) : ¬ a ∈ l := fun z => by
 have := List.all_eq_true.mp d a z
 have := Nat.le_of_ble_eq_true this
 omega
variable {a b c d l f g i j k m n o p : Nat}
theorem gF (h : a = 0 \/ a = 10 \/ 18 <= a /\ a <= 23) : a < 24 := by rcases h with rfl | rfl | h; decide; decide; exact Nat.lt_succ_of_le h.2
theorem ng (h : 63 <= a) (d : Nat.ble (b + 1) 63 = true) : a ≠ b := fun e => Nat.lt_irrefl b (Nat.le_trans (Nat.le_of_ble_eq_true d) (e ▸ h))
theorem Z7 : a < 1000 -> b = a -> b < 100000 := fun q r => (@Aa b 0 1 1000 1 100000 (@AE b a 0 0 0 1 1000 (Nat.le_of_eq r) q) rfl)
theorem Z18 : a < 1000 -> a + 4 < 100000 := fun q => (@Aa a 0 1 1000 5 100000 q rfl)
theorem Z33 : a <= a + b := (@Aa a (a + b) 0 0 0 0 (Nat.le_add_right a b) rfl)
theorem Z35 {x0 : Int} : (0 : Int) < x0 -> x0 ≠ (0 : Int) := by omega
theorem Z36 : (0 : Int) < (1009 : Int) := by decide
theorem Z73 {x0 : Int} : (0 : Int) <= x0 -> x0 + (1 : Int) - (1 : Int) = (↑x0.toNat : Int) := by omega
theorem Z76 {x0 : Int} {x1 : Nat} : x0 + (1 : Int) - (1 : Int) = (↑x0.toNat : Int) -> x0 < (↑x1 : Int) -> x0.toNat < x1 := by omega
theorem Z79 {x0 : Int} : x0 + (1 : Int) - (1 : Int) = (↑x0.toNat : Int) -> (0 : Int) <= x0 + (1 : Int) := by omega
theorem Z80 : (1009 : Int) ≠ (0 : Int) := by decide
theorem Z81 {x0 : Int} : (0 : Int) <= x0 -> (-1000000000000 : Int) < x0 := by omega
theorem Z83 {x0 : Int} : x0 < (1009 : Int) -> x0 < (1000000000000 : Int) := by omega
theorem Z87 {x0 : Int} : (-1000000000000 : Int) < (x0 * (37 : Int) + (11 : Int)) % (1009 : Int) := by omega
theorem Z88 {x0 : Int} : (x0 * (37 : Int) + (11 : Int)) % (1009 : Int) < (1000000000000 : Int) := by omega
theorem Q0 : a < 1000 -> a < 100000 := fun q => (@Aa a 0 1 1000 1 100000 q rfl)
theorem Q1 : a < b -> a ≠ b := fun q => (Nat.ne_of_lt (@Aa a b 1 0 1 0 q rfl))
theorem Q2 : a <= 2 -> a < 100000 := fun q => (@Aa a 0 0 2 1 100000 q rfl)
theorem Q3 : a + (b + 1) = c -> a < c := fun q => (@Aa a c 1 0 1 0 (@AE a (a + b) c 0 0 1 0 (Nat.le_add_right a b) (Nat.le_of_eq q)) rfl)
theorem Q4 : a + (b + 1) = c -> a + 1 + b = c := by omega
theorem Q5 : 63 <= a -> 46 ≠ a := fun q => (Nat.ne_of_lt (@Aa 0 a 63 0 47 0 q rfl))
theorem Q6 : a <= 6 -> a ≠ 11 := fun q => (Nat.ne_of_lt (@Aa a 0 0 6 1 11 q rfl))
theorem Q7 : a = b -> b <= 2 -> a < 100000 := fun q r => (@Aa a 0 0 2 1 100000 (@AE a b 0 0 0 0 2 (Nat.le_of_eq q) r) rfl)
theorem Q8 : 63 <= a -> a ≠ 46 := fun q => (Nat.ne_of_gt (@Aa 0 a 63 0 47 0 q rfl))
theorem Q9 : a <= 3 -> a < 100000 := fun q => (@Aa a 0 0 3 1 100000 q rfl)
theorem bH : a + 1 ≠ a := (Nat.ne_of_gt (@ZR a 1 1 rfl))
theorem bG : 63 <= a -> b <= 6 -> b ≠ a := fun q r => (Nat.ne_of_lt (@Aa b a 63 6 1 0 (@AE b 0 a 0 6 63 0 r q) rfl))
theorem bE : a < 100 -> a < 100000 := fun q => (@Aa a 0 1 100 1 100000 q rfl)
theorem eX : a < 20 -> a < 100000 := fun q => (@Aa a 0 1 20 1 100000 q rfl)
theorem fW : a + 2 ≠ a := (Nat.ne_of_gt (@ZR a 1 2 rfl))
theorem fV : a <= 6 -> a ≠ 46 := fun q => (Nat.ne_of_lt (@Aa a 0 0 6 1 46 q rfl))
theorem fU : a = b -> b <= 2 -> a <= 2 := fun q r => (@Aa a 0 0 2 0 2 (@AE a b 0 0 0 0 2 (Nat.le_of_eq q) r) rfl)
theorem fT : a + (b + 1) = c -> d = a -> c <= 3 -> d < 100000 := fun q r s => (@Aa d 0 1 3 1 100000 (@AE d a 0 0 0 1 3 (Nat.le_of_eq r) (@AE a (a + b) 0 0 0 1 3 (Nat.le_add_right a b) (@AE (a + b) c 0 1 0 0 3 (Nat.le_of_eq q) s))) rfl)
theorem fR : 63 <= a -> 33 ≠ a := fun q => (Nat.ne_of_lt (@Aa 0 a 63 0 34 0 q rfl))
theorem nO : a ≠ a + 1 := (Nat.ne_of_lt (@ZR a 1 1 rfl))
theorem nN : a = 0 \/ a = 10 \/ 18 <= a /\ a <= 23 -> a ≠ 46 := fun h => (by decide : ∀ a, a < 24 -> a = 0 \/ a = 10 \/ 18 <= a /\ a <= 23 -> a ≠ 46) a (gF h) h
theorem nM : 63 <= a -> a + 3 <= b -> 11 ≠ b := fun q r => (Nat.ne_of_lt (@Aa 0 b 66 0 12 0 (@AE 0 a b 63 0 3 0 q r) rfl))
theorem nL : 63 <= a -> 11 ≠ a := fun q => (Nat.ne_of_lt (@Aa 0 a 63 0 12 0 q rfl))
theorem nK : 63 <= a -> a ≠ 37 := fun q => (Nat.ne_of_gt (@Aa 0 a 63 0 38 0 q rfl))
theorem nJ : 63 <= a -> a ≠ 33 := fun q => (Nat.ne_of_gt (@Aa 0 a 63 0 34 0 q rfl))
theorem pR : a + 2 ≠ a + 1 := (Nat.ne_of_gt (@ZR a 2 2 rfl))
theorem pQ : a ≠ a + 2 := (Nat.ne_of_lt (@ZR a 1 2 rfl))
theorem pP : a + 1 ≠ a + 2 := (Nat.ne_of_lt (@ZR a 2 2 rfl))
theorem pO : 63 <= a -> a + 1 ≠ 11 := fun q => (Nat.ne_of_gt (@Aa 0 a 63 0 12 1 q rfl))
theorem pM : 63 <= a -> a + 2 ≠ 11 := fun q => (Nat.ne_of_gt (@Aa 0 a 63 0 12 2 q rfl))
theorem pL : (46 : Nat) < (2 : Nat) \/ (6 : Nat) < (46 : Nat) := by decide
theorem pK : 63 <= a -> a < 2 \/ 6 < a := fun q => (.inr (@Aa 0 a 63 0 7 0 q rfl))
theorem pJ : 63 <= a -> a + 1 ≠ 46 := fun q => (Nat.ne_of_gt (@Aa 0 a 63 0 47 1 q rfl))
theorem pH : 63 <= a -> a < b -> b ≠ 46 := fun q r => (Nat.ne_of_gt (@Aa 0 b 64 0 47 0 (@AE 0 a b 63 0 1 0 q r) rfl))
theorem pG : 63 <= a -> a + 1 ≠ 30 := fun q => (Nat.ne_of_gt (@Aa 0 a 63 0 31 1 q rfl))
theorem pF : 63 <= a -> 37 ≠ a := fun q => (Nat.ne_of_lt (@Aa 0 a 63 0 38 0 q rfl))
theorem pE : 63 <= a -> 37 ≠ a + 1 := fun q => (Nat.ne_of_lt (@Aa 0 a 63 0 38 1 q rfl))
theorem wC : a + 0 = b -> c = b -> c <= a := fun q r => (@Aa c a 0 0 0 0 (@AE c b a 0 0 0 0 (Nat.le_of_eq r) (Nat.le_of_eq q.symm)) rfl)
theorem wB : 63 <= a -> 46 ≠ a + 1 := fun q => (Nat.ne_of_lt (@Aa 0 a 63 0 47 1 q rfl))
theorem v9 : 63 <= a -> a ≠ 11 := fun q => (Nat.ne_of_gt (@Aa 0 a 63 0 12 0 q rfl))
theorem v8 : a < b -> a ≠ b + 1 := fun q => (Nat.ne_of_lt (@Aa a b 1 0 1 1 q rfl))
theorem v7 : 18 <= a -> 0 ≠ a := fun q => (Nat.ne_of_lt (@Aa 0 a 18 0 1 0 q rfl))
theorem v5 : 63 <= a -> a ≠ 30 := fun q => (Nat.ne_of_gt (@Aa 0 a 63 0 31 0 q rfl))
theorem v3 : 18 <= a -> 10 ≠ a := fun q => (Nat.ne_of_lt (@Aa 0 a 18 0 11 0 q rfl))
theorem vz : a = 0 \/ a = 10 \/ 18 <= a /\ a <= 23 -> a < 2 \/ 6 < a := fun h => (by decide : ∀ a, a < 24 -> a = 0 \/ a = 10 \/ 18 <= a /\ a <= 23 -> a < 2 \/ 6 < a) a (gF h) h
theorem vy : (37 : Nat) ≠ (46 : Nat) := by decide
theorem vw : 63 <= a -> 46 ≠ a + 2 := fun q => (Nat.ne_of_lt (@Aa 0 a 63 0 47 2 q rfl))
theorem vu : a < b -> a < b := fun q => (@Aa a b 1 0 1 0 q rfl)
theorem vq : 63 <= a -> b <= 6 -> b ≠ a + 1 := fun q r => (Nat.ne_of_lt (@Aa b a 63 6 1 1 (@AE b 0 a 0 6 63 0 r q) rfl))
theorem vn : 63 <= a -> a + 2 ≠ 46 := fun q => (Nat.ne_of_gt (@Aa 0 a 63 0 47 2 q rfl))
theorem vm : a <= 3 -> a < 1000 := fun q => (@Aa a 0 0 3 1 1000 q rfl)
theorem vh : a + 1 + b = a + (b + 1) := by omega
theorem vf : a < 900 -> a + 1 < 1000 := fun q => (@Aa a 0 1 900 2 1000 q rfl)
theorem vd : a < 900 -> a < 1000 := fun q => (@Aa a 0 1 900 1 1000 q rfl)
theorem vZ {x0 : Nat} : (0 : Nat) < x0 -> (↑x0 : Int) ≠ (0 : Int) := fun h0 => (dle (Nat.ne_of_gt (@Aa 0 x0 1 0 1 0 h0 rfl)))
theorem vY : 63 <= a -> a ≠ 13 := fun q => (Nat.ne_of_gt (@Aa 0 a 63 0 14 0 q rfl))
theorem Q56 : ¬a < b -> b <= a := fun q => (@Aa b a 0 0 0 0 (Nat.le_of_not_lt q) rfl)
theorem Q57 : 15 <= a -> a ≠ 12 := fun q => (Nat.ne_of_gt (@Aa 0 a 15 0 13 0 q rfl))
theorem Q58 : 15 <= a -> a ≠ 14 := fun q => (Nat.ne_of_gt (@Aa 0 a 15 0 15 0 q rfl))
theorem Q59 : 15 <= a -> a ≠ 13 := fun q => (Nat.ne_of_gt (@Aa 0 a 15 0 14 0 q rfl))
theorem Q60 : (46 : Nat) < (63 : Nat) := by decide
theorem Q61 : a + 2 < b -> b ≠ a + 2 := fun q => (Nat.ne_of_gt (@Aa a b 3 0 3 0 q rfl))
theorem Q62 : a + 2 < b -> b ≠ a + 1 := fun q => (Nat.ne_of_gt (@Aa a b 3 0 2 0 q rfl))
theorem Q63 : a < b -> a ≠ b + 2 := fun q => (Nat.ne_of_lt (@Aa a b 1 0 1 2 q rfl))
theorem Q64 : 18 <= a -> a ≠ 16 := fun q => (Nat.ne_of_gt (@Aa 0 a 18 0 17 0 q rfl))
theorem Q65 : 63 <= a -> b < c -> a <= d -> d <= b -> c ≠ 46 := fun q r s t => (Nat.ne_of_gt (@Aa 0 c 64 0 47 0 (@AE 0 a c 63 0 1 0 q (@AE a d c 0 0 1 0 s (@AE d b c 0 0 1 0 t r))) rfl))
theorem Q66 : a <= 6 -> a ≠ 30 := fun q => (Nat.ne_of_lt (@Aa a 0 0 6 1 30 q rfl))
theorem Q67 : 18 <= a -> a ≠ 15 := fun q => (Nat.ne_of_gt (@Aa 0 a 18 0 16 0 q rfl))
theorem Q68 : 18 <= a -> a ≠ 11 := fun q => (Nat.ne_of_gt (@Aa 0 a 18 0 12 0 q rfl))
theorem Q69 : a <= b + 1 -> b <= c + d -> a <= c + (d + 1) := fun q r => (@Aa a (c + d) 0 1 0 1 (@AE a b (c + d) 0 1 0 0 q r) rfl)
theorem Q70 : 63 <= a -> b + 1 < c -> d < l -> f < d -> l < b -> a <= f -> 15 <= c + 3 := fun q r s t u v => (@Aa 0 c 68 0 15 3 (@AE 0 a c 63 0 5 0 q (@AE a f c 0 0 5 0 v (@AE f d c 1 0 4 0 t (@AE d l c 1 0 3 0 s (@AE l b c 1 0 2 0 u r))))) rfl)
theorem Q71 : 63 <= a -> b < c -> a <= b -> 15 <= c := fun q r s => (@Aa 0 c 64 0 15 0 (@AE 0 a c 63 0 1 0 q (@AE a b c 0 0 1 0 s r)) rfl)
theorem Q72 : a <= 6 -> a ≠ 12 := fun q => (Nat.ne_of_lt (@Aa a 0 0 6 1 12 q rfl))
theorem Q73 : a <= 6 -> a ≠ 14 := fun q => (Nat.ne_of_lt (@Aa a 0 0 6 1 14 q rfl))
theorem Q74 : a <= 6 -> a ≠ 13 := fun q => (Nat.ne_of_lt (@Aa a 0 0 6 1 13 q rfl))
theorem Q75 : a = 0 \/ a = 10 \/ 18 <= a /\ a <= 23 -> a ≠ 11 /\ a ≠ 8 /\ a ≠ 46 /\ a ≠ 37 /\ a ≠ 29 /\ a ≠ 31 /\ a ≠ 33 /\ a ≠ 30 /\ (a < 2 \/ 6 < a) := fun h => (by decide : ∀ a, a < 24 -> a = 0 \/ a = 10 \/ 18 <= a /\ a <= 23 -> a ≠ 11 /\ a ≠ 8 /\ a ≠ 46 /\ a ≠ 37 /\ a ≠ 29 /\ a ≠ 31 /\ a ≠ 33 /\ a ≠ 30 /\ (a < 2 \/ 6 < a)) a (gF h) h
theorem Q76 : a < 8 -> b = a + 1 -> b + 1 < 1000 := fun q r => (@Aa b 0 1 9 2 1000 (@AE b a 0 0 1 1 8 (Nat.le_of_eq r) q) rfl)
theorem Q77 : a + (b + 1) = c -> c < 100 -> a < 1000 := fun q r => (@Aa a 0 2 100 1 1000 (@AE a (a + b) 0 0 0 2 100 (Nat.le_add_right a b) (@AE (a + b) c 0 1 0 1 100 (Nat.le_of_eq q) r)) rfl)
theorem Q78 : a = 15 \/ a = 16 -> a ≠ 11 /\ a ≠ 8 /\ a ≠ 46 /\ a ≠ 37 /\ a ≠ 29 /\ a ≠ 31 /\ a ≠ 33 /\ a ≠ 30 /\ (a < 2 \/ 6 < a) := by intro q; rcases q with rfl | rfl <;> decide
theorem Q79 : 63 <= a -> b < c -> a <= d -> d <= b -> 63 <= c := fun q r s t => (@Aa 0 c 64 0 63 0 (@AE 0 a c 63 0 1 0 q (@AE a d c 0 0 1 0 s (@AE d b c 0 0 1 0 t r))) rfl)
theorem Q80 : 18 <= a -> 17 ≠ a := fun q => (Nat.ne_of_lt (@Aa 0 a 18 0 18 0 q rfl))
theorem Q81 : a <= 6 -> a ≠ 37 := fun q => (Nat.ne_of_lt (@Aa a 0 0 6 1 37 q rfl))
theorem Q82 : a < 8 -> a < 10 := fun q => (@Aa a 0 1 8 1 10 q rfl)
theorem Q83 : a + (b + 1) = c -> c < 100 -> a < 100000 := fun q r => (@Aa a 0 2 100 1 100000 (@AE a (a + b) 0 0 0 2 100 (Nat.le_add_right a b) (@AE (a + b) c 0 1 0 1 100 (Nat.le_of_eq q) r)) rfl)
theorem Q84 : 63 <= a -> b < c -> a <= b -> c ≠ 12 := fun q r s => (Nat.ne_of_gt (@Aa 0 c 64 0 13 0 (@AE 0 a c 63 0 1 0 q (@AE a b c 0 0 1 0 s r)) rfl))
theorem Q85 : a < 8 -> b <= 10 * a -> b < 800 := by omega
theorem Q86 : 63 <= a -> b + 1 < c -> d + 1 < l -> l + 5 < b -> f < d -> g < i -> i < f -> c <= j -> a <= g -> 63 <= j := fun q r s t u v w x y => (@Aa 0 j 76 0 63 0 (@AE 0 a j 63 0 13 0 q (@AE a g j 0 0 13 0 y (@AE g i j 1 0 12 0 v (@AE i f j 1 0 11 0 w (@AE f d j 1 0 10 0 u (@AE d l j 2 0 8 0 s (@AE l b j 6 0 2 0 t (@AE b c j 2 0 0 0 r x)))))))) rfl)
theorem Q87 : 63 <= a -> a <= b -> 63 <= b := fun q r => (@Aa 0 b 63 0 63 0 (@AE 0 a b 63 0 0 0 q r) rfl)
theorem Q88 : a < b -> b <= c -> a ≠ c := fun q r => (Nat.ne_of_lt (@Aa a c 1 0 1 0 (@AE a b c 1 0 0 0 q r) rfl))
theorem Q89 : (46 : Nat) ≠ (11 : Nat) := by decide
theorem Q90 : 63 <= a -> b <= 6 -> b ≠ a + 2 := fun q r => (Nat.ne_of_lt (@Aa b a 63 6 1 2 (@AE b 0 a 0 6 63 0 r q) rfl))
theorem Q91 : a + 3 <= b -> a + 1 < b := fun q => (@Aa a b 3 0 2 0 q rfl)
theorem Q92 : a + (b + 1) = c -> d = c -> a < d := fun q r => (@Aa a d 1 0 1 0 (@AE a (a + b) d 0 0 1 0 (Nat.le_add_right a b) (@AE (a + b) c d 1 0 0 0 (Nat.le_of_eq q) (Nat.le_of_eq r.symm))) rfl)
theorem Q93 : 63 <= a -> 6 < a := fun q => (@Aa 0 a 63 0 7 0 q rfl)
theorem Q94 : a <= 6 -> a ≠ 33 := fun q => (Nat.ne_of_lt (@Aa a 0 0 6 1 33 q rfl))
theorem Q95 : a = b -> c = b -> a = c := fun q r => (Nat.le_antisymm (@Aa a c 0 0 0 0 (@AE a b c 0 0 0 0 (Nat.le_of_eq q) (Nat.le_of_eq r.symm)) rfl) (@Aa c a 0 0 0 0 (@AE c b a 0 0 0 0 (Nat.le_of_eq r) (Nat.le_of_eq q.symm)) rfl))
theorem Q96 : a < 1000 -> a + 1 < 100000 := fun q => (@Aa a 0 1 1000 2 100000 q rfl)
theorem Q97 : a = 0 \/ a = 10 \/ 18 <= a /\ a <= 23 -> a ≠ 37 := fun h => (by decide : ∀ a, a < 24 -> a = 0 \/ a = 10 \/ 18 <= a /\ a <= 23 -> a ≠ 37) a (gF h) h
theorem Q98 : a <= 6 -> a ≠ 29 := fun q => (Nat.ne_of_lt (@Aa a 0 0 6 1 29 q rfl))
theorem Q99 : a <= 6 -> a ≠ 31 := fun q => (Nat.ne_of_lt (@Aa a 0 0 6 1 31 q rfl))
theorem oH : 63 <= a -> a < b -> 46 ≠ b := fun q r => (Nat.ne_of_lt (@Aa 0 b 64 0 47 0 (@AE 0 a b 63 0 1 0 q r) rfl))
theorem oG : 63 <= a -> a < b -> 29 ≠ b := fun q r => (Nat.ne_of_lt (@Aa 0 b 64 0 30 0 (@AE 0 a b 63 0 1 0 q r) rfl))
theorem oF : 63 <= a -> a < b -> 31 ≠ b := fun q r => (Nat.ne_of_lt (@Aa 0 b 64 0 32 0 (@AE 0 a b 63 0 1 0 q r) rfl))
theorem oE : 63 <= a -> a < b -> b + 1 ≠ 46 := fun q r => (Nat.ne_of_gt (@Aa 0 b 64 0 47 1 (@AE 0 a b 63 0 1 0 q r) rfl))
theorem oD : 63 <= a -> a < b -> b + 2 ≠ 46 := fun q r => (Nat.ne_of_gt (@Aa 0 b 64 0 47 2 (@AE 0 a b 63 0 1 0 q r) rfl))
theorem oB : 63 <= a -> b < c -> a <= d -> d <= b -> c ≠ 33 := fun q r s t => (Nat.ne_of_gt (@Aa 0 c 64 0 34 0 (@AE 0 a c 63 0 1 0 q (@AE a d c 0 0 1 0 s (@AE d b c 0 0 1 0 t r))) rfl))
theorem oA : a + 1 < b + 1 -> a < b := fun q => (@Aa a b 2 1 1 0 q rfl)
theorem n9 : 63 <= a -> b + 1 < c -> d < l -> f < d -> g < b -> i <= f -> l <= j -> j <= g -> a <= i -> 46 ≠ c := fun q r s t u v w x y => (Nat.ne_of_lt (@Aa 0 c 68 0 47 0 (@AE 0 a c 63 0 5 0 q (@AE a i c 0 0 5 0 y (@AE i f c 0 0 5 0 v (@AE f d c 1 0 4 0 t (@AE d l c 1 0 3 0 s (@AE l j c 0 0 3 0 w (@AE j g c 0 0 3 0 x (@AE g b c 1 0 2 0 u r)))))))) rfl))
theorem n8 : 2 <= a -> 1 <= a := fun q => (@Aa 0 a 2 0 1 0 q rfl)
theorem n7 : a = b + 1 -> b <= a := fun q => (@Aa b a 1 0 0 0 (Nat.le_of_eq q.symm) rfl)
theorem n4 {x0 : Int} : (0 : Int) <= x0 -> (-100000 : Int) < x0 + (1 : Int) := by omega
theorem n3 {x0 : Int} : x0 < (3 : Int) -> x0 + (1 : Int) < (100000 : Int) := by omega
theorem nz {x0 : Int} : x0 < (3 : Int) -> (x0 + (1 : Int)).toNat < (100000 : Nat) := by omega
theorem ny {x0 : Int} : x0 < (3 : Int) -> (0 : Nat) + (x0 + (1 : Int)).toNat <= (3 : Nat) := by omega
theorem nu : 63 <= a -> b + 1 < c -> d < l -> f < d -> g < b -> i <= f -> l <= j -> j <= g -> a <= i -> 46 ≠ c + 1 := fun q r s t u v w x y => (Nat.ne_of_lt (@Aa 0 c 68 0 47 1 (@AE 0 a c 63 0 5 0 q (@AE a i c 0 0 5 0 y (@AE i f c 0 0 5 0 v (@AE f d c 1 0 4 0 t (@AE d l c 1 0 3 0 s (@AE l j c 0 0 3 0 w (@AE j g c 0 0 3 0 x (@AE g b c 1 0 2 0 u r)))))))) rfl))
theorem nt {x0 : Int} : x0 = (6 : Int) \/ x0 = (7 : Int) -> ¬(x0 = (4 : Int) \/ x0 = (5 : Int)) := by intro h; rcases h with rfl | rfl <;> decide
theorem nq : 63 <= a -> b + 1 < c -> d < l -> f < d -> g < b -> i <= f -> l <= j -> j <= g -> a <= i -> 46 ≠ c + 2 := fun q r s t u v w x y => (Nat.ne_of_lt (@Aa 0 c 68 0 47 2 (@AE 0 a c 63 0 5 0 q (@AE a i c 0 0 5 0 y (@AE i f c 0 0 5 0 v (@AE f d c 1 0 4 0 t (@AE d l c 1 0 3 0 s (@AE l j c 0 0 3 0 w (@AE j g c 0 0 3 0 x (@AE g b c 1 0 2 0 u r)))))))) rfl))
theorem nk : a + 1 < b -> a + 1 < b := fun q => (@Aa a b 2 0 2 0 q rfl)
theorem ni : 63 <= a -> b < c -> a < b -> c ≠ 46 := fun q r s => (Nat.ne_of_gt (@Aa 0 c 65 0 47 0 (@AE 0 a c 63 0 2 0 q (@AE a b c 1 0 1 0 s r)) rfl))
theorem nh : 63 <= a -> b < c -> a < b -> c + 1 ≠ 46 := fun q r s => (Nat.ne_of_gt (@Aa 0 c 65 0 47 1 (@AE 0 a c 63 0 2 0 q (@AE a b c 1 0 1 0 s r)) rfl))
theorem nZ : a < 900 -> b <= 1 -> a + b < 1000 := by omega
theorem nY : a < 800 -> a < 900 := fun q => (@Aa a 0 1 800 1 900 q rfl)
theorem nX : a <= 4 -> b <= a -> b < 100000 := fun q r => (@Aa b 0 0 4 1 100000 (@AE b a 0 0 0 0 4 r q) rfl)
theorem nW : a = 17 -> a < 100000 := fun q => (@Aa a 0 0 17 1 100000 (Nat.le_of_eq q) rfl)
theorem nV {x0 : Int} : x0 = (91 : Int) \/ x0 = (99 : Int) \/ x0 = (96 : Int) \/ x0 = (0 : Int) -> x0 ≠ (0 : Int) -> x0 = (91 : Int) \/ x0 = (99 : Int) \/ x0 = (96 : Int) := by intro h; rcases h with rfl | rfl | rfl | rfl <;> decide
theorem nU {x0 x1 x2 x3 x4 x5 : Nat} : x0 + (x1 + (1 : Nat)) = x2 -> x3 < (100 : Nat) -> x4 = x3 + (1 : Nat) -> x2 <= (3 : Nat) -> (↑x5 : Int) + (1 : Int) = (↑(x4 + x0) : Int) -> x5 < (100000 : Nat) := by omega
theorem nT : a < 10 -> b = a -> b < 100000 := fun q r => (@Aa b 0 1 10 1 100000 (@AE b a 0 0 0 1 10 (Nat.le_of_eq r) q) rfl)
theorem nS : a ≠ 46 -> a ≠ 46 := fun q => q
theorem nR : a < 2 \/ 6 < a -> a < 2 \/ 6 < a := by omega
theorem nQ : a + (b + 1) = c -> c < 100 -> d = a -> d < 100000 := fun q r s => (@Aa d 0 2 100 1 100000 (@AE d a 0 0 0 2 100 (Nat.le_of_eq s) (@AE a (a + b) 0 0 0 2 100 (Nat.le_add_right a b) (@AE (a + b) c 0 1 0 1 100 (Nat.le_of_eq q) r))) rfl)
theorem nP : 63 <= a -> a <= b -> b <= c -> c ≠ 46 := fun q r s => (Nat.ne_of_gt (@Aa 0 c 63 0 47 0 (@AE 0 a c 63 0 0 0 q (@AE a b c 0 0 0 0 r s)) rfl))
theorem zy {x0 x1 : Nat} {x2 : Int} : x0 = (64 : Nat) /\ x1 = (18 : Nat) /\ x2 = (1 : Int) \/ x0 = (65 : Nat) /\ x1 = (22 : Nat) /\ x2 = (2 : Int) -> x1 < (63 : Nat) := by rintro (⟨_, rfl, _⟩ | ⟨_, rfl, _⟩) <;> decide
theorem zw : 63 <= a -> b + 1 < c -> d < l -> f < d -> l < b -> a <= f -> 15 <= c := fun q r s t u v => (@Aa 0 c 68 0 15 0 (@AE 0 a c 63 0 5 0 q (@AE a f c 0 0 5 0 v (@AE f d c 1 0 4 0 t (@AE d l c 1 0 3 0 s (@AE l b c 1 0 2 0 u r))))) rfl)
theorem zu : a < 2 \/ 6 < a -> ¬a = 11 -> ¬a = 29 -> ¬a = 30 -> ¬a = 31 -> ¬a = 33 -> ¬a = 37 -> ¬a = 46 -> ¬a = 8 -> a ≠ 11 /\ a ≠ 8 /\ a ≠ 46 /\ a ≠ 37 /\ a ≠ 29 /\ a ≠ 31 /\ a ≠ 33 /\ a ≠ 30 /\ (a < 2 \/ 6 < a) := fun h q r s t u v w x => ⟨q, x, w, v, r, t, u, s, h⟩
theorem zt : 63 <= a -> b + 1 < c -> c + 5 < d -> l < b -> f < l -> g < f -> a <= g -> 15 <= d := fun q r s t u v w => (@Aa 0 d 74 0 15 0 (@AE 0 a d 63 0 11 0 q (@AE a g d 0 0 11 0 w (@AE g f d 1 0 10 0 v (@AE f l d 1 0 9 0 u (@AE l b d 1 0 8 0 t (@AE b c d 2 0 6 0 r s)))))) rfl)
theorem zr : a = 2 \/ a = 3 \/ a = 4 \/ a = 5 \/ a = 6 -> 2 <= a /\ a <= 6 := by intro q; rcases q with rfl | rfl | rfl | rfl | rfl <;> decide
theorem zq : ¬(a < 2 \/ 6 < a) -> a = 2 \/ a = 3 \/ a = 4 \/ a = 5 \/ a = 6 := fun h => (by decide : ∀ a, a < 7 -> ¬(a < 2 \/ 6 < a) -> a = 2 \/ a = 3 \/ a = 4 \/ a = 5 \/ a = 6) a (Nat.lt_of_not_le fun z => h (.inr z)) h
theorem zp : 63 <= a -> b + 1 < c -> d < l -> f < d -> l < b -> a <= f -> 15 <= c + 1 := fun q r s t u v => (@Aa 0 c 68 0 15 1 (@AE 0 a c 63 0 5 0 q (@AE a f c 0 0 5 0 v (@AE f d c 1 0 4 0 t (@AE d l c 1 0 3 0 s (@AE l b c 1 0 2 0 u r))))) rfl)
theorem zo : a = b -> b = c -> c <= 2 -> a < 100000 := fun q r s => (@Aa a 0 0 2 1 100000 (@AE a b 0 0 0 0 2 (Nat.le_of_eq q) (@AE b c 0 0 0 0 2 (Nat.le_of_eq r) s)) rfl)
theorem zm : a + (b + 1) = c -> d < 890 -> c <= 2 -> l <= d + a -> l < 900 := by omega
theorem zl : 63 <= a -> b + 1 < c -> d < l -> f < d -> l < b -> a <= f -> 15 <= c + 2 := fun q r s t u v => (@Aa 0 c 68 0 15 2 (@AE 0 a c 63 0 5 0 q (@AE a f c 0 0 5 0 v (@AE f d c 1 0 4 0 t (@AE d l c 1 0 3 0 s (@AE l b c 1 0 2 0 u r))))) rfl)
theorem zk : 63 <= a -> b < c -> a < b -> d <= 6 -> d ≠ c + 1 := fun q r s t => (Nat.ne_of_lt (@Aa d c 65 6 1 1 (@AE d 0 c 0 6 65 0 t (@AE 0 a c 63 0 2 0 q (@AE a b c 1 0 1 0 s r))) rfl))
theorem zj : 63 <= a -> b + 1 < c -> c + 5 < d -> l < b -> f < l -> g < f -> a <= g -> 15 <= d + 1 := fun q r s t u v w => (@Aa 0 d 74 0 15 1 (@AE 0 a d 63 0 11 0 q (@AE a g d 0 0 11 0 w (@AE g f d 1 0 10 0 v (@AE f l d 1 0 9 0 u (@AE l b d 1 0 8 0 t (@AE b c d 2 0 6 0 r s)))))) rfl)
theorem zi : 63 <= a -> b < c -> a < b -> d <= 6 -> d ≠ c + 2 := fun q r s t => (Nat.ne_of_lt (@Aa d c 65 6 1 2 (@AE d 0 c 0 6 65 0 t (@AE 0 a c 63 0 2 0 q (@AE a b c 1 0 1 0 s r))) rfl))
theorem zh : a < 8 -> b = a + 1 -> b < 1000 := fun q r => (@Aa b 0 1 9 1 1000 (@AE b a 0 0 1 1 8 (Nat.le_of_eq r) q) rfl)
theorem zg : 63 <= a -> b + 2 < c -> d < b -> a < d -> l <= 6 -> l ≠ c := fun q r s t u => (Nat.ne_of_lt (@Aa l c 68 6 1 0 (@AE l 0 c 0 6 68 0 u (@AE 0 a c 63 0 5 0 q (@AE a d c 1 0 4 0 t (@AE d b c 1 0 3 0 s r)))) rfl))
theorem zf : a + 2 < b -> c < d -> d < a -> c ≠ b := fun q r s => (Nat.ne_of_lt (@Aa c b 5 0 1 0 (@AE c d b 1 0 4 0 r (@AE d a b 1 0 3 0 s q)) rfl))
theorem ze : a < 4 -> b = a -> b < 20 := fun q r => (@Aa b 0 1 4 1 20 (@AE b a 0 0 0 1 4 (Nat.le_of_eq r) q) rfl)
theorem zd : a + (b + 1) = c -> c < 100 -> d < 800 -> l = a -> d + l < 1000 := by omega
theorem zZ : 63 <= a -> a < b -> c = 0 \/ c = 10 \/ 18 <= c /\ c <= 23 -> c ≠ b := fun h g r e => ng (Nat.le_trans h (Nat.le_of_lt g)) (Nat.ble_eq_true_of_le (Nat.le_trans (gF r) (by decide) : c < 63)) e.symm
theorem zY : 63 <= a -> b < c -> c < d -> l <= b -> d <= f -> a <= l -> 63 <= f := fun q r s t u v => (@Aa 0 f 65 0 63 0 (@AE 0 a f 63 0 2 0 q (@AE a l f 0 0 2 0 v (@AE l b f 0 0 2 0 t (@AE b c f 1 0 1 0 r (@AE c d f 1 0 0 0 s u))))) rfl)
theorem zX : a + 2 < b -> a + 2 ≠ b := fun q => (Nat.ne_of_lt (@Aa a b 3 0 3 0 q rfl))
theorem zV : 63 <= a -> a < b -> c = b + 1 -> d <= l -> c <= d -> 63 <= l := fun q r s t u => (@Aa 0 l 65 0 63 0 (@AE 0 a l 63 0 2 0 q (@AE a b l 1 0 1 0 r (@AE b c l 1 0 0 0 (Nat.le_of_eq s.symm) (@AE c d l 0 0 0 0 u t)))) rfl)
theorem zU : 63 <= a -> b < c -> c < d -> a <= b -> 15 <= d := fun q r s t => (@Aa 0 d 65 0 15 0 (@AE 0 a d 63 0 2 0 q (@AE a b d 0 0 2 0 t (@AE b c d 1 0 1 0 r s))) rfl)
theorem zR : a < 8 -> b <= 100 + 10 * a -> c <= b + 3 -> c < 890 := by omega
theorem zQ : a = b + 1 -> a <= c -> b <= c := fun q r => (@Aa b c 1 0 0 0 (@AE b a c 1 0 0 0 (Nat.le_of_eq q.symm) r) rfl)
theorem zO : 63 <= a -> b < c -> d < b -> c < l -> a <= d -> 15 <= l := fun q r s t u => (@Aa 0 l 66 0 15 0 (@AE 0 a l 63 0 3 0 q (@AE a d l 0 0 3 0 u (@AE d b l 1 0 2 0 s (@AE b c l 1 0 1 0 r t)))) rfl)
theorem zN : a + (b + 1) = c -> c < 100 -> d < 800 -> d + a + 1 < 100000 := by omega
theorem zM : a = b + 1 -> c <= d -> a <= c -> b < d := fun q r s => (@Aa b d 1 0 1 0 (@AE b a d 1 0 0 0 (Nat.le_of_eq q.symm) (@AE a c d 0 0 0 0 s r)) rfl)
theorem zL : 63 <= a -> b < c -> d < b -> c < l -> a <= d -> 15 <= l + 1 := fun q r s t u => (@Aa 0 l 66 0 15 1 (@AE 0 a l 63 0 3 0 q (@AE a d l 0 0 3 0 u (@AE d b l 1 0 2 0 s (@AE b c l 1 0 1 0 r t)))) rfl)
theorem zK : ¬a = 11 -> a ≠ 11 := fun q => (fun e => q e)
theorem zJ : 63 <= a -> b + 1 < c -> d + 1 < l -> l + 5 < b -> f < d -> g < i -> i < f -> j <= k -> a <= g -> c <= j -> 63 <= k := fun q r s t u v w x y z => (@Aa 0 k 76 0 63 0 (@AE 0 a k 63 0 13 0 q (@AE a g k 0 0 13 0 y (@AE g i k 1 0 12 0 v (@AE i f k 1 0 11 0 w (@AE f d k 1 0 10 0 u (@AE d l k 2 0 8 0 s (@AE l b k 6 0 2 0 t (@AE b c k 2 0 0 0 r (@AE c j k 0 0 0 0 z x))))))))) rfl)
theorem zH : 12 <= a -> a <= 28 \/ a = 32 -> a ≠ 11 /\ a ≠ 8 /\ a ≠ 46 /\ a ≠ 37 /\ a ≠ 29 /\ a ≠ 31 /\ a ≠ 33 /\ a ≠ 30 /\ (a < 2 \/ 6 < a) := fun g h => (by decide : ∀ a, a < 33 -> 12 <= a /\ (a <= 28 \/ a = 32) -> a ≠ 11 /\ a ≠ 8 /\ a ≠ 46 /\ a ≠ 37 /\ a ≠ 29 /\ a ≠ 31 /\ a ≠ 33 /\ a ≠ 30 /\ (a < 2 \/ 6 < a)) a (h.elim (fun h => Nat.lt_succ_of_le (Nat.le_trans h (by decide))) fun e => e ▸ by decide) ⟨g, h⟩
theorem zG : 63 <= a -> b < c -> a <= d -> d <= b -> c ≠ 29 := fun q r s t => (Nat.ne_of_gt (@Aa 0 c 64 0 30 0 (@AE 0 a c 63 0 1 0 q (@AE a d c 0 0 1 0 s (@AE d b c 0 0 1 0 t r))) rfl))
theorem zE {x0 : Nat} {x1 : Int} : x0 = (64 : Nat) /\ x1 = (1 : Int) \/ x0 = (65 : Nat) /\ x1 = (2 : Int) -> x0 < (100000 : Nat) := by omega
theorem zB : a < b -> c <= d -> b <= c -> a + 1 <= d := fun q r s => (@Aa a d 1 0 1 0 (@AE a b d 1 0 0 0 q (@AE b c d 0 0 0 0 s r)) rfl)
theorem zA : a < 3 -> a = 0 \/ a = 1 \/ a = 2 := by omega
theorem y9 : a < b -> a = 10 \/ a = 11 \/ a = 15 \/ a = 16 \/ a = 17 \/ a = b \/ 2 <= a /\ a <= 6 -> a = 10 \/ a = 11 \/ a = 15 \/ a = 16 \/ a = 17 \/ 2 <= a /\ a <= 6 := fun h => .imp id (.imp id (.imp id (.imp id (.imp id fun z => z.elim (fun e => absurd e (Nat.ne_of_lt h)) id))))
theorem y8 : a + 2 < b -> c < d -> b < c -> l <= f -> d <= l -> f ≠ a + 2 := fun q r s t u => (Nat.ne_of_gt (@Aa a f 5 0 3 0 (@AE a b f 3 0 2 0 q (@AE b c f 1 0 1 0 s (@AE c d f 1 0 0 0 r (@AE d l f 0 0 0 0 u t)))) rfl))
theorem y7 : 63 <= a -> b + 1 < c -> d < l -> f < d -> g < b -> i <= f -> l <= j -> j <= g -> a <= i -> 63 <= c + 3 := fun q r s t u v w x y => (@Aa 0 c 68 0 63 3 (@AE 0 a c 63 0 5 0 q (@AE a i c 0 0 5 0 y (@AE i f c 0 0 5 0 v (@AE f d c 1 0 4 0 t (@AE d l c 1 0 3 0 s (@AE l j c 0 0 3 0 w (@AE j g c 0 0 3 0 x (@AE g b c 1 0 2 0 u r)))))))) rfl)
theorem y6 : a + 1 <= b -> c + 2 < d -> d < a -> b ≠ c + 2 := fun q r s => (Nat.ne_of_gt (@Aa c b 5 0 3 0 (@AE c d b 3 0 2 0 r (@AE d a b 1 0 1 0 s q)) rfl))
theorem y5 : a < 4 -> b <= c + a -> b <= c + 3 := by omega
theorem y4 : 63 <= a -> b + 1 <= c -> d + 2 < l -> a + 3 = d -> l < b -> c ≠ 30 := fun q r s t u => (Nat.ne_of_gt (@Aa 0 c 71 0 31 0 (@AE 0 a c 63 0 8 0 q (@AE a d c 3 0 5 0 (Nat.le_of_eq t) (@AE d l c 3 0 2 0 s (@AE l b c 1 0 1 0 u r)))) rfl))
theorem y2 : a + 1 < b -> c < d -> l < a -> d <= f -> f <= l -> c ≠ b + 3 := fun q r s t u => (Nat.ne_of_lt (@Aa c b 4 0 1 3 (@AE c d b 1 0 3 0 r (@AE d f b 0 0 3 0 t (@AE f l b 0 0 3 0 u (@AE l a b 1 0 2 0 s q)))) rfl))
theorem y0 : 63 <= a -> b + 1 < c -> d < l -> f < d -> g < b -> i <= f -> l <= j -> j <= g -> a <= i -> 46 ≠ c + 3 := fun q r s t u v w x y => (Nat.ne_of_lt (@Aa 0 c 68 0 47 3 (@AE 0 a c 63 0 5 0 q (@AE a i c 0 0 5 0 y (@AE i f c 0 0 5 0 v (@AE f d c 1 0 4 0 t (@AE d l c 1 0 3 0 s (@AE l j c 0 0 3 0 w (@AE j g c 0 0 3 0 x (@AE g b c 1 0 2 0 u r)))))))) rfl))
theorem yz : 63 <= a -> b + 1 < c -> d < l -> f < d -> l < b -> a <= f -> 15 <= c + 3 + 1 := fun q r s t u v => (@Aa 0 c 68 0 15 4 (@AE 0 a c 63 0 5 0 q (@AE a f c 0 0 5 0 v (@AE f d c 1 0 4 0 t (@AE d l c 1 0 3 0 s (@AE l b c 1 0 2 0 u r))))) rfl)
theorem yy : 63 <= a -> b + 1 < c -> d < l -> f < d -> g < b -> i <= f -> l <= j -> j <= g -> a <= i -> 63 <= c := fun q r s t u v w x y => (@Aa 0 c 68 0 63 0 (@AE 0 a c 63 0 5 0 q (@AE a i c 0 0 5 0 y (@AE i f c 0 0 5 0 v (@AE f d c 1 0 4 0 t (@AE d l c 1 0 3 0 s (@AE l j c 0 0 3 0 w (@AE j g c 0 0 3 0 x (@AE g b c 1 0 2 0 u r)))))))) rfl)
theorem yx : a + 2 < b -> c < d -> b < c -> l <= f -> d <= l -> a + 1 ≠ f := fun q r s t u => (Nat.ne_of_lt (@Aa a f 5 0 2 0 (@AE a b f 3 0 2 0 q (@AE b c f 1 0 1 0 s (@AE c d f 1 0 0 0 r (@AE d l f 0 0 0 0 u t)))) rfl))
theorem yw : 63 <= a -> b + 1 < c -> d < l -> f < d -> l < b -> a <= f -> 15 <= c + 3 + 2 := fun q r s t u v => (@Aa 0 c 68 0 15 5 (@AE 0 a c 63 0 5 0 q (@AE a f c 0 0 5 0 v (@AE f d c 1 0 4 0 t (@AE d l c 1 0 3 0 s (@AE l b c 1 0 2 0 u r))))) rfl)
theorem yu : 63 <= a -> b + 1 < c -> d < l -> f < d -> g < b -> i <= f -> l <= j -> j <= g -> a <= i -> c ≠ 33 := fun q r s t u v w x y => (Nat.ne_of_gt (@Aa 0 c 68 0 34 0 (@AE 0 a c 63 0 5 0 q (@AE a i c 0 0 5 0 y (@AE i f c 0 0 5 0 v (@AE f d c 1 0 4 0 t (@AE d l c 1 0 3 0 s (@AE l j c 0 0 3 0 w (@AE j g c 0 0 3 0 x (@AE g b c 1 0 2 0 u r)))))))) rfl))
theorem yt : a < b -> c < a -> d <= l -> b <= d -> c ≠ l := fun q r s t => (Nat.ne_of_lt (@Aa c l 2 0 1 0 (@AE c a l 1 0 1 0 r (@AE a b l 1 0 0 0 q (@AE b d l 0 0 0 0 t s))) rfl))
theorem yr : 63 <= a -> b + 1 < c -> d < l -> f < d -> g < b -> i <= f -> l <= j -> j <= g -> a <= i -> c + 1 ≠ 33 := fun q r s t u v w x y => (Nat.ne_of_gt (@Aa 0 c 68 0 34 1 (@AE 0 a c 63 0 5 0 q (@AE a i c 0 0 5 0 y (@AE i f c 0 0 5 0 v (@AE f d c 1 0 4 0 t (@AE d l c 1 0 3 0 s (@AE l j c 0 0 3 0 w (@AE j g c 0 0 3 0 x (@AE g b c 1 0 2 0 u r)))))))) rfl))
theorem yq : 63 <= a -> b + 1 < c -> d < l -> f < d -> g < b -> i <= f -> l <= j -> j <= g -> a <= i -> c + 2 ≠ 33 := fun q r s t u v w x y => (Nat.ne_of_gt (@Aa 0 c 68 0 34 2 (@AE 0 a c 63 0 5 0 q (@AE a i c 0 0 5 0 y (@AE i f c 0 0 5 0 v (@AE f d c 1 0 4 0 t (@AE d l c 1 0 3 0 s (@AE l j c 0 0 3 0 w (@AE j g c 0 0 3 0 x (@AE g b c 1 0 2 0 u r)))))))) rfl))
theorem yo : a <= 100 + 10 * b -> c <= a + 5 -> c <= 100 + 10 * (b + 1) := by omega
theorem yn : 63 <= a -> b + 1 < c -> d < l -> f < d -> g < b -> i <= 6 -> l <= j -> j <= g -> k <= f -> a <= k -> i < c \/ c + 3 < i := fun q r s t u v w x y z => (.inl (@Aa i c 68 6 1 0 (@AE i 0 c 0 6 68 0 v (@AE 0 a c 63 0 5 0 q (@AE a k c 0 0 5 0 z (@AE k f c 0 0 5 0 y (@AE f d c 1 0 4 0 t (@AE d l c 1 0 3 0 s (@AE l j c 0 0 3 0 w (@AE j g c 0 0 3 0 x (@AE g b c 1 0 2 0 u r))))))))) rfl))
theorem ym {x0 x1 x2 : Nat} : x0 < x1 -> x1 = x2 -> x2 <= (2 : Nat) -> (↑x0 : Int) < (100000 : Int) := fun h0 h1 h2 => (Int.ofNat_lt.mpr (@Aa x0 0 1 2 1 100000 (@AE x0 x1 0 1 0 0 2 h0 (@AE x1 x2 0 0 0 0 2 (Nat.le_of_eq h1) h2)) rfl))
theorem yk : 63 <= a -> b + 1 < c -> d < l -> f < d -> g < b -> i <= f -> l <= j -> j <= g -> a <= i -> 29 < c \/ c + 3 < 29 := fun q r s t u v w x y => (.inl (@Aa 0 c 68 0 30 0 (@AE 0 a c 63 0 5 0 q (@AE a i c 0 0 5 0 y (@AE i f c 0 0 5 0 v (@AE f d c 1 0 4 0 t (@AE d l c 1 0 3 0 s (@AE l j c 0 0 3 0 w (@AE j g c 0 0 3 0 x (@AE g b c 1 0 2 0 u r)))))))) rfl))
theorem yj : a <= 3 -> b <= 3 * c -> b + a <= 3 * (c + 1) := by omega
theorem yi : 63 <= a -> b + 1 < c -> d < b -> a < d -> l = c + 3 -> 63 <= l := fun q r s t u => (@Aa 0 l 70 0 63 0 (@AE 0 a l 63 0 7 0 q (@AE a d l 1 0 6 0 t (@AE d b l 1 0 5 0 s (@AE b c l 2 0 3 0 r (Nat.le_of_eq u.symm))))) rfl)
theorem yh : a < 8 -> b = c + 1 -> c <= 3 * a -> b < 800 := by omega
theorem yg : a <= 10 * b -> c <= 4 -> a + c <= 10 * (b + 1) := by omega
theorem yf : a + 1 < b -> c < d -> l < a -> d <= f -> f <= l -> c < b \/ b + 3 < c := fun q r s t u => (.inl (@Aa c b 4 0 1 0 (@AE c d b 1 0 3 0 r (@AE d f b 0 0 3 0 t (@AE f l b 0 0 3 0 u (@AE l a b 1 0 2 0 s q)))) rfl))
theorem ye : 63 <= a -> b + 2 < c -> a + 3 = b -> c < d -> d ≠ 30 := fun q r s t => (Nat.ne_of_gt (@Aa 0 d 70 0 31 0 (@AE 0 a d 63 0 7 0 q (@AE a b d 3 0 4 0 (Nat.le_of_eq s) (@AE b c d 3 0 1 0 r t))) rfl))
theorem yd : a + 2 < b -> b < c -> c ≠ a + 2 := fun q r => (Nat.ne_of_gt (@Aa a c 4 0 3 0 (@AE a b c 3 0 1 0 q r) rfl))
theorem yc : 63 <= a -> a + 3 = b -> b ≠ 30 := fun q r => (Nat.ne_of_gt (@Aa 0 b 66 0 31 0 (@AE 0 a b 63 0 3 0 q (Nat.le_of_eq r)) rfl))
theorem yZ {x0 : Int} : (71 : Int) = x0 \/ (72 : Int) = x0 -> x0 = (71 : Int) \/ x0 = (72 : Int) := fun h => h.elim (fun e => (.inl e.symm)) (fun e => (.inr e.symm))
theorem yY {x0 : Int} : ¬(71 : Int) = x0 -> ¬(72 : Int) = x0 -> ¬(x0 = (71 : Int) \/ x0 = (72 : Int)) := by omega
theorem yX : a + (b + 1) < 100000 -> a + 1 + b < 100000 := by omega
theorem yW : 63 <= a -> b + 1 < c -> d < l -> f < d -> g < b -> i <= f -> l <= j -> j <= g -> a <= i -> 63 <= d /\ d < c := fun q r s t u v w x y => ⟨(@Aa 0 d 64 0 63 0 (@AE 0 a d 63 0 1 0 q (@AE a i d 0 0 1 0 y (@AE i f d 0 0 1 0 v t))) rfl), (@Aa d c 4 0 1 0 (@AE d l c 1 0 3 0 s (@AE l j c 0 0 3 0 w (@AE j g c 0 0 3 0 x (@AE g b c 1 0 2 0 u r)))) rfl)⟩
theorem yV {x0 : Int} {x1 : Nat} : (0 : Int) <= x0 -> x0 < (↑x1 : Int) -> x0.toNat < x1 := by omega
theorem yU : a + b < 50000 -> c <= a -> c + 1 < 100000 := fun q r => (@Aa c 0 1 50000 2 100000 (@AE c a 0 0 0 1 50000 r (@AE a (a + b) 0 0 0 1 50000 (Nat.le_add_right a b) q)) rfl)
theorem yS : 0 + 1 + (a + 1) + 1 + 1 = a + 4 := by omega
theorem yR : a + (b + 1) < c + 1 -> a < c := fun q => (@Aa a c 2 1 1 0 (@AE a (a + b) c 0 0 2 1 (Nat.le_add_right a b) q) rfl)
theorem yQ : 63 <= a -> b + 2 < c -> a + 3 = b -> c ≠ 30 := fun q r s => (Nat.ne_of_gt (@Aa 0 c 69 0 31 0 (@AE 0 a c 63 0 6 0 q (@AE a b c 3 0 3 0 (Nat.le_of_eq s) r)) rfl))
theorem yP : a <= b -> c <= d * b -> a + c <= d * b + b := by omega
theorem yO {x0 : Nat} : (0 : Int) < (↑x0 : Int) -> x0 = x0 - (1 : Nat) + (1 : Nat) := by omega
theorem yN {x0 : Nat} : (↑x0 : Int) ≠ (0 : Int) -> x0 = x0 - (1 : Nat) + (1 : Nat) := by omega
theorem yM : 63 <= a -> b + 2 < c -> a + 3 = b -> c < d -> d < l -> f = l + 1 -> 30 ≠ f := fun q r s t u v => (Nat.ne_of_lt (@Aa 0 f 72 0 31 0 (@AE 0 a f 63 0 9 0 q (@AE a b f 3 0 6 0 (Nat.le_of_eq s) (@AE b c f 3 0 3 0 r (@AE c d f 1 0 2 0 t (@AE d l f 1 0 1 0 u (Nat.le_of_eq v.symm)))))) rfl))
theorem yL : a + 2 < b -> b < c -> c < d -> l = d + 1 -> a + 1 ≠ l := fun q r s t => (Nat.ne_of_lt (@Aa a l 6 0 2 0 (@AE a b l 3 0 3 0 q (@AE b c l 1 0 2 0 r (@AE c d l 1 0 1 0 s (Nat.le_of_eq t.symm)))) rfl))
theorem yK : a < b -> c < a -> d = b + 1 -> d ≠ c := fun q r s => (Nat.ne_of_gt (@Aa c d 3 0 1 0 (@AE c a d 1 0 2 0 r (@AE a b d 1 0 1 0 q (Nat.le_of_eq s.symm))) rfl))
theorem yJ : a = 3 * b + 6 -> c <= 3 * b -> c + 1 <= a := by omega
theorem yI : a = 42 -> b <= 3 * a -> b + 1 < 1000 := by omega
theorem yH : 63 <= a -> b + 1 < c -> d < l -> f < d -> g < b -> i <= f -> l <= j -> j <= g -> a <= i -> 28 < c \/ c + 3 < 28 := fun q r s t u v w x y => (.inl (@Aa 0 c 68 0 29 0 (@AE 0 a c 63 0 5 0 q (@AE a i c 0 0 5 0 y (@AE i f c 0 0 5 0 v (@AE f d c 1 0 4 0 t (@AE d l c 1 0 3 0 s (@AE l j c 0 0 3 0 w (@AE j g c 0 0 3 0 x (@AE g b c 1 0 2 0 u r)))))))) rfl))
theorem yG : 63 <= a -> b + 1 < c -> c + 6 <= d -> l < b -> f < g -> i < f -> d <= j -> k <= l -> m <= i -> a <= m -> g <= k -> 63 <= c /\ c + 3 = c + 3 /\ c + 3 + 2 < j /\ j < j + 1 := fun q r s t u v w x y z A => ⟨(@Aa 0 c 68 0 63 0 (@AE 0 a c 63 0 5 0 q (@AE a m c 0 0 5 0 z (@AE m i c 0 0 5 0 y (@AE i f c 1 0 4 0 v (@AE f g c 1 0 3 0 u (@AE g k c 0 0 3 0 A (@AE k l c 0 0 3 0 x (@AE l b c 1 0 2 0 t r)))))))) rfl), ⟨(Nat.le_antisymm (@ZR c 3 3 rfl) (@ZR c 3 3 rfl)), ⟨(@Aa c j 6 0 6 0 (@AE c d j 6 0 0 0 s w) rfl), (@ZR j 1 1 rfl)⟩⟩⟩
theorem yF {x0 : Int} : x0 <= (1000 : Int) -> (1 : Int) + x0 <= (4096 : Int) := by omega
theorem yE : a + 3 + 3 <= b -> a + 6 <= b := fun q => (@Aa a b 6 0 6 0 q rfl)
theorem yD : 63 <= a -> b + 1 < c -> d < l -> f < d -> g < b -> i <= f -> l <= j -> j <= g -> a <= i -> c + 4 ≠ 33 := fun q r s t u v w x y => (Nat.ne_of_gt (@Aa 0 c 68 0 34 4 (@AE 0 a c 63 0 5 0 q (@AE a i c 0 0 5 0 y (@AE i f c 0 0 5 0 v (@AE f d c 1 0 4 0 t (@AE d l c 1 0 3 0 s (@AE l j c 0 0 3 0 w (@AE j g c 0 0 3 0 x (@AE g b c 1 0 2 0 u r)))))))) rfl))
theorem yC {x0 : Int} : x0 = (-1 : Int) \/ (0 : Int) <= x0 -> ¬x0 = (-1 : Int) -> ¬x0 < (0 : Int) := by omega
theorem yA : 63 <= a -> b + 1 < c -> d < l -> f < d -> g < b -> i <= f -> l <= j -> j <= g -> a <= i -> c + 5 ≠ 33 := fun q r s t u v w x y => (Nat.ne_of_gt (@Aa 0 c 68 0 34 5 (@AE 0 a c 63 0 5 0 q (@AE a i c 0 0 5 0 y (@AE i f c 0 0 5 0 v (@AE f d c 1 0 4 0 t (@AE d l c 1 0 3 0 s (@AE l j c 0 0 3 0 w (@AE j g c 0 0 3 0 x (@AE g b c 1 0 2 0 u r)))))))) rfl))
theorem xy : 63 <= a -> b + 1 < c -> d < l -> f < d -> g < b -> i <= f -> l <= j -> j <= g -> a <= i -> 30 < c \/ c + 3 < 30 := fun q r s t u v w x y => (.inl (@Aa 0 c 68 0 31 0 (@AE 0 a c 63 0 5 0 q (@AE a i c 0 0 5 0 y (@AE i f c 0 0 5 0 v (@AE f d c 1 0 4 0 t (@AE d l c 1 0 3 0 s (@AE l j c 0 0 3 0 w (@AE j g c 0 0 3 0 x (@AE g b c 1 0 2 0 u r)))))))) rfl))
theorem xw : 63 <= a -> b + 1 < c -> a < d -> d < b -> c + 1 ≠ 29 := fun q r s t => (Nat.ne_of_gt (@Aa 0 c 67 0 30 1 (@AE 0 a c 63 0 4 0 q (@AE a d c 1 0 3 0 s (@AE d b c 1 0 2 0 t r))) rfl))
theorem xv : a < b \/ b + 5 < a -> a ≠ b + 5 := by omega
theorem xu : a <= b + 1 -> a + c <= b + (c + 1) := by omega
theorem xt : 63 <= a -> b + 1 < c -> d < l -> f < d -> g < b -> i = 11 \/ i = 8 -> l <= j -> j <= g -> k <= f -> a <= k -> i < c \/ c + 5 < i := by intro q r s t u v w x y z; rcases v with rfl | rfl; exact (.inl (@Aa 0 c 68 0 12 0 (@AE 0 a c 63 0 5 0 q (@AE a k c 0 0 5 0 z (@AE k f c 0 0 5 0 y (@AE f d c 1 0 4 0 t (@AE d l c 1 0 3 0 s (@AE l j c 0 0 3 0 w (@AE j g c 0 0 3 0 x (@AE g b c 1 0 2 0 u r)))))))) rfl)); exact (.inl (@Aa 0 c 68 0 9 0 (@AE 0 a c 63 0 5 0 q (@AE a k c 0 0 5 0 z (@AE k f c 0 0 5 0 y (@AE f d c 1 0 4 0 t (@AE d l c 1 0 3 0 s (@AE l j c 0 0 3 0 w (@AE j g c 0 0 3 0 x (@AE g b c 1 0 2 0 u r)))))))) rfl))
theorem xq : (0 : Nat) = (0 : Nat) \/ (0 : Nat) = (10 : Nat) \/ (18 : Nat) <= (0 : Nat) /\ (0 : Nat) <= (23 : Nat) := by decide
theorem xp {x0 x1 : Nat} {x2 : Int} : x0 = (64 : Nat) /\ x1 = (18 : Nat) /\ x2 = (1 : Int) \/ x0 = (65 : Nat) /\ x1 = (22 : Nat) /\ x2 = (2 : Int) -> x1 = (0 : Nat) \/ x1 = (10 : Nat) \/ (18 : Nat) <= x1 /\ x1 <= (23 : Nat) := by rintro (⟨_, rfl, _⟩ | ⟨_, rfl, _⟩) <;> decide
theorem xo {x0 x1 : Nat} {x2 : Int} : x0 = (64 : Nat) /\ x1 = (18 : Nat) /\ x2 = (1 : Int) \/ x0 = (65 : Nat) /\ x1 = (22 : Nat) /\ x2 = (2 : Int) -> x1 + (1 : Nat) = (0 : Nat) \/ x1 + (1 : Nat) = (10 : Nat) \/ (18 : Nat) <= x1 + (1 : Nat) /\ x1 + (1 : Nat) <= (23 : Nat) := by rintro (⟨_, rfl, _⟩ | ⟨_, rfl, _⟩) <;> decide
theorem xn : a + (b + 1) = c -> c <= 20 -> a < 20 := fun q r => (@Aa a 0 1 20 1 20 (@AE a (a + b) 0 0 0 1 20 (Nat.le_add_right a b) (@AE (a + b) c 0 1 0 0 20 (Nat.le_of_eq q) r)) rfl)
theorem xm : 63 <= a -> b + 1 < c -> c + 6 <= d -> l < b -> f < g -> i < f -> j = 11 \/ j = 8 -> k <= l -> m <= i -> a <= m -> g <= k -> d <= n -> j ≠ n := by intro q r s t u v w x y z A h11; rcases w with rfl | rfl; exact (Nat.ne_of_lt (@Aa 0 n 74 0 12 0 (@AE 0 a n 63 0 11 0 q (@AE a m n 0 0 11 0 z (@AE m i n 0 0 11 0 y (@AE i f n 1 0 10 0 v (@AE f g n 1 0 9 0 u (@AE g k n 0 0 9 0 A (@AE k l n 0 0 9 0 x (@AE l b n 1 0 8 0 t (@AE b c n 2 0 6 0 r (@AE c d n 6 0 0 0 s h11)))))))))) rfl)); exact (Nat.ne_of_lt (@Aa 0 n 74 0 9 0 (@AE 0 a n 63 0 11 0 q (@AE a m n 0 0 11 0 z (@AE m i n 0 0 11 0 y (@AE i f n 1 0 10 0 v (@AE f g n 1 0 9 0 u (@AE g k n 0 0 9 0 A (@AE k l n 0 0 9 0 x (@AE l b n 1 0 8 0 t (@AE b c n 2 0 6 0 r (@AE c d n 6 0 0 0 s h11)))))))))) rfl))
theorem xk : a + (b + 1) = c -> d = a -> c <= 20 -> d < 100000 := fun q r s => (@Aa d 0 1 20 1 100000 (@AE d a 0 0 0 1 20 (Nat.le_of_eq r) (@AE a (a + b) 0 0 0 1 20 (Nat.le_add_right a b) (@AE (a + b) c 0 1 0 0 20 (Nat.le_of_eq q) s))) rfl)
theorem xj : a < 800 -> b <= 1 -> c <= 1 -> a + (c + b) < 900 := by omega
theorem xh : a < 2 -> 64 + a = 64 \/ 64 + a = 65 := by omega
theorem xg {x0 : Int} {x1 : Nat} : x0 <= (↑x1 : Int) -> x0.toNat <= x1 := by omega
theorem xf {x0 : Int} : (0 : Int) <= x0 -> x0 < (4 : Int) -> x0 = (0 : Int) \/ x0 = (1 : Int) \/ x0 = (2 : Int) \/ x0 = (3 : Int) := by omega
theorem xe {x0 : Int} : x0 < (3 : Int) -> x0 <= (↑(4 : Nat) : Int) := by omega
theorem xd : 12 <= a -> a <= 27 -> a ≠ 11 /\ a ≠ 8 /\ a ≠ 46 /\ a ≠ 37 /\ a ≠ 29 /\ a ≠ 31 /\ a ≠ 33 /\ a ≠ 30 /\ (a < 2 \/ 6 < a) := fun q r => ⟨(Nat.ne_of_gt (@Aa 0 a 12 0 12 0 q rfl)), ⟨(Nat.ne_of_gt (@Aa 0 a 12 0 9 0 q rfl)), ⟨(Nat.ne_of_lt (@Aa a 0 0 27 1 46 r rfl)), ⟨(Nat.ne_of_lt (@Aa a 0 0 27 1 37 r rfl)), ⟨(Nat.ne_of_lt (@Aa a 0 0 27 1 29 r rfl)), ⟨(Nat.ne_of_lt (@Aa a 0 0 27 1 31 r rfl)), ⟨(Nat.ne_of_lt (@Aa a 0 0 27 1 33 r rfl)), ⟨(Nat.ne_of_lt (@Aa a 0 0 27 1 30 r rfl)), (.inr (@Aa 0 a 12 0 7 0 q rfl))⟩⟩⟩⟩⟩⟩⟩⟩
theorem xZ {x0 x1 : Int} {x2 : Nat} : x0 < (3 : Int) -> x1 < (3 : Int) -> x2 = (4 : Nat) - x1.toNat -> x0 <= (↑x2 : Int) := by omega
theorem xY : a + 1 < b -> c < d -> l < c -> f < a -> g < i -> j <= l -> k <= f -> i <= j -> d <= k -> g < b \/ b + 5 < g := fun q r s t u v w x y => (.inl (@Aa g b 6 0 1 0 (@AE g i b 1 0 5 0 u (@AE i j b 0 0 5 0 x (@AE j l b 0 0 5 0 v (@AE l c b 1 0 4 0 s (@AE c d b 1 0 3 0 r (@AE d k b 0 0 3 0 y (@AE k f b 0 0 3 0 w (@AE f a b 1 0 2 0 t q)))))))) rfl))
theorem xX {x0 : Nat} {x1 : Int} : x0 = (4 : Nat) - x1.toNat -> x0 < (100000 : Nat) := by omega
theorem xW {x0 : Int} : x0 < (3 : Int) -> x0.toNat <= (2 : Nat) := by omega
theorem xV {x0 x1 x2 : Nat} : x0 = x1 + (1 : Nat) -> (↑(x1 + x2) : Int) + (1 : Int) = (↑(x0 + x2) : Int) := by omega
theorem xU : a + 1 < b -> b + 6 <= c -> d < a -> l < f -> g < i -> j < l -> k <= j -> i <= k -> f <= m -> m <= d -> c <= n -> g ≠ n := fun q r s t u v w x y z A => (Nat.ne_of_lt (@Aa g n 12 0 1 0 (@AE g i n 1 0 11 0 u (@AE i k n 0 0 11 0 x (@AE k j n 0 0 11 0 w (@AE j l n 1 0 10 0 v (@AE l f n 1 0 9 0 t (@AE f m n 0 0 9 0 y (@AE m d n 0 0 9 0 z (@AE d a n 1 0 8 0 s (@AE a b n 2 0 6 0 q (@AE b c n 6 0 0 0 r A)))))))))) rfl))
theorem xT : a = b -> b <= 1 -> a <= 2 := fun q r => (@Aa a 0 0 1 0 2 (@AE a b 0 0 0 0 1 (Nat.le_of_eq q) r) rfl)
theorem xS : a + 1 < b -> c < a -> d <= 6 -> d ≠ b + 4 := fun q r s => (Nat.ne_of_lt (@Aa d b 3 6 1 4 (@AE d 0 b 0 6 3 0 s (@AE 0 c b 0 0 3 0 (Nat.zero_le c) (@AE c a b 1 0 2 0 r q))) rfl))
theorem xR : a + 1 < b -> c <= 6 -> c ≠ b + 5 := fun q r => (Nat.ne_of_lt (@Aa c b 2 6 1 5 (@AE c 0 b 0 6 2 0 r (@AE 0 a b 0 0 2 0 (Nat.zero_le a) q)) rfl))
theorem xQ : a + 1 < b -> b + 6 <= c -> d <= 6 -> c <= l -> d ≠ l := fun q r s t => (Nat.ne_of_lt (@Aa d l 8 6 1 0 (@AE d 0 l 0 6 8 0 s (@AE 0 a l 0 0 8 0 (Nat.zero_le a) (@AE a b l 2 0 6 0 q (@AE b c l 6 0 0 0 r t)))) rfl))
theorem xP : a = 11 \/ a = 26 \/ a = 27 -> b <= 6 -> b ≠ a := by intro q r; rcases q with rfl | rfl | rfl; exact (Nat.ne_of_lt (@Aa b 0 0 6 1 11 r rfl)); exact (Nat.ne_of_lt (@Aa b 0 0 6 1 26 r rfl)); exact (Nat.ne_of_lt (@Aa b 0 0 6 1 27 r rfl))
theorem xO : a = 0 \/ a = 10 \/ 15 <= a /\ a <= 23 -> b = 11 \/ b = 26 \/ b = 27 -> a ≠ b := fun h => by have l : a < 24 := (by rcases h with rfl | rfl | h; decide; decide; exact Nat.lt_succ_of_le h.2); rintro (rfl | rfl | rfl) <;> revert h <;> revert a <;> decide
theorem xN : a = 26 \/ a = 27 -> 11 ≠ a := by intro q; rcases q with rfl | rfl <;> decide
theorem xM : a <= 2 -> b <= c + 3 -> d <= b + a -> d <= c + 5 := by omega
theorem xK : 63 <= a -> b + 1 < c -> d < l -> f < d -> g < b -> i <= f -> l <= j -> j <= g -> a <= i -> 29 ≠ c + 4 := fun q r s t u v w x y => (Nat.ne_of_lt (@Aa 0 c 68 0 30 4 (@AE 0 a c 63 0 5 0 q (@AE a i c 0 0 5 0 y (@AE i f c 0 0 5 0 v (@AE f d c 1 0 4 0 t (@AE d l c 1 0 3 0 s (@AE l j c 0 0 3 0 w (@AE j g c 0 0 3 0 x (@AE g b c 1 0 2 0 u r)))))))) rfl))
theorem xJ : a <= 30 -> a + (30 - a) = 30 := by omega
theorem xI : a + (b + 1) <= 8 -> a + 1 + b <= 8 := by omega
theorem xH : a = b -> b <= 3 * c -> c <= 8 -> a + 1 < 100000 := by omega
theorem xG {x0 x1 x2 : Nat} : x0 = x1 -> x2 = x1 + (1 : Nat) -> (↑x2 : Int) = (↑x0 : Int) + (1 : Int) := by omega
theorem xF : 63 <= a -> b + 1 < c -> d < l -> f < d -> g < b -> i <= f -> l <= j -> j <= g -> a <= i -> 29 ≠ c + 5 := fun q r s t u v w x y => (Nat.ne_of_lt (@Aa 0 c 68 0 30 5 (@AE 0 a c 63 0 5 0 q (@AE a i c 0 0 5 0 y (@AE i f c 0 0 5 0 v (@AE f d c 1 0 4 0 t (@AE d l c 1 0 3 0 s (@AE l j c 0 0 3 0 w (@AE j g c 0 0 3 0 x (@AE g b c 1 0 2 0 u r)))))))) rfl))
theorem xE : a <= 40 -> 3 + a / 12 < 9 := by omega
theorem xD {x0 : Nat} {x1 : Int} : x0 < (100000 : Nat) -> (↑x0 : Int) = x1 -> (-1000000000000 : Int) < x1 /\ x1 < (1000000000000 : Int) := by omega
theorem xC {x0 x1 : Nat} {x2 : Int} : x0 = x1 -> (↑x0 : Int) = x2 -> (3 : Int) + x2 / (12 : Int) = (↑((3 : Nat) + x1 / (12 : Nat)) : Int) := by rintro rfl rfl; rfl
theorem xB : 3 + a / 12 < 9 -> 0 + (3 + a / 12) <= 8 := by omega
theorem xA : 63 <= a -> b + 1 < c -> c + 6 <= d -> l < b -> f < g -> i < f -> d <= j -> k <= l -> m <= i -> a <= m -> g <= k -> 29 ≠ j := fun q r s t u v w x y z A => (Nat.ne_of_lt (@Aa 0 j 74 0 30 0 (@AE 0 a j 63 0 11 0 q (@AE a m j 0 0 11 0 z (@AE m i j 0 0 11 0 y (@AE i f j 1 0 10 0 v (@AE f g j 1 0 9 0 u (@AE g k j 0 0 9 0 A (@AE k l j 0 0 9 0 x (@AE l b j 1 0 8 0 t (@AE b c j 2 0 6 0 r (@AE c d j 6 0 0 0 s w)))))))))) rfl))
theorem w9 : 63 <= a -> b + 1 < c -> d < l -> f < d -> g < b -> i <= f -> l <= j -> j <= g -> a <= i -> 33 ≠ c + 4 := fun q r s t u v w x y => (Nat.ne_of_lt (@Aa 0 c 68 0 34 4 (@AE 0 a c 63 0 5 0 q (@AE a i c 0 0 5 0 y (@AE i f c 0 0 5 0 v (@AE f d c 1 0 4 0 t (@AE d l c 1 0 3 0 s (@AE l j c 0 0 3 0 w (@AE j g c 0 0 3 0 x (@AE g b c 1 0 2 0 u r)))))))) rfl))
theorem wz : 63 <= a -> b + 1 < c -> c + 6 <= d -> l < b -> f < g -> i < f -> d <= j -> k <= l -> m <= i -> a <= m -> g <= k -> 33 ≠ j := fun q r s t u v w x y z A => (Nat.ne_of_lt (@Aa 0 j 74 0 34 0 (@AE 0 a j 63 0 11 0 q (@AE a m j 0 0 11 0 z (@AE m i j 0 0 11 0 y (@AE i f j 1 0 10 0 v (@AE f g j 1 0 9 0 u (@AE g k j 0 0 9 0 A (@AE k l j 0 0 9 0 x (@AE l b j 1 0 8 0 t (@AE b c j 2 0 6 0 r (@AE c d j 6 0 0 0 s w)))))))))) rfl))
theorem wy : a + 1 < b -> c < d -> l < a -> d <= f -> f <= l -> c < b \/ b + 5 < c := fun q r s t u => (.inl (@Aa c b 4 0 1 0 (@AE c d b 1 0 3 0 r (@AE d f b 0 0 3 0 t (@AE f l b 0 0 3 0 u (@AE l a b 1 0 2 0 s q)))) rfl))
theorem wx : a + 1 < b -> b + 6 <= c -> d < a -> l < f -> g <= d -> c <= i -> f <= g -> l ≠ i := fun q r s t u v w => (Nat.ne_of_lt (@Aa l i 10 0 1 0 (@AE l f i 1 0 9 0 t (@AE f g i 0 0 9 0 w (@AE g d i 0 0 9 0 u (@AE d a i 1 0 8 0 s (@AE a b i 2 0 6 0 q (@AE b c i 6 0 0 0 r v)))))) rfl))
theorem wu : a + 1 < b -> c < d -> l < a -> d < f -> f <= g -> g <= l -> c < b \/ b + 5 < c := fun q r s t u v => (.inl (@Aa c b 5 0 1 0 (@AE c d b 1 0 4 0 r (@AE d f b 1 0 3 0 t (@AE f g b 0 0 3 0 u (@AE g l b 0 0 3 0 v (@AE l a b 1 0 2 0 s q))))) rfl))
theorem wt : a + 1 < b -> b + 6 <= c -> d < a -> l < f -> g < l -> c <= i -> j <= d -> f <= j -> g ≠ i := fun q r s t u v w x => (Nat.ne_of_lt (@Aa g i 11 0 1 0 (@AE g l i 1 0 10 0 u (@AE l f i 1 0 9 0 t (@AE f j i 0 0 9 0 x (@AE j d i 0 0 9 0 w (@AE d a i 1 0 8 0 s (@AE a b i 2 0 6 0 q (@AE b c i 6 0 0 0 r v))))))) rfl))
theorem wq : 63 <= a -> a <= b -> b <= c -> c < 2 \/ 6 < c := fun q r s => (.inr (@Aa 0 c 63 0 7 0 (@AE 0 a c 63 0 0 0 q (@AE a b c 0 0 0 0 r s)) rfl))
theorem wo : 63 <= a -> b + 1 < c -> d < l -> f < d -> g < b -> i <= f -> l <= j -> j <= g -> a <= i -> c ≠ 30 := fun q r s t u v w x y => (Nat.ne_of_gt (@Aa 0 c 68 0 31 0 (@AE 0 a c 63 0 5 0 q (@AE a i c 0 0 5 0 y (@AE i f c 0 0 5 0 v (@AE f d c 1 0 4 0 t (@AE d l c 1 0 3 0 s (@AE l j c 0 0 3 0 w (@AE j g c 0 0 3 0 x (@AE g b c 1 0 2 0 u r)))))))) rfl))
theorem wm : 63 <= a -> b + 1 < c -> d < l -> f < d -> g < b -> i <= f -> l <= j -> j <= g -> a <= i -> c + 1 ≠ 30 := fun q r s t u v w x y => (Nat.ne_of_gt (@Aa 0 c 68 0 31 1 (@AE 0 a c 63 0 5 0 q (@AE a i c 0 0 5 0 y (@AE i f c 0 0 5 0 v (@AE f d c 1 0 4 0 t (@AE d l c 1 0 3 0 s (@AE l j c 0 0 3 0 w (@AE j g c 0 0 3 0 x (@AE g b c 1 0 2 0 u r)))))))) rfl))
theorem wj : a + 6 <= b -> b <= c -> a + 1 ≠ c := fun q r => (Nat.ne_of_lt (@Aa a c 6 0 2 0 (@AE a b c 6 0 0 0 q r) rfl))
theorem wi : 63 <= a -> b + 1 < c -> d < l -> f < d -> g < b -> i <= f -> l <= j -> j <= g -> a <= i -> c + 2 ≠ 30 := fun q r s t u v w x y => (Nat.ne_of_gt (@Aa 0 c 68 0 31 2 (@AE 0 a c 63 0 5 0 q (@AE a i c 0 0 5 0 y (@AE i f c 0 0 5 0 v (@AE f d c 1 0 4 0 t (@AE d l c 1 0 3 0 s (@AE l j c 0 0 3 0 w (@AE j g c 0 0 3 0 x (@AE g b c 1 0 2 0 u r)))))))) rfl))
theorem wg : 63 <= a -> b + 1 < c -> c + 6 <= d -> l < b -> f < g -> i < f -> d <= j -> k <= l -> m <= i -> a <= m -> g <= k -> j + 1 ≠ 30 := fun q r s t u v w x y z A => (Nat.ne_of_gt (@Aa 0 j 74 0 31 1 (@AE 0 a j 63 0 11 0 q (@AE a m j 0 0 11 0 z (@AE m i j 0 0 11 0 y (@AE i f j 1 0 10 0 v (@AE f g j 1 0 9 0 u (@AE g k j 0 0 9 0 A (@AE k l j 0 0 9 0 x (@AE l b j 1 0 8 0 t (@AE b c j 2 0 6 0 r (@AE c d j 6 0 0 0 s w)))))))))) rfl))
theorem wb : 63 <= a -> b + 1 < c -> d < l -> f < d -> g < b -> i <= f -> l <= j -> j <= g -> a <= i -> c + 3 ≠ 30 := fun q r s t u v w x y => (Nat.ne_of_gt (@Aa 0 c 68 0 31 3 (@AE 0 a c 63 0 5 0 q (@AE a i c 0 0 5 0 y (@AE i f c 0 0 5 0 v (@AE f d c 1 0 4 0 t (@AE d l c 1 0 3 0 s (@AE l j c 0 0 3 0 w (@AE j g c 0 0 3 0 x (@AE g b c 1 0 2 0 u r)))))))) rfl))
theorem wZ : 63 <= a -> b + 1 < c -> d < l -> f < d -> g < b -> i <= f -> l <= j -> j <= g -> a <= i -> 46 ≠ c + 4 := fun q r s t u v w x y => (Nat.ne_of_lt (@Aa 0 c 68 0 47 4 (@AE 0 a c 63 0 5 0 q (@AE a i c 0 0 5 0 y (@AE i f c 0 0 5 0 v (@AE f d c 1 0 4 0 t (@AE d l c 1 0 3 0 s (@AE l j c 0 0 3 0 w (@AE j g c 0 0 3 0 x (@AE g b c 1 0 2 0 u r)))))))) rfl))
theorem wY : 63 <= a -> b + 1 < c -> d < l -> f < d -> g < b -> i <= f -> l <= j -> j <= g -> a <= i -> 46 ≠ c + 5 := fun q r s t u v w x y => (Nat.ne_of_lt (@Aa 0 c 68 0 47 5 (@AE 0 a c 63 0 5 0 q (@AE a i c 0 0 5 0 y (@AE i f c 0 0 5 0 v (@AE f d c 1 0 4 0 t (@AE d l c 1 0 3 0 s (@AE l j c 0 0 3 0 w (@AE j g c 0 0 3 0 x (@AE g b c 1 0 2 0 u r)))))))) rfl))
theorem wX : 63 <= a -> b + 1 < c -> c + 6 <= d -> l < b -> f < g -> i < f -> d <= j -> k <= l -> m <= i -> a <= m -> g <= k -> 46 ≠ j := fun q r s t u v w x y z A => (Nat.ne_of_lt (@Aa 0 j 74 0 47 0 (@AE 0 a j 63 0 11 0 q (@AE a m j 0 0 11 0 z (@AE m i j 0 0 11 0 y (@AE i f j 1 0 10 0 v (@AE f g j 1 0 9 0 u (@AE g k j 0 0 9 0 A (@AE k l j 0 0 9 0 x (@AE l b j 1 0 8 0 t (@AE b c j 2 0 6 0 r (@AE c d j 6 0 0 0 s w)))))))))) rfl))
theorem wW : 63 <= a -> b < c -> d < b -> l <= d -> f <= g -> a <= l -> c <= f -> g ≠ 33 := fun q r s t u v w => (Nat.ne_of_gt (@Aa 0 g 65 0 34 0 (@AE 0 a g 63 0 2 0 q (@AE a l g 0 0 2 0 v (@AE l d g 0 0 2 0 t (@AE d b g 1 0 1 0 s (@AE b c g 1 0 0 0 r (@AE c f g 0 0 0 0 w u)))))) rfl))
theorem wV : 63 <= a -> b < c -> d < b -> l <= d -> f <= g -> a <= l -> c <= f -> g ≠ 30 := fun q r s t u v w => (Nat.ne_of_gt (@Aa 0 g 65 0 31 0 (@AE 0 a g 63 0 2 0 q (@AE a l g 0 0 2 0 v (@AE l d g 0 0 2 0 t (@AE d b g 1 0 1 0 s (@AE b c g 1 0 0 0 r (@AE c f g 0 0 0 0 w u)))))) rfl))
theorem wU : 63 <= a -> b + 1 < c -> d < l -> f < d -> g < b -> i <= f -> l <= j -> j <= g -> a <= i -> 37 < c \/ c + 5 < 37 := fun q r s t u v w x y => (.inl (@Aa 0 c 68 0 38 0 (@AE 0 a c 63 0 5 0 q (@AE a i c 0 0 5 0 y (@AE i f c 0 0 5 0 v (@AE f d c 1 0 4 0 t (@AE d l c 1 0 3 0 s (@AE l j c 0 0 3 0 w (@AE j g c 0 0 3 0 x (@AE g b c 1 0 2 0 u r)))))))) rfl))
theorem wR : 63 <= a -> b + 1 < c -> c + 6 <= d -> l < b -> f < g -> i < f -> d <= j -> k <= l -> m <= i -> a <= m -> g <= k -> 37 ≠ j := fun q r s t u v w x y z A => (Nat.ne_of_lt (@Aa 0 j 74 0 38 0 (@AE 0 a j 63 0 11 0 q (@AE a m j 0 0 11 0 z (@AE m i j 0 0 11 0 y (@AE i f j 1 0 10 0 v (@AE f g j 1 0 9 0 u (@AE g k j 0 0 9 0 A (@AE k l j 0 0 9 0 x (@AE l b j 1 0 8 0 t (@AE b c j 2 0 6 0 r (@AE c d j 6 0 0 0 s w)))))))))) rfl))
theorem wQ : 63 <= a -> b < c -> d < l -> f < d -> g <= f -> a <= g -> l <= i -> i <= b -> c ≠ 33 := fun q r s t u v w x => (Nat.ne_of_gt (@Aa 0 c 66 0 34 0 (@AE 0 a c 63 0 3 0 q (@AE a g c 0 0 3 0 v (@AE g f c 0 0 3 0 u (@AE f d c 1 0 2 0 t (@AE d l c 1 0 1 0 s (@AE l i c 0 0 1 0 w (@AE i b c 0 0 1 0 x r))))))) rfl))
theorem wO : 63 <= a -> b < c -> d < l -> f < d -> g <= f -> a <= g -> l <= i -> i <= b -> c ≠ 30 := fun q r s t u v w x => (Nat.ne_of_gt (@Aa 0 c 66 0 31 0 (@AE 0 a c 63 0 3 0 q (@AE a g c 0 0 3 0 v (@AE g f c 0 0 3 0 u (@AE f d c 1 0 2 0 t (@AE d l c 1 0 1 0 s (@AE l i c 0 0 1 0 w (@AE i b c 0 0 1 0 x r))))))) rfl))
theorem wN : a + 1 < b -> b + 6 <= c -> c <= d -> a ≠ d := fun q r s => (Nat.ne_of_lt (@Aa a d 8 0 1 0 (@AE a b d 2 0 6 0 q (@AE b c d 6 0 0 0 r s)) rfl))
theorem wM : 63 <= a -> b < c -> d < l -> f < d -> g <= f -> a <= g -> l <= i -> i <= b -> c + 1 ≠ 33 := fun q r s t u v w x => (Nat.ne_of_gt (@Aa 0 c 66 0 34 1 (@AE 0 a c 63 0 3 0 q (@AE a g c 0 0 3 0 v (@AE g f c 0 0 3 0 u (@AE f d c 1 0 2 0 t (@AE d l c 1 0 1 0 s (@AE l i c 0 0 1 0 w (@AE i b c 0 0 1 0 x r))))))) rfl))
theorem wL : 63 <= a -> b < c -> d < l -> f < d -> g <= f -> a <= g -> l <= i -> i <= b -> c + 1 ≠ 30 := fun q r s t u v w x => (Nat.ne_of_gt (@Aa 0 c 66 0 31 1 (@AE 0 a c 63 0 3 0 q (@AE a g c 0 0 3 0 v (@AE g f c 0 0 3 0 u (@AE f d c 1 0 2 0 t (@AE d l c 1 0 1 0 s (@AE l i c 0 0 1 0 w (@AE i b c 0 0 1 0 x r))))))) rfl))
theorem wK : a + 1 < b -> b + 6 <= c -> d < l -> f < a -> l < g -> i = j + 2 -> i <= k -> m <= d -> n <= m -> g <= o -> c <= j -> o <= f -> n <= k := fun q r s t u v w x y z A h11 => (@Aa n k 13 0 0 0 (@AE n m k 0 0 13 0 y (@AE m d k 0 0 13 0 x (@AE d l k 1 0 12 0 s (@AE l g k 1 0 11 0 u (@AE g o k 0 0 11 0 z (@AE o f k 0 0 11 0 h11 (@AE f a k 1 0 10 0 t (@AE a b k 2 0 8 0 q (@AE b c k 6 0 2 0 r (@AE c j k 0 0 2 0 A (@AE j i k 2 0 0 0 (Nat.le_of_eq v.symm) w))))))))))) rfl)
theorem wJ : 63 <= a -> b + 1 < c -> d < l -> f < d -> g < b -> i <= f -> l <= j -> j <= g -> a <= i -> 31 ≠ c + 4 := fun q r s t u v w x y => (Nat.ne_of_lt (@Aa 0 c 68 0 32 4 (@AE 0 a c 63 0 5 0 q (@AE a i c 0 0 5 0 y (@AE i f c 0 0 5 0 v (@AE f d c 1 0 4 0 t (@AE d l c 1 0 3 0 s (@AE l j c 0 0 3 0 w (@AE j g c 0 0 3 0 x (@AE g b c 1 0 2 0 u r)))))))) rfl))
theorem wI : 63 <= a -> b + 1 < c -> d < l -> f < d -> g < b -> i <= f -> l <= j -> j <= g -> a <= i -> 31 ≠ c + 5 := fun q r s t u v w x y => (Nat.ne_of_lt (@Aa 0 c 68 0 32 5 (@AE 0 a c 63 0 5 0 q (@AE a i c 0 0 5 0 y (@AE i f c 0 0 5 0 v (@AE f d c 1 0 4 0 t (@AE d l c 1 0 3 0 s (@AE l j c 0 0 3 0 w (@AE j g c 0 0 3 0 x (@AE g b c 1 0 2 0 u r)))))))) rfl))
theorem wH : 63 <= a -> b + 1 < c -> c + 6 <= d -> l < b -> f < g -> i < f -> d <= j -> k <= l -> m <= i -> a <= m -> g <= k -> 31 ≠ j := fun q r s t u v w x y z A => (Nat.ne_of_lt (@Aa 0 j 74 0 32 0 (@AE 0 a j 63 0 11 0 q (@AE a m j 0 0 11 0 z (@AE m i j 0 0 11 0 y (@AE i f j 1 0 10 0 v (@AE f g j 1 0 9 0 u (@AE g k j 0 0 9 0 A (@AE k l j 0 0 9 0 x (@AE l b j 1 0 8 0 t (@AE b c j 2 0 6 0 r (@AE c d j 6 0 0 0 s w)))))))))) rfl))
theorem wG : 63 <= a -> b + 1 < c -> d < l -> f < d -> g < b -> i <= f -> l <= j -> j <= g -> a <= i -> 31 < c \/ c + 3 < 31 := fun q r s t u v w x y => (.inl (@Aa 0 c 68 0 32 0 (@AE 0 a c 63 0 5 0 q (@AE a i c 0 0 5 0 y (@AE i f c 0 0 5 0 v (@AE f d c 1 0 4 0 t (@AE d l c 1 0 3 0 s (@AE l j c 0 0 3 0 w (@AE j g c 0 0 3 0 x (@AE g b c 1 0 2 0 u r)))))))) rfl))
theorem wF : 63 <= a -> a ≠ 11 /\ a ≠ 8 /\ a ≠ 46 /\ a ≠ 37 /\ a ≠ 29 /\ a ≠ 31 /\ a ≠ 33 /\ a ≠ 30 /\ (a < 2 \/ 6 < a) := fun q => ⟨(Nat.ne_of_gt (@Aa 0 a 63 0 12 0 q rfl)), ⟨(Nat.ne_of_gt (@Aa 0 a 63 0 9 0 q rfl)), ⟨(Nat.ne_of_gt (@Aa 0 a 63 0 47 0 q rfl)), ⟨(Nat.ne_of_gt (@Aa 0 a 63 0 38 0 q rfl)), ⟨(Nat.ne_of_gt (@Aa 0 a 63 0 30 0 q rfl)), ⟨(Nat.ne_of_gt (@Aa 0 a 63 0 32 0 q rfl)), ⟨(Nat.ne_of_gt (@Aa 0 a 63 0 34 0 q rfl)), ⟨(Nat.ne_of_gt (@Aa 0 a 63 0 31 0 q rfl)), (.inr (@Aa 0 a 63 0 7 0 q rfl))⟩⟩⟩⟩⟩⟩⟩⟩
theorem wD : 63 <= a -> b + 1 + 1 <= c -> d + 1 < l -> l + 6 <= f -> g < d -> i < j -> k < i -> m <= k -> a <= m -> j <= n -> n <= g -> f <= b -> 63 <= c := fun q r s t u v w x y z A h11 => (@Aa 0 c 76 0 63 0 (@AE 0 a c 63 0 13 0 q (@AE a m c 0 0 13 0 y (@AE m k c 0 0 13 0 x (@AE k i c 1 0 12 0 w (@AE i j c 1 0 11 0 v (@AE j n c 0 0 11 0 z (@AE n g c 0 0 11 0 A (@AE g d c 1 0 10 0 u (@AE d l c 2 0 8 0 s (@AE l f c 6 0 2 0 t (@AE f b c 0 0 2 0 h11 r))))))))))) rfl)
end
end Lw
end
section
namespace Lw
open PySem PySem.W PyProof.Rows PySem.Calls Mine Wk
noncomputable def wl (gs : List Int) (p s n : Int) (R : List (List Nat × AV)) : List (List Nat × AV) :=
 ([103, 105, 118, 101, 110], .lst (gs.map .int)) :: ([112, 108, 97, 99, 101], .int p) :: ([115, 101, 101, 100], .int s) :: ([110, 111, 100, 101, 115], .int n) :: R
noncomputable def BA (a : Nat) (H H' : Hp) : Prop := H.length <= H'.length /\ ∀ n o, n ≠ a -> AB H n = some o -> AB H' n = some o
noncomputable def AY (H H' : Hp) : Prop := H.length <= H'.length /\ ∀ n o, AB H n = some o -> AB H' n = some o
theorem BA.refl {a : Nat} {H : Hp} : BA a H H := ⟨Nat.le_refl _, fun _ _ _ e => e⟩
theorem BA.trans {a : Nat} {H H' H'' : Hp} (x : BA a H H') (y : BA a H' H'') : BA a H H'' := ⟨Nat.le_trans x.1 y.1, fun n o h e => y.2 n o h (x.2 n o h e)⟩
theorem BA.set {a : Nat} {H : Hp} {o : AO} : BA a H (Ab H a o) := ⟨by rw [Ab, AF]; exact Nat.le_refl _, fun n o' h e => by rw [ER h]; exact e⟩
theorem AY.refl {H : Hp} : AY H H := ⟨Nat.le_refl _, fun _ _ e => e⟩
theorem AY.trans {H H' H'' : Hp} (x : AY H H') (y : AY H' H'') : AY H H'' := ⟨Nat.le_trans x.1 y.1, fun n o e => y.2 n o (x.2 n o e)⟩
theorem AY.only {a : Nat} {H H' : Hp} (x : AY H H') : BA a H H' := ⟨x.1, fun n o _ e => x.2 n o e⟩
theorem AY.add {H : Hp} {o : AO} : AY H (Af H o) := ⟨by rw [Af, List.length_append]; exact Z33, fun n o' e => QV e⟩
theorem pX {gs p s n} {R : List (List Nat × AV)} : (wl gs p s n R).length = R.length + 4 := rfl
theorem Uc {gs : List Int} {i : Nat} (h : i < gs.length) : ∃ x, Mine.getL (gs.map AV.int) i = some (.int x) := by
 rw [Mine.Bb]
 obtain ⟨x, e⟩ := Am h
 exact ⟨x, by rw [e]; rfl⟩
theorem QD {l : List AV} {j : Int} {K : AV -> Prop} {i : Nat} {x : AV} (ej : j = (i : Int)) (hl : l.length < 100000) (e : Mine.getL l i = some x) (h : K x) : XB l j K := by
 have := Bn e
 subst ej
 exact ixI hl (Int.le_trans (by decide) (Int.natCast_nonneg i)) (Int.ofNat_lt.mpr (Nat.lt_trans this hl)) e h
theorem ixN {l : List AV} {n : Nat} {x : AV} (e : Mine.getL l n = some x) : M7 l (n : Int) = some x := e
theorem dv {a b : Int} (h0 : 0 < b) (h1 : Fq a) (h2 : Fq b) : (decide (0 < b) && cA a && cA b) = true := by rw [decide_eq_true h0, cA, decide_eq_true h1, cA, decide_eq_true h2]; rfl
theorem bA (C : Nat) (l : List (Nat × AV)) : eQ C (.inst C l) = some l := by unfold eQ; dsimp only; rw [Nat.beq_refl]
theorem Xm {H : Hp} {a : Nat} {gs : List Int} {p s n m : Int} {R : List (List Nat × AV)} {k : AV -> Hp -> Prop} (hg : AB H a = some (.sdict (wl gs p s n R))) (hR : R.length < 1000) (hgs : gs.length < 1000) (hp : 0 <= p) (hs : 0 <= s /\ s < 1009) (hm : 0 < m /\ m < 1000)
  (hk : ∀ r p' s', 0 <= r -> r < m -> 0 <= p' -> 0 <= s' -> s' < 1009 -> k (.int r) (Ab H a (.sdict (wl gs p' s' n R)))) : Ad [.loc a, .int m] H k := by
 have hl : (gs.map AV.int).length = gs.length := List.length_map ..
 have lw : (wl gs p s n R).length < 100000 := Z18 hR
 refine Rw (Mine.hk hg (Mine.hk hg (AK (by exact Z7 hgs hl) (bI (fun hc => ?_) fun hc => ?_))))
 ·have hc' := of_decide_eq_true hc
  rw [hl] at hc'
  have e : p + 1 - 1 = ((p.toNat : Nat) : Int) := by exact Z73 hp
  obtain ⟨x, ex⟩ := Uc (gs := gs) (i := p.toNat) (by exact Z76 e hc')
  exact Mine.hk hg (Mine.hk hg (AK lw (Mine.hk (AD hg) (Mine.hk (AD hg) (QD e (by exact Z7 hgs hl) ex (Ei (decide_eq_true hm.1) (hk _ _ _ (Int.emod_nonneg _ (by exact Z35 hm.1)) (Int.emod_lt_of_pos _ hm.1) (by exact Z79 e) hs.1 hs.2)))))))
 ·have h1 : 0 <= (s * 37 + 11) % 1009 := Int.emod_nonneg _ (by exact Z80)
  have h2 : (s * 37 + 11) % 1009 < 1009 := Int.emod_lt_of_pos _ (by exact Z36)
  have hsm : Fq s := ⟨by exact Z81 hs.1, by exact Z83 hs.2⟩
  exact Mine.hk hg (Ei (decide_eq_true ⟨by exact Z81 hs.1, by exact Z83 hs.2⟩) (Mine.hk hg (AK lw (Mine.hk (AD hg) (Ei (dv (by decide) ⟨by exact Z87, by exact Z88⟩ (by decide)) (Ei (decide_eq_true hm.1) (hk _ _ _ (Int.emod_nonneg _ (by exact Z35 hm.1)) (Int.emod_lt_of_pos _ hm.1) hp h1 h2)))))))
theorem VL {H : Hp} {o o' : AO} : Ab (Af H o) H.length o' = Af H o' := by
 unfold Ab Af
 induction H with
 | nil => rfl
 | cons x r ih => show x :: Mine.Ik (r ++ [some o]) r.length (some o') = _; rw [ih]; rfl
theorem VM {H : Hp} {o : AO} {y : Option AO} : Mine.Ik (Af H o) H.length y = H ++ [y] := by
 unfold Af
 induction H with
 | nil => rfl
 | cons x r ih => show x :: Mine.Ik (r ++ [some o]) r.length y = _; rw [ih]; rfl
theorem IK {H : Hp} {n : Nat} {o : AO} : AB (H ++ [none]) n = some o ↔ AB H n = some o :=
 ⟨fun e => (CO (BU.mp e)).elim BU.mpr fun h => (nomatch h.2), fun e => BU.mpr (Cp (BU.mp e))⟩
theorem e9 {C a : Nat} {y : AV} {H : Hp} {l : List (Nat × AV)} {k : Hp -> Prop} (hl : Nat.ble l.length 499 = true) (h : k (Af H (.inst C (Im l a y)))) : hK (AB (Af H (.inst C l)) H.length) (fA C a H.length y (Af H (.inst C l)) k) :=
 Mine.hk Ah (EL (bA C l) (Ei hl (by rw [VL]; exact h)))
theorem nfN {C : Nat} {H : Hp} {l : List (Nat × AV)} {k : AV -> Hp -> Prop} (h : k (.inst C (l.map (·.1)) (l.map (·.2))) (H ++ [none])) : hK (AB (Af H (.inst C l)) H.length) (ti H.length (Af H (.inst C l)) k) :=
 Mine.hk Ah (by show k _ (Mine.Ik _ _ none); rw [VM]; exact h)
noncomputable def nd (sort word kids mods at_ : AV) : AV := .inst 355 [DA, oX, Fb, RZ, JS, aM] [sort, word, kids, mods, at_, .int 0]
theorem eF {H : Hp} {a : Nat} {gs : List Int} {p s n : Int} {R : List (List Nat × AV)} {k : AV -> Hp -> Prop} {sort word kids mods : AV} (hg : AB H a = some (.sdict (wl gs p s n R))) (hR : R.length < 1000)
  (hk : k (nd sort word kids mods (.int (n + 1))) (Ab H a (.sdict (wl gs p s (n + 1) R)) ++ [none])) : Bk [.loc a, sort, word, kids, mods] H k :=
 Ry (Mine.hk hg (Mine.hk hg (AK (Z18 hR) (Mine.hk (AD hg) (di (QR (e9 rfl (e9 rfl (e9 rfl (e9 rfl (e9 rfl (e9 rfl (nfN hk)))))))))))))
noncomputable def yb (i : Int) (b : Bool) : Bool := if i = 30 then false else if i = 71 \/ i = 72 then true else b
mutual
inductive Tr : AV -> Bool -> Nat -> Prop
 | none : Tr .none false 1
 | node {i : Int} {word mods at_ : AV} {l : List AV} {b : Bool} {n : Nat} : l.length < 1000 -> NT l b n -> Tr (nd (.int i) word (.lst l) mods at_) (yb i b) (n + 1)
inductive NT : List AV -> Bool -> Nat -> Prop
 | nil : NT [] false 0
 | cons {x : AV} {l : List AV} {b c : Bool} {n m : Nat} : Tr x b n -> NT l c m -> NT (x :: l) (b || c) (n + m)
end
theorem Tr.pos {x : AV} {b : Bool} {n : Nat} (h : Tr x b n) : 1 <= n := by cases h <;> exact Nat.succ_pos _
theorem Tr.to {x : AV} {b c : Bool} {n m : Nat} (h : Tr x b n) (e : b = c) (e' : n = m) : Tr x c m := e ▸ e' ▸ h
theorem NT.one {x : AV} {b : Bool} {n : Nat} (h : Tr x b n) : NT [x] b n := Bool.or_false b ▸ NT.cons h .nil
theorem NT.append {l r : List AV} {b c : Bool} {n m : Nat} (h : NT l b n) (g : NT r c m) : NT (l ++ r) (b || c) (n + m) := by
 induction l generalizing b n with
 | nil => cases h; rwa [Bool.false_or, Nat.zero_add]
 | cons x l ih => cases h with
  | cons a h => rw [Bool.or_assoc, Nat.add_assoc]; exact .cons a (ih h)
theorem NT.last {l : List AV} {x : AV} {b : Bool} {n : Nat} (h : NT (l ++ [x]) b n) : ∃ c m d k, NT l c m /\ Tr x d k /\ b = (c || d) /\ n = m + k := by
 induction l generalizing b n with
 | nil => cases h with
  | cons a h => cases h; exact ⟨_, _, _, _, .nil, a, Bool.or_false _, (Nat.zero_add _).symm⟩
 | cons y l ih => cases h with
  | cons a h =>
   obtain ⟨c, m, d, k, h1, h2, h3, h4⟩ := ih h
   exact ⟨_, _, d, k, .cons a h1, h2, by rw [h3, Bool.or_assoc], by rw [h4, Nat.add_assoc]⟩
theorem NT.len {l : List AV} {b : Bool} {n : Nat} (h : NT l b n) : l.length <= n := by
 induction l generalizing b n with
 | nil => exact Nat.zero_le _
 | cons x l ih => cases h with
  | cons a h => have := a.pos; have := ih h; rw [List.length_cons]; omega
theorem Az {a b : Int} (h : (a == b) = false) : a ≠ b := fun e => by rw [e, beq_self_eq_true] at h; exact nomatch h
theorem uj {i : Int} (z : (decide (71 = i) || (decide (72 = i) || false)) = true) : i = 71 \/ i = 72 := by
 rw [Bool.or_false, Bool.or_eq_true, decide_eq_true_iff, decide_eq_true_iff] at z; exact yZ z
theorem tf {i : Int} (z : (decide (71 = i) || (decide (72 = i) || false)) = false) : ¬ (i = 71 \/ i = 72) := by
 rw [Bool.or_false, Bool.or_eq_false_iff, decide_eq_false_iff_not, decide_eq_false_iff_not] at z; exact yY z.1 z.2
theorem UC {all : List AV} {t : Nat} {x0 : AV} {f2 : Option AV} {k : Fl -> Ag -> Hp -> Prop} {r : List AV} : ∀ {L : List AV} {H : Hp} {f3 : Option AV}, AB H t = some (.list L) -> L.length + r.length < 100000 ->
  (∀ f3 H', BA t H H' -> AB H' t = some (.list (L ++ r)) -> k .next [some x0, some (.loc t), f2, f3] H') ->
  CN (.fl all) (gN 3) (AG (BE (Di (vL 1) (vL 3))) AS) all k r [some x0, some (.loc t), f2, f3] H := by
 induction r with
 | nil => exact fun hg hl q => q _ _ BA.refl (by rw [List.append_nil]; exact hg)
 | cons x r ih =>
  intro L H f3 hg hl q
  rw [List.length_cons] at hl
  exact hk hg (hk hg (AK (by omega) (ih (AD hg) (by rw [List.length_append, List.length_singleton]; exact yX hl) fun f3 H' o g => q f3 H' (BA.set.trans o) (by rw [g, List.append_assoc]; rfl))))
noncomputable def yT : VT := BK (vL 1)
noncomputable def yB : VS := (AG (BM 2 (bX (vL 1))) (AG (Iw (HF (BK (AL (vL 2) (vC .none) (fE false))) (HF (BK (AL (AI 355 DA (vL 2)) (vC (.int 30)) Qv)) LZ)) (AG U6 AS) AS) (AG (Iw (BK (AL (AI 355 DA (vL 2)) (Au (AA (vC (.int 71)) (AA (vC (.int 72)) AQ))) j1)) (AG (Hs (vC (.bool true))) AS) AS) (AG (Ng (vX (AI 355 Fb (vL 2))) (gN 3) (AG (BE (Di (vL 1) (vL 3))) AS)) AS))))
theorem bN {t : Nat} {x0 : AV} {K : Fl -> Ag -> Hp -> Prop} {k : AV -> Hp -> Prop} (hK : ∀ F H, k (.bool false) H -> K .next F H) (hK' : ∀ F H, k (.bool true) H -> K (.ret (.bool true)) F H) {n : Nat} : ∀ {L : List AV} {H : Hp} {f2 f3 : Option AV} {b : Bool} {m : Nat}, NT L b m -> m < n -> m < 50000 -> AB H t = some (.list L) ->
  (∀ H', BA t H H' -> k (.bool b) H') -> TP yT yB K n [some x0, some (.loc t), f2, f3] H := by
 induction n with
 | zero => exact fun _ h => absurd h (Nat.not_lt_zero _)
 | succ n ih =>
  intro L H f2 f3 b m hT h hb hg q
  have hlen := hT.len
  refine hk hg (AK (by omega) ?_)
  rcases List.eq_nil_or_concat L with rfl | ⟨L', y, rfl⟩
  ·cases hT
   exact hK _ _ (q H BA.refl)
  ·rw [List.concat_eq_append] at *
   obtain ⟨c, m', d, j, h1, h2, rfl, rfl⟩ := hT.last
   have hlen := h1.len
   have hyp := h2.pos
   rw [show (!(L' ++ [y]).isEmpty) = true by cases L' <;> rfl]
   have hg' := AD (o' := .list L') hg
   refine hk hg (AK (by rw [List.length_append, List.length_singleton]; exact yU hb hlen) (EL (by rw [List.length_append, List.length_singleton, Nat.add_sub_cancel]; exact Dq) ?_))
   rw [List.dropLast_concat]
   cases h2 with
   | none =>
    exact ih h1 (by exact oA h) (by omega) hg' fun H' o => by
     have := q H' (BA.set.trans o)
     rwa [Bool.or_false] at this
   | @node i word mods at_ l e j hl hr =>
    refine bI (fun z => ?_) fun z => bI (fun y => ?_) fun y => ?_
    ·exact ih h1 (by exact yR h) (by omega) hg' fun H' o => by
      have := q H' (BA.set.trans o)
      rwa [yb, if_pos (eq_of_beq z), Bool.or_false] at this
    ·have := q (Ab H t (.list L')) BA.set
     rw [yb, if_neg (Az z), if_pos (uj y), Bool.or_true] at this
     exact hK' _ _ this
    ·rw [yb, if_neg (Az z), if_neg (tf y)] at q
     exact UC hg' (by omega) fun f3 H' o g => ih (h1.append hr) (by omega) (by omega) g fun H'' o' => q H'' ((BA.set.trans o).trans o')
theorem Xj {H : Hp} {x : AV} {b : Bool} {m : Nat} {k : AV -> Hp -> Prop} (hT : Tr x b m) (hs : m < 40000) (q : ∀ H', AY H H' -> k (.bool b) H') : Em [x] H k :=
 XK ⟨m + 1, bN (k := k) (fun F H h => h) (fun F H h => h) (NT.one hT) (Nat.lt_succ_self _) (by omega) Ah fun H' o => q H' ⟨Nat.le_trans (by rw [Af, List.length_append]; exact Nat.le_add_right _ _) o.1, fun n ao g => o.2 n ao (Nat.ne_of_lt (AX g)) (QV g)⟩⟩
section
noncomputable def WS (a : Nat) (gs : List Int) (R : List (List Nat × AV)) (H : Hp) : Prop := (∃ p s n, AB H a = some (.sdict (wl gs p s n R)) /\ 0 <= p /\ 0 <= s /\ s < 1009) /\ gs.length < 1000 /\ R.length < 1000
theorem WS.keep {a : Nat} {gs : List Int} {R : List (List Nat × AV)} {H H' : Hp} (x : WS a gs R H) (k : ∀ o, AB H a = some o -> AB H' a = some o) : WS a gs R H' :=
 ⟨x.1.imp fun _ x => x.imp fun _ x => x.imp fun _ x => ⟨k _ x.1, x.2⟩, x.2⟩
variable {a : Nat} {gs : List Int} {R : List (List Nat × AV)}
theorem C8 {H : Hp} {m : Int} {k : AV -> Hp -> Prop} (x : WS a gs R H) (hm : 0 < m) (hm' : m < 1000)
  (q : ∀ r H', 0 <= r -> r < m -> BA a H H' -> WS a gs R H' -> k (.int r) H') : Ad [.loc a, .int m] H k := by
 obtain ⟨⟨p, s, n, g, h1, h2, h3⟩, r1, r2⟩ := x
 exact Xm g r2 r1 h1 ⟨h2, h3⟩ ⟨hm, hm'⟩ fun r p' s' a b c d e => q r _ a b BA.set ⟨⟨p', s', n, AD g, c, d, e⟩, r1, r2⟩
theorem Hi {H : Hp} {m : Nat} {k : AV -> Hp -> Prop} (x : WS a gs R H) (hm : 0 < m) (hm' : m < 1000)
  (q : ∀ (r : Nat) H', r < m -> BA a H H' -> WS a gs R H' -> k (.int (r : Int)) H') : Ad [.loc a, .int (m : Int)] H k :=
 C8 x (Int.ofNat_lt.mpr hm) (by omega) fun r H' h0 h1 o w => Int.toNat_of_nonneg h0 ▸ q r.toNat H' (by exact yV h0 h1) o w
theorem BN {H : Hp} {k : AV -> Hp -> Prop} {sort word kids mods : AV} (x : WS a gs R H)
  (q : ∀ at_ H', BA a H H' -> WS a gs R H' -> k (nd sort word kids mods (.int at_)) H') : Bk [.loc a, sort, word, kids, mods] H k := by
 obtain ⟨⟨p, s, n, g, h1, h2, h3⟩, r1, r2⟩ := x
 exact eF g r2 (q _ _ (BA.set.trans ⟨by rw [List.length_append]; exact Nat.le_add_right _ _, fun _ _ _ => IK.mpr⟩) ⟨⟨p, s, _, IK.mpr (AD g), h1, h2, h3⟩, r1, r2⟩)
theorem LM {H : Hp} {k : AV -> Hp -> Prop} {l : List AV} {b : Bool} {n : Nat} (x : WS a gs R H) (hl : l.length < 1000) (hT : NT l b n)
  (q : ∀ y H', Tr y false (n + 4) -> BA a H H' -> WS a gs R H' -> k y H') : CR [.loc a, .lst l] H k :=
 OG (BN x fun a1 H1 o1 x1 => BN x1 fun a2 H2 o2 x2 => BN x2 fun a3 H3 o3 x3 => BN x3 fun a4 H4 o4 x4 => q _ H4
  (Tr.to (.node (i := 53) (by decide : 1 < 1000) (.one (.node (i := 30) (by decide : 2 < 1000) (.cons (.node (i := 110) (by decide : 0 < 1000) .nil) (.one (.node (i := 50) hl hT)))))) rfl (by exact yS)) (((o1.trans o2).trans o3).trans o4) x4)
theorem Y7 {sr : KI} {t : VT} {e : VE} {all : List AV} {C : Ag} {H : Hp} {k : List AV -> Hp -> Prop} {tb : AV -> Bool} {ex : AV -> AV} (hc : ∀ p, p -> Qh sr all H p) {r : List AV} : ∀ {acc : List AV}, (∀ x ∈ r, ∀ K : Bool -> Hp -> Prop, K (tb x) H -> t (some x :: C) H K) -> (∀ x ∈ r, ∀ K : AV -> Hp -> Prop, K (ex x) H -> e (some x :: C) H K) ->
  k (acc ++ (r.filter tb).map ex) H -> FL sr t e all C k r acc H := by
 induction r with
 | nil => exact fun _ _ q => by rwa [List.filter_nil, List.map_nil, List.append_nil] at q
 | cons x r ih =>
  intro acc ht he q
  rw [List.filter_cons] at q
  refine ht x (.head _) _ (bI (fun hb => he x (.head _) _ (hc _ (ih (fun y hy => ht y (.tail _ hy)) (fun y hy => he y (.tail _ hy)) ?_))) fun hb => hc _ (ih (fun y hy => ht y (.tail _ hy)) (fun y hy => he y (.tail _ hy)) ?_))
  ·rw [if_pos hb, List.map_cons] at q
   rw [List.append_assoc]; exact q
  ·rwa [hb, if_neg Bool.false_ne_true] at q
theorem c7 {sr : KI} {t : VT} {e : VE} {all : List AV} {C : Ag} {H : Hp} {k : List AV -> Hp -> Prop} {tb : AV -> Bool} {ex : AV -> AV} {r l : List AV} (hc : ∀ p, p -> Qh sr all H p) (ht : ∀ x ∈ r, ∀ K : Bool -> Hp -> Prop, K (tb x) H -> t (some x :: C) H K) (he : ∀ x ∈ r, ∀ K : AV -> Hp -> Prop, K (ex x) H -> e (some x :: C) H K)
  (hl : (r.filter tb).map ex = l) (q : k l H) : FL sr t e all C k r [] H := Y7 hc ht he (by rw [hl]; exact q)
theorem Wx {sr : KI} {e : VE} {all : List AV} {C : Ag} {H : Hp} {k : List AV -> Hp -> Prop} {ex : AV -> AV} {r l : List AV} (hc : ∀ p, p -> Qh sr all H p) (he : ∀ x ∈ r, ∀ K : AV -> Hp -> Prop, K (ex x) H -> e (some x :: C) H K)
  (hl : r.map ex = l) (q : k l H) : FL sr U5 e all C k r [] H := c7 (tb := fun _ => true) hc (fun _ _ _ h => h) he (by rw [List.filter_eq_self.mpr (fun _ _ => rfl)]; exact hl) q
noncomputable def pr (p : AV × Bool) : AV := .tup [p.1, .bool p.2]
noncomputable def ZO (x : AV) : AV := match x with
 | .tup (y :: _) => y
 | _ => .none
noncomputable def bz (x : AV) : AV := match x with
 | .tup (_ :: y :: _) => y
 | _ => .none
noncomputable def Yc (x : AV) : Bool := match x with
 | .tup (_ :: .bool b :: _) => b
 | _ => false
theorem Li {ps : List (AV × Bool)} : (ps.map pr).map ZO = ps.map (·.1) := by rw [List.map_map]; rfl
end
section
variable {a : Nat} {gs : List Int} {R : List (List Nat × AV)}
noncomputable def T3 : Nat -> Nat
 | 0 => 2
 | d + 1 => 3 * T3 d + 6
theorem Sl {d : Nat} : 2 <= T3 d := by
 cases d
 ·exact Nat.le_refl 2
 ·rw [T3]; omega
noncomputable def Of (d : Nat) (p : AV × Bool) : Prop := ∃ n, Tr p.1 p.2 n /\ n <= T3 d
theorem Mz {d : Nat} {ps : List (AV × Bool)} (h : ∀ p ∈ ps, Of d p) : ∃ n, NT (ps.map (·.1)) (ps.any (·.2)) n /\ n <= ps.length * T3 d := by
 induction ps with
 | nil => exact ⟨0, .nil, Nat.zero_le _⟩
 | cons p ps ih =>
  obtain ⟨n, t, hn⟩ := h p (.head _)
  obtain ⟨m, ts, hm⟩ := ih fun q hq => h q (.tail _ hq)
  exact ⟨n + m, .cons t ts, by rw [List.length_cons, Nat.succ_mul]; exact yP hn hm⟩
noncomputable def bJ (vp : VP) (d : Nat) (a : Nat) (gs : List Int) (R : List (List Nat × AV)) : Prop := ∀ (H : Hp) (k : AV -> Hp -> Prop), WS a gs R H -> (∀ p H', Of d p -> BA a H H' -> WS a gs R H' -> k (pr p) H') -> vp [.loc a, .int (d : Int)] H k
theorem QA {vp : VP} {d n : Nat} {e : VE} {all : List AV} {C : Ag} {k : List AV -> Hp -> Prop} (hp : bJ vp d a gs R)
  (he : ∀ (x : AV) (H : Hp) (K : AV -> Hp -> Prop), vp [.loc a, .int (d : Int)] H K -> e (some x :: C) H K) {r : List AV} : ∀ {ps : List (AV × Bool)} {H : Hp}, WS a gs R H -> (∀ p ∈ ps, Of d p) ->
  (∀ (qs : List (AV × Bool)) (H' : Hp), (∀ p ∈ qs, Of d p) -> qs.length = ps.length + r.length -> BA a H H' -> WS a gs R H' -> k (qs.map pr) H') -> FL (.rg n) U5 e all C k r (ps.map pr) H := by
 induction r with
 | nil => exact fun w hps q => q _ _ hps rfl BA.refl w
 | cons x r ih =>
  intro ps H w hps q
  refine he x H _ (hp H _ w fun p H' hok o w' => ?_)
  have z := ih (ps := ps ++ [p]) (H := H') w' (fun q hq => (List.mem_append.mp hq).elim (hps q) fun h => List.mem_singleton.mp h ▸ hok) fun qs H'' h1 h2 h3 h4 => q qs H'' h1 (by rw [h2, List.length_append, List.length_singleton, List.length_cons]; exact vh) (o.trans h3) h4
  rw [List.map_append] at z
  exact z
theorem Ki {l : List AV} {j : Int} {K : AV -> Prop} (h0 : 0 <= j) (h1 : j < l.length) (hl : l.length < 100000) (h : ∀ v ∈ l, K v) : XB l j K := by
 obtain ⟨n, rfl⟩ := Int.eq_ofNat_of_zero_le h0
 obtain ⟨x, e⟩ := Am (Int.ofNat_lt.mp h1)
 exact QD rfl hl e (h x (Dp e))
theorem eV {P : AV -> Prop} {x y : AV} (hx : P x) (hy : P y) : ∀ v ∈ [x, y], P v := fun v h => (List.mem_cons.mp h).elim (fun e => e ▸ hx) fun h => List.mem_singleton.mp h ▸ hy
theorem eT {P : AV -> Prop} {x y z w : AV} (hx : P x) (hy : P y) (hz : P z) (hw : P w) : ∀ v ∈ [x, y, z, w], P v := fun v h => (List.mem_cons.mp h).elim (fun e => e ▸ hx) fun h => (List.mem_cons.mp h).elim (fun e => e ▸ hy) (eV hz hw v)
theorem ZP {qs : List (AV × Bool)} : decide (0 < ((((qs.map pr).filter Yc).map id).length : Int)) = qs.any (·.2) := by
 rw [List.map_id]
 induction qs with
 | nil => rfl
 | cons p ps ih =>
  rw [List.map_cons, List.any_cons, List.filter_cons, show Yc (pr p) = p.2 from rfl]
  cases p.2
  ·rw [if_neg Bool.false_ne_true]; exact ih
  ·rw [if_pos rfl, List.length_cons]; exact decide_eq_true (by omega)
theorem Y0 {qs : List (AV × Bool)} : Rg ((qs.map pr).map bz) true = some (qs.any (·.2)) := by
 induction qs with
 | nil => rfl
 | cons p ps ih =>
  rw [List.map_cons, List.map_cons, List.any_cons]
  show (match Rg ((ps.map pr).map bz) true with | some b => some ((p.2 == true) || b) | none => none) = _
  rw [ih]
  cases p.2 <;> rfl
theorem YS {f : Nat} : ∀ {d : Nat}, d < f -> bJ (BB f) d a gs R := by
 induction f with
 | zero => exact fun h => absurd h (Nat.not_lt_zero _)
 | succ f ih =>
  intro d h H k w q
  have szd : 2 <= T3 d := Sl
  have none1 : Tr .none false 1 := .none
  refine QL (C8 w (by decide) (by decide) fun n H1 n0 n1 o1 w1 => bI (fun e => q (.none, false) H1 ⟨1, .none, by exact n8 szd⟩ o1 w1) fun e0 => bI (fun e => BN w1 fun at_ H2 o2 w2 => q (_, true) H2 ⟨1, .node (i := 72) (by decide : 0 < 1000) .nil, by exact n8 szd⟩ (o1.trans o2) w2) fun e1 =>
   bI (fun e => ?_) fun e2 => bI (fun hd => ?_) fun hd => ?_)
  ·refine bI (fun hd => ?_) fun hd => ?_
   ·refine BN w1 fun at_ H2 o2 w2 => LM w2 (by decide : 1 < 1000) (.one (.node (i := 72) (by decide : 0 < 1000) .nil)) fun y H3 ty o3 w3 => BN w3 fun at2 H4 o4 w4 =>
     q (_, true) H4 ⟨6, .node (i := 71) (by decide : 1 < 1000) (.one ty), ?_⟩ (((o1.trans o2).trans o3).trans o4) w4
    have hd' := of_decide_eq_true hd
    obtain ⟨d, rfl⟩ : ∃ d', d = d' + 1 := ⟨d - 1, by exact yO hd'⟩
    have : 2 <= T3 d := Sl
    rw [T3]; omega
   ·exact BN w1 fun at2 H4 o4 w4 => q (_, true) H4 ⟨2, .node (i := 71) (by decide : 1 < 1000) (.one none1), szd⟩ (o1.trans o4) w4
  ·refine Ki (Int.emod_nonneg _ (by decide)) (Int.emod_lt_of_pos _ (by decide)) (by decide : 2 < 100000) (eV ?_ ?_)
   ·exact BN w1 fun at2 H4 o4 w4 => q (_, false) H4 ⟨2, .node (i := 66) (by decide : 1 < 1000) (.one none1), szd⟩ (o1.trans o4) w4
   ·exact BN w1 fun at2 H4 o4 w4 => q (_, false) H4 ⟨2, .node (i := 53) (by decide : 1 < 1000) (.one none1), szd⟩ (o1.trans o4) w4
  ·have hd' := Az hd
   obtain ⟨d, rfl⟩ : ∃ d', d = d' + 1 := ⟨d - 1, by exact yN hd'⟩
   refine C8 w1 (by decide) (by decide) fun n2 H2 m0 m1 o2 w2 => Ei (Nq.mpr ⟨by show _ < n2 + 1; exact n4 m0, by show n2 + 1 < _; exact n3 m1⟩) (AK (by rw [Dj]; show (n2 + 1).toNat < _; exact nz m1)
    (QA (ih (d := d) (by exact oA h)) (fun x H K h => by
     rw [show (d : Int) = ((d + 1 : Nat) : Int) - 1 by omega] at h; exact h) w2 (ps := []) (fun _ h => absurd h List.not_mem_nil) fun qs H3 hq hql o3 w3 => ?_))
   have hlen : qs.length <= 3 := by rw [hql, Dj, List.length_nil]; exact ny m1
   obtain ⟨m, ts, hm⟩ := Mz hq
   have hm' : m <= 3 * T3 d := Nat.le_trans hm (Nat.mul_le_mul_right _ hlen)
   have hsz : T3 (d + 1) = 3 * T3 d + 6 := rfl
   have l1 : (qs.map pr).length < 100000 := by rw [List.length_map]; exact Q9 hlen
   have l2 : (qs.map (·.1)).length < 1000 := by rw [List.length_map]; exact vm hlen
   have o13 := (o1.trans o2).trans o3
   refine AK l1 (Wx (ex := ZO) (fun _ h => h) (fun x hx K h => ?_) Li (bI (fun hn => LM w3 l2 ts fun y H4 ty o4 w4 => q (y, false) H4 ⟨_, ty, by omega⟩ (o13.trans o4) w4) fun hn =>
    AK l1 (c7 (tb := Yc) (ex := id) (fun _ h => h) (fun x hx K h => ?_) (fun x hx K h => h) rfl (AK ?_ (Ki (Int.emod_nonneg _ (by decide)) (Int.emod_lt_of_pos _ (by decide)) (by decide : 4 < 100000) ?_)))))
   ·obtain ⟨p, _, rfl⟩ := List.mem_map.mp hx
    exact h
   ·obtain ⟨p, _, rfl⟩ := List.mem_map.mp hx
    exact h
   ·rw [List.map_id]; exact Nat.lt_of_le_of_lt (List.length_filter_le ..) l1
   ·have Et : ∀ i : Int, i ≠ 30 -> i ≠ 71 -> i ≠ 72 -> ∀ at_ H4, BA a H3 H4 -> WS a gs R H4 -> k (.tup [nd (.int i) (.str []) (.lst (qs.map (·.1))) (.int 0) (.int at_), .bool (decide (0 < ((((qs.map pr).filter Yc).map id).length : Int)))]) H4 := fun i a b c at_ H4 o4 w4 => by
     rw [ZP]
     exact q (_, qs.any (·.2)) H4 ⟨m + 1, .to (.node (i := i) l2 ts) (by rw [yb, if_neg a, if_neg (by omega)]) rfl, by exact yJ hsz hm'⟩ (o13.trans o4) w4
    exact eT (BN w3 (Et 54 (by decide) (by decide) (by decide))) (BN w3 (Et 55 (by decide) (by decide) (by decide))) (BN w3 (Et 50 (by decide) (by decide) (by decide))) (BN w3 (Et 68 (by decide) (by decide) (by decide)))
theorem bV {H : Hp} {k : AV -> Hp -> Prop} (w : WS a gs R H) (q : ∀ x b n H', Tr x b n -> n < 1000 -> BA a H H' -> WS a gs R H' -> k (.tup [x, .bool b]) H') : DQ [.loc a] H k := by
 refine R0 (C8 w (by decide) (by decide) fun n H1 n0 n1 o1 w1 => bI (fun e => q .none false 1 H1 .none (by decide) o1 w1) fun e => C8 w1 (by decide) (by decide) fun n2 H2 m0 m1 o2 w2 =>
  Ei (Nq.mpr ⟨by show _ < n2 + 1; exact n4 m0, by show n2 + 1 < _; exact n3 m1⟩) (AK (by rw [Dj]; show (n2 + 1).toNat < _; exact nz m1) (QA (YS (f := 3) (d := 2) (by decide)) (fun x H K h => h) w2 (ps := []) (fun _ h => absurd h List.not_mem_nil) fun qs H3 hq hql o3 w3 => ?_)))
 have hlen : qs.length <= 3 := by rw [hql, Dj, List.length_nil]; exact ny m1
 obtain ⟨m, ts, hm⟩ := Mz hq
 have hm' : m <= 3 * T3 2 := Nat.le_trans hm (Nat.mul_le_mul_right _ hlen)
 have hsz : T3 2 = 42 := rfl
 have l1 : (qs.map pr).length < 100000 := by rw [List.length_map]; exact Q9 hlen
 refine AK l1 (Wx (ex := ZO) (fun _ h => h) (fun x hx K h => ?_) Li (BN w3 fun at_ H4 o4 w4 => AK l1 (Wx (ex := bz) (fun _ h => h) (fun x hx K h => ?_) rfl (EL Y0
  (q _ _ (m + 1) H4 (.node (i := 50) (by rw [List.length_map]; exact vm hlen) ts) (by exact yI hsz hm') (((o1.trans o2).trans o3).trans o4) w4)))))
 ·obtain ⟨p, _, rfl⟩ := List.mem_map.mp hx
  exact h
 ·obtain ⟨p, _, rfl⟩ := List.mem_map.mp hx
  exact h
end
section
theorem ltT {a b : Int} (h : cy a b = true) : a < b := of_decide_eq_true h
theorem ltF {a b : Int} (h : cy a b = false) : ¬ a < b := of_decide_eq_false h
theorem leT {a b : Int} (h : uI a b = true) : a <= b := of_decide_eq_true h
theorem leF {a b : Int} (h : uI a b = false) : ¬ a <= b := of_decide_eq_false h
theorem gtT {a b : Int} (h : uv a b = true) : b < a := of_decide_eq_true h
theorem gtF {a b : Int} (h : uv a b = false) : ¬ b < a := of_decide_eq_false h
theorem geT {a b : Int} (h : uw a b = true) : b <= a := of_decide_eq_true h
theorem geF {a b : Int} (h : uw a b = false) : ¬ b <= a := of_decide_eq_false h
theorem bT {b : Bool} {p q : Prop} (e : b = true) (h : p) : KH b p q := by subst e; exact h
theorem bF {b : Bool} {p q : Prop} (e : b = false) (h : q) : KH b p q := by subst e; exact h
theorem SR {a b : Int} (h : a ≠ b) : (a == b) = false := beq_eq_false_iff_ne.mpr h
theorem vK {a b : Int} (h : a = b) : (a == b) = true := beq_iff_eq.mpr h
noncomputable def Ay (S : List Nat) (H H' : Hp) : Prop := H.length <= H'.length /\ ∀ n o, n ∉ S -> AB H n = some o -> AB H' n = some o
theorem Ay.refl {S : List Nat} {H : Hp} : Ay S H H := ⟨Nat.le_refl _, fun _ _ _ e => e⟩
theorem Ay.trans {S : List Nat} {H H' H'' : Hp} (x : Ay S H H') (y : Ay S H' H'') : Ay S H H'' := ⟨Nat.le_trans x.1 y.1, fun n o h e => y.2 n o h (x.2 n o h e)⟩
theorem Ay.set {S : List Nat} {a : Nat} {H : Hp} {o : AO} (h : a ∈ S) : Ay S H (Ab H a o) := ⟨by rw [Ab, AF]; exact Nat.le_refl _, fun n o' hn e => by rw [ER (fun z => hn (by rw [z]; exact h))]; exact e⟩
theorem Ay.mono {S S' : List Nat} {H H' : Hp} (x : Ay S H H') (h : ∀ n ∈ S, n ∈ S') : Ay S' H H' := ⟨x.1, fun n o hn e => x.2 n o (fun z => hn (h n z)) e⟩
theorem BA.but {S : List Nat} {a : Nat} {H H' : Hp} (x : BA a H H') (h : a ∈ S) : Ay S H H' := ⟨x.1, fun n o hn e => x.2 n o (fun z => hn (z ▸ h)) e⟩
theorem AY.but {S : List Nat} {H H' : Hp} (x : AY H H') : Ay S H H' := ⟨x.1, fun n o _ e => x.2 n o e⟩
noncomputable def D4 (r : AZ) : AV := match r with
 | ⟨a, b, none⟩ => .tup [.int a, .int b]
 | ⟨a, b, some l⟩ => .tup [.int a, .int b, .tup (l.map .int)]
theorem XG {l : List Int} : JK.intsOf (l.map AV.int) = some l := by
 induction l with
 | nil => rfl
 | cons x l ih => rw [List.map_cons, JK.intsOf, ih]; rfl
theorem Il {r : AZ} : JK (D4 r) = some r := by
 obtain ⟨a, b, l⟩ := r
 cases l with
 | none => rfl
 | some l => show (JK.intsOf (l.map AV.int)).map _ = _; rw [XG]; rfl
noncomputable def Ht : AZ -> Int
 | ⟨a, _, _⟩ => a
noncomputable def Qx : Nat -> List AZ -> List (AZ × AV)
 | _, [] => []
 | n, r :: rs => (r, .int (n : Int)) :: Qx (n + 1) rs
noncomputable def CH : Nat -> List AZ -> AZ -> Option Nat
 | _, [], _ => none
 | n, r :: rs, k => if r = k then some n else CH (n + 1) rs k
theorem Ly {k : AZ} {rs : List AZ} {n : Nat} : Kh (Qx n rs) k = (CH n rs k).map fun n : Nat => AV.int (n : Int) := by
 induction rs generalizing n with
 | nil => rfl
 | cons r rs ih =>
  rw [Qx, CH]
  show (match mV r k with | true => _ | false => Kh (Qx (n + 1) rs) k) = _
  by_cases e : r = k
  ·rw [if_pos e, show mV r k = true from decide_eq_true e]; rfl
  ·rw [if_neg e, show mV r k = false from decide_eq_false e]; exact ih
theorem Rr {r : AZ} {rs : List AZ} {n : Nat} : Qx n (rs ++ [r]) = Qx n rs ++ [(r, .int ((n + rs.length : Nat) : Int))] := by
 induction rs generalizing n with
 | nil => rfl
 | cons x rs ih => rw [List.cons_append, Qx, ih, Qx, List.cons_append, List.length_cons, Nat.add_right_comm]; rfl
theorem ZG {rs : List AZ} {n : Nat} : (Qx n rs).length = rs.length := by
 induction rs generalizing n with
 | nil => rfl
 | cons _ _ ih => exact congrArg Nat.succ ih
structure Av where
 rows : List AZ
 ds : List Int
 ws : List Int
 os : List Int
structure KT (T : Av) (H : Hp) : Prop where
 q : AB H 1 = some (.inst 110 [(BS, .loc 2), (Gb, .loc 3), (DK, .loc 4), (DT, .loc 5), (FK, .loc 6)])
 r : AB H 2 = some (.list (T.rows.map D4))
 i : AB H 3 = some (.tdict (Qx 0 T.rows))
 d : AB H 4 = some (.list (T.ds.map .int))
 w : AB H 5 = some (.list (T.ws.map .int))
 o : AB H 6 = some (.list (T.os.map .int))
 ld : T.ds.length = T.rows.length
 lw : T.ws.length = T.rows.length
 lo : T.os.length = T.rows.length
 sm : T.rows.length < 1000
theorem KT.keep {T : Av} {H H' : Hp} (x : KT T H) (k : ∀ n, 1 <= n -> n <= 6 -> ∀ o, AB H n = some o -> AB H' n = some o) : KT T H' :=
 ⟨k 1 (by decide) (by decide) _ x.q, k 2 (by decide) (by decide) _ x.r, k 3 (by decide) (by decide) _ x.i, k 4 (by decide) (by decide) _ x.d, k 5 (by decide) (by decide) _ x.w, k 6 (by decide) (by decide) _ x.o, x.ld, x.lw, x.lo, x.sm⟩
variable {T : Av} {H : Hp} {k : AV -> Hp -> Prop}
theorem QC {α : Type} {f : α -> AV} {l : List α} {n : Nat} {x : α} {K : AV -> Prop} (hl : l.length < 100000) (e : Mine.getL l n = some x) (h : K (f x)) : XB (l.map f) (n : Int) K := QD rfl (by rw [List.length_map]; exact hl) (by rw [Mine.Bb, e]; rfl) h
theorem NN (x : KT T H) {n : Nat} {r : AZ} (e : Mine.getL T.rows n = some r) (q : k (D4 r) H) : BV [.loc 1, .int (n : Int)] H k := by
 have hn := Bn e
 have hs := x.sm
 have hm : (T.rows.map D4).length = T.rows.length := List.length_map ..
 exact K2 (hk x.q (hk x.r (AK (by omega) (bI (fun z => absurd (geT z) (by omega)) fun _ => hk x.q (hk x.r (QC (by exact Q0 hs) e q))))))
theorem RM {r : AZ} {H : Hp} {K : AV -> Hp -> Prop} (h : K (.int (Ht r)) H) : AR (D4 r) (.int 0) H K := by
 obtain ⟨a, b, l⟩ := r
 cases l <;> exact h
noncomputable def stands (T : Av) (k : Int) : Bool := match k with
 | .ofNat n => !(Nat.beq n 0) && !(Nat.beq n 14) && (match Mine.getL T.rows n with
  | some r => decide (Ht r <= 4) || decide (Ht r = 6) || decide (Ht r = 7)
  | none => false)
 | .negSucc _ => false
theorem JJ {j : Int} (e : stands T j = true) : ∃ (n : Nat) (r : AZ), j = (n : Int) /\ n ≠ 0 /\ n ≠ 14 /\ Mine.getL T.rows n = some r /\ (Ht r <= 4 \/ Ht r = 6 \/ Ht r = 7) := by
 cases j with
 | negSucc n => exact nomatch e
 | ofNat n =>
  unfold stands at e
  dsimp only at e
  rw [Bool.and_eq_true, Bool.and_eq_true, Bool.not_eq_true', Bool.not_eq_true'] at e
  cases g : Mine.getL T.rows n with
  | none => rw [g] at e; exact nomatch e.2
  | some r =>
   rw [g, Bool.or_eq_true, Bool.or_eq_true, decide_eq_true_iff, decide_eq_true_iff, decide_eq_true_iff, or_assoc] at e
   exact ⟨n, r, rfl, Nat.ne_of_beq_eq_false e.1.1, Nat.ne_of_beq_eq_false e.1.2, g, e.2⟩
theorem kB {b : Bool} (e : b = true) (q : k (.bool true) H) : k (.bool b) H := e ▸ q
theorem Qj (x : KT T H) {j : Int} (e : stands T j = true) (q : k (.bool true) H) : Ct [.loc 1, .int j] H k := by
 obtain ⟨n, r, rfl, n0, n14, g, h⟩ := JJ e
 exact QK (bF (SR (by omega)) (bF (SR (by omega)) (hk x.q (NN x g (RM (bI (fun z => z ▸ q) fun z => bI (fun z' => z' ▸ q) fun z' => kB (vK (by have := leF z; have := Az z'; omega)) q))))))
end
section
variable {T : Av} {H : Hp} {k : AV -> Hp -> Prop}
inductive K8 (T : Av) : AZ -> Prop
 | cls {a b : Int} {l : List Int} : a = 2 \/ a = 3 -> 0 < b -> IJ Ed b = false -> (∀ j ∈ l, stands T j = true) -> l.length < 100 -> K8 T ⟨a, b, some l⟩
 | one {a b : Int} : a = 4 \/ a = 5 -> stands T b = true -> K8 T ⟨a, b, none⟩
 | var {a b : Int} : a = 6 \/ a = 7 -> 0 <= b -> K8 T ⟨a, b, none⟩
noncomputable def inn : AZ -> List Int
 | ⟨_, _, some l⟩ => l
 | ⟨a, b, none⟩ => if a = 4 \/ a = 5 then [b] else []
theorem K8.inn {r : AZ} (v : K8 T r) : ∀ j ∈ Lw.inn r, stands T j = true := fun j hj => by
 cases v with
 | cls _ _ _ hl _ => exact hl j hj
 | one ha hs => rw [Lw.inn, if_pos ha, List.mem_singleton] at hj; rw [hj]; exact hs
 | var ha _ => rw [Lw.inn, if_neg (by exact nt ha)] at hj; exact absurd hj List.not_mem_nil
theorem LI {r : AZ} (v : K8 T r) (q : k (.tup ((inn r).map .int)) H) : BY [D4 r] H k := by
 cases v with
 | cls ha hb hb' hl hn => rcases ha with rfl | rfl <;> exact Fd q
 | one ha hs => rw [inn, if_pos ha] at q; rcases ha with rfl | rfl <;> exact Fd q
 | var ha hb => rw [inn, if_neg (by exact nt ha)] at q; rcases ha with rfl | rfl <;> exact Fd q
theorem J5 {all : List AV} {f1 f2 : Option AV} {K : Fl -> Ag -> Hp -> Prop} (x : KT T H) {l : List Int} : ∀ {f3 : Option AV}, (∀ j ∈ l, stands T j = true) -> (∀ f3, K .next [some (.loc 1), f1, f2, f3] H) ->
  CN (.ft all) (gN 3) (AG (BE (DH 110 Lq (vL 0) (AA (vL 3) AQ) BV)) AS) all K (l.map .int) [some (.loc 1), f1, f2, f3] H := by
 induction l with
 | nil => exact fun _ hK => hK _
 | cons j l ih =>
  intro f3 hl hK
  obtain ⟨n, r, rfl, _, _, e, _⟩ := JJ (hl j (.head _))
  exact hk x.q (NN x e (ih (fun i hi => hl i (.tail _ hi)) hK))
theorem UP {all : List AV} {f1 : Option AV} {K : Fl -> Ag -> Hp -> Prop} (x : KT T H) {l : List Int} : ∀ {f2 : Option AV}, (∀ j ∈ l, stands T j = true) -> (∀ f2, K .next [some (.loc 1), f1, f2] H) ->
  CN (.ft all) (gN 2) (AG (Iw (Mr (BK (Ai (AA (vL 0) (AA (vL 2) AQ)) Ct))) (AG fy AS) AS) AS) all K (l.map .int) [some (.loc 1), f1, f2] H := by
 induction l with
 | nil => exact fun _ hK => hK _
 | cons j l ih => exact fun hl hK => Qj x (hl j (.head _)) (ih (fun i hi => hl i (.tail _ hi)) hK)
theorem ZY {a b : Int} {l : List Int} (x : KT T H) (hb : 0 < b) (hb' : IJ Ed b = false) (hl : ∀ j ∈ l, stands T j = true) (q : k .none H) : Ci [.loc 1, D4 ⟨a, b, some l⟩] H k :=
 Md (bI (fun z => absurd (leT z) (by omega)) fun _ => bF hb' (OK (UP x hl fun _ => q)))
theorem Zb {r : AZ} (x : KT T H) (v : K8 T r) (q : k .none H) : Bl [.loc 1, D4 r] H k := by
 have v' := v
 cases v with
 | cls ha hb hb' hl hn => rcases ha with rfl | rfl <;> exact D6 (Ge (LI v' (J5 x hl fun f3 => ZY x hb hb' hl q)))
 | @one a b ha hs =>
  have e : ∀ j ∈ inn ⟨a, b, none⟩, stands T j = true := K8.inn v'
  rcases ha with rfl | rfl <;> exact D6 (Ge (LI v' (J5 x e fun f3 => Qj x hs q)))
 | @var a b ha hb =>
  have e : ∀ j ∈ inn ⟨a, b, none⟩, stands T j = true := K8.inn v'
  rcases ha with rfl | rfl <;> exact D6 (Ge (LI v' (J5 x e fun f3 => bI (fun z => absurd (ltT z) (by omega)) fun _ => q)))
end
section
variable {T : Av} {H : Hp} {k : AV -> Hp -> Prop}
theorem sn {H : Hp} {n m : Nat} {o : AO} {v : Option AO} (h : m ≠ n) (e : AB H m = v) : AB (Ab H n o) m = v := (ER h).trans e
theorem D8 (x : KT T H) {r : AZ} {n : Nat} (e : CH 0 T.rows r = some n) (q : k (.int (n : Int)) H) : AN [.loc 1, D4 r] H k :=
 Gn (hk x.q (hk x.i (hk x.i (EL Il (by rw [Ly, e]; exact q)))))
noncomputable def bu (T : Av) (lv : Int) (s : Int × Int × Int) (j : Int) : Int × Int × Int := match Mine.getL T.ds j.toNat, Mine.getL T.ws j.toNat, Mine.getL T.os j.toNat with
 | some d, some w, some o => (if s.1 < d + lv then d + lv else s.1, s.2.1 + w, if o = 1 then 1 else s.2.2)
 | _, _, _ => s
noncomputable def fold (T : Av) (lv : Int) : Int × Int × Int -> List Int -> Int × Int × Int
 | s, [] => s
 | s, j :: l => fold T lv (bu T lv s j) l
noncomputable def fH (r : AZ) : Int := if Ht r = 2 \/ Ht r = 3 \/ Ht r = 4 then 1 else 0
noncomputable def Kz (T : Av) (r : AZ) : Int × Int × Int := fold T (fH r) (1, 1, if Ht r = 6 \/ Ht r = 7 then 1 else 0) (inn r)
noncomputable def Av.add (T : Av) (r : AZ) : Av := ⟨T.rows ++ [r], T.ds ++ [(Kz T r).1], T.ws ++ [(Kz T r).2.1], T.os ++ [(Kz T r).2.2]⟩
noncomputable def pB2 : VS := (AG (Sg 4 (AL (AI 110 DT (vL 0)) (vL 7) AR) HK) (AG (Iw (BK (AL (AL (AI 110 FK (vL 0)) (vL 7) AR) (vC (.int 1)) Qv)) (AG (BM 5 (vC (.int 1))) AS) AS) AS))
noncomputable def pB : VS := (AG (Iw (BK (AL (AL (AL (AI 110 DK (vL 0)) (vL 7) AR) (vL 6) HK) (vL 3) oU)) (AG (BM 3 (AL (AL (AI 110 DK (vL 0)) (vL 7) AR) (vL 6) HK)) AS) AS) pB2)
noncomputable def fF (f1 f2 f7 f8 : Option AV) (lv : Int) (s : Int × Int × Int) : Ag := [some (.loc 1), f1, f2, some (.int s.1), some (.int s.2.1), some (.int s.2.2), some (.int lv), f7, f8]
theorem Wr {all : List AV} {lv : Int} {f1 f2 f8 : Option AV} {K : Fl -> Ag -> Hp -> Prop} (x : KT T H) {l : List Int} : ∀ {s : Int × Int × Int} {f7 : Option AV}, (∀ j ∈ l, stands T j = true) ->
  (∀ f7, K .next (fF f1 f2 f7 f8 lv (fold T lv s l)) H) -> CN (.ft all) (gN 7) pB all K (l.map .int) (fF f1 f2 f7 f8 lv s) H := by
 induction l with
 | nil => exact fun _ hK => hK _
 | cons j l ih =>
  intro s f7 hl hK
  obtain ⟨n, r, rfl, _, _, e, _⟩ := JJ (hl j (.head _))
  have hn := Bn e
  have sm := x.sm
  obtain ⟨d, ed⟩ := Am (l := T.ds) (i := n) (by rw [x.ld]; exact hn)
  obtain ⟨w, ew⟩ := Am (l := T.ws) (i := n) (by rw [x.lw]; exact hn)
  obtain ⟨o, eo⟩ := Am (l := T.os) (i := n) (by rw [x.lo]; exact hn)
  have est : bu T lv s (n : Int) = (if s.1 < d + lv then d + lv else s.1, s.2.1 + w, if o = 1 then 1 else s.2.2) := by
   unfold bu
   rw [Int.toNat_natCast, ed, ew, eo]
  have h7 := ih (s := bu T lv s (n : Int)) (f7 := some (.int (n : Int))) (fun i hi => hl i (.tail _ hi)) hK
  rw [est] at h7
  have ld : T.ds.length < 100000 := by rw [x.ld]; exact Q0 sm
  have lw : T.ws.length < 100000 := by rw [x.lw]; exact Q0 sm
  have lo : T.os.length < 100000 := by rw [x.lo]; exact Q0 sm
  have rest : pB2 (fF f1 f2 (some (.int (n : Int))) f8 lv (if s.1 < d + lv then d + lv else s.1, s.2)) H (oZ (.ft all) all (CN (.ft all) (gN 7) pB all K (l.map .int)) K) :=
   hk x.q (hk x.w (QC lw ew (hk x.q (hk x.o (QC lo eo (bI (fun z => by rw [if_pos (eq_of_beq z)] at h7; exact h7) fun z => by rw [if_neg (Az z)] at h7; exact h7))))))
  refine hk x.q (hk x.d (QC ld ed (bI (fun z => ?_) fun z => ?_)))
  ·rw [if_pos (gtT z)] at rest
   exact hk x.q (hk x.d (QC ld ed rest))
  ·rw [if_neg (gtF z)] at rest
   exact rest
end
section
variable {T : Av} {H : Hp} {k : AV -> Hp -> Prop}
noncomputable def Vx (T : Av) (r : AZ) (m : Int × Int × Int) (H : Hp) : Hp :=
 Ab (Ab (Ab (Ab (Ab H 2 (.list (T.rows.map D4 ++ [D4 r]))) 3 (.tdict (Qx 0 T.rows ++ [(r, .int (T.rows.length : Int))]))) 4 (.list (T.ds.map .int ++ [.int m.1]))) 5 (.list (T.ws.map .int ++ [.int m.2.1]))) 6 (.list (T.os.map .int ++ [.int m.2.2]))
theorem JO {r : AZ} {m : Int × Int × Int} : (Vx T r m H).length = H.length := AF.trans (AF.trans (AF.trans (AF.trans AF)))
theorem Lf {r : AZ} {m : Int × Int × Int} {n : Nat} {o : AO} (h : n ∉ [2, 3, 4, 5, 6]) (e : AB H n = some o) : AB (Vx T r m H) n = some o := by
 simp only [List.mem_cons, List.not_mem_nil, or_false, not_or] at h
 exact sn h.2.2.2.2 (sn h.2.2.2.1 (sn h.2.2.1 (sn h.2.1 (sn h.1 e))))
theorem N1 {α : Type} {f : α -> AV} {l : List α} {x : α} : l.map f ++ [f x] = (l ++ [x]).map f := by rw [List.map_append]; rfl
theorem S4 (x : KT T H) {r : AZ} (sm : T.rows.length < 900) : KT (T.add r) (Vx T r (Kz T r) H) := by
 have d : ∀ {a b : Nat}, Nat.beq a b = false -> a ≠ b := Nat.ne_of_beq_eq_false
 refine ⟨Lf (by decide) x.q, sn (by decide) (sn (by decide) (sn (by decide) (sn (by decide) (N1 (f := D4) ▸ AD x.r)))), sn (by decide) (sn (by decide) (sn (by decide) ?_)), sn (by decide) (sn (by decide) (N1 (f := AV.int) ▸ AD (sn (by decide) (sn (by decide) x.d)))),
  sn (by decide) (N1 (f := AV.int) ▸ AD (sn (by decide) (sn (by decide) (sn (by decide) x.w)))), N1 (f := AV.int) ▸ AD (sn (by decide) (sn (by decide) (sn (by decide) (sn (by decide) x.o)))), ?_, ?_, ?_, ?_⟩
 ·have := AD (o' := .tdict (Qx 0 T.rows ++ [(r, .int (T.rows.length : Int))])) (sn (n := 2) (o := .list (T.rows.map D4 ++ [D4 r])) (by decide) x.i)
  rw [this, Av.add, Rr, Nat.zero_add]
 ·rw [Av.add, List.length_append, List.length_append, x.ld]; rfl
 ·rw [Av.add, List.length_append, List.length_append, x.lw]; rfl
 ·rw [Av.add, List.length_append, List.length_append, x.lo]; rfl
 ·rw [Av.add, List.length_append, List.length_singleton]; exact vf sm
noncomputable def V6 : VS := (AG (Iw (BK (AL (vL 3) (vC (.int 24)) oU)) (AG fy AS) AS) (AG (Iw (BK (AL (vL 4) (vC (.int 4096)) oU)) (AG fy AS) AS) (AG (BM 8 (BR (AI 110 BS (vL 0)) Hu)) (AG (BE (Di (AI 110 BS (vL 0)) (vL 1))) (AG (Bs (vL 8) (AI 110 Gb (vL 0)) (vL 1)) (AG (BE (Di (AI 110 DK (vL 0)) (vL 3))) (AG (BE (Di (AI 110 DT (vL 0)) (vL 4))) (AG (BE (Di (AI 110 FK (vL 0)) (vL 5))) (AG (Hs (vL 8)) AS)))))))))
theorem Vt (x : KT T H) {r : AZ} {f2 f7 : Option AV} {lv : Int} {m : Int × Int × Int} (e : CH 0 T.rows r = none) (hd : m.1 <= 24) (hw : m.2.1 <= 4096) (q : k (.int (T.rows.length : Int)) (Vx T r m H)) :
  V6 (fF (some (D4 r)) f2 f7 none lv m) H (EP k) := by
 have sm := x.sm
 have lr : (T.rows.map D4).length < 100000 := by rw [List.length_map]; exact Q0 sm
 have ld : (T.ds.map AV.int).length < 100000 := by rw [List.length_map, x.ld]; exact Q0 sm
 have lw : (T.ws.map AV.int).length < 100000 := by rw [List.length_map, x.lw]; exact Q0 sm
 have lo : (T.os.map AV.int).length < 100000 := by rw [List.length_map, x.lo]; exact Q0 sm
 have hi : ((Kh (Qx 0 T.rows) r).isNone && Ii (Qx 0 T.rows).length) = true := by rw [Ly, e, ZG]; exact Nat.ble_eq_true_of_le (by omega)
 rw [List.length_map] at lr
 have lr' : (T.rows.map D4).length < 100000 := by rw [List.length_map]; exact lr
 have x1 := fun {o} => sn (n := 2) (o := o) (by decide) x.q
 refine bF (decide_eq_false (Int.not_lt.mpr hd)) (bF (decide_eq_false (Int.not_lt.mpr hw)) (hk x.q (hk x.r (AK lr' (hk x.q (hk x.r (hk x.r (AK lr' (hk (sn (by decide) x.q) (hk (sn (by decide) x.i) (EL Il (Ei hi
  (hk (sn (by decide) (sn (by decide) x.q)) (hk (sn (by decide) (sn (by decide) x.d)) (hk (sn (by decide) (sn (by decide) x.d)) (AK ld
  (hk (sn (by decide) (sn (by decide) (sn (by decide) x.q))) (hk (sn (by decide) (sn (by decide) (sn (by decide) x.w))) (hk (sn (by decide) (sn (by decide) (sn (by decide) x.w))) (AK lw
  (hk (sn (by decide) (sn (by decide) (sn (by decide) (sn (by decide) x.q)))) (hk (sn (by decide) (sn (by decide) (sn (by decide) (sn (by decide) x.o)))) (hk (sn (by decide) (sn (by decide) (sn (by decide) (sn (by decide) x.o)))) (AK lo ?_))))))))))))))))))))))))
 show k (.int ((T.rows.map D4).length : Int)) (Ab (Ab (Ab (Ab (Ab H 2 (.list (T.rows.map D4 ++ [D4 r]))) 3 (.tdict (Qx 0 T.rows ++ [(r, .int ((T.rows.map D4).length : Int))]))) 4 (.list (T.ds.map .int ++ [.int m.1]))) 5 (.list (T.ws.map .int ++ [.int m.2.1]))) 6 (.list (T.os.map .int ++ [.int m.2.2])))
 rw [List.length_map]
 exact q
theorem NO (x : KT T H) {r : AZ} (v : K8 T r) (e : CH 0 T.rows r = none) (hd : (Kz T r).1 <= 24) (hw : (Kz T r).2.1 <= 4096) (q : k (.int (T.rows.length : Int)) (Vx T r (Kz T r) H)) : AN [.loc 1, D4 r] H k := by
 have Et : ∀ {f2 : Option AV} (op : Int), op = (if Ht r = 6 \/ Ht r = 7 then 1 else 0) -> ∀ {lv}, lv = fH r -> Ng (vX (Ai (AA (vL 1) AQ) BY)) (gN 7) pB (fF (some (D4 r)) f2 none none lv (1, 1, op)) H (Ro V6 (EP k)) := @fun f2 op eop lv el => by
  refine LI v ?_
  refine Wr x v.inn fun f7 => ?_
  rw [el, eop]
  exact Vt x e hd hw q
 have lev : ∀ {f2 : Option AV} (op : Int), op = (if Ht r = 6 \/ Ht r = 7 then 1 else 0) -> Dd [.int (Ht r)] H (US 6 (fF (some (D4 r)) f2 none none 0 (1, 1, op)) (Ro (AG (Ng (vX (Ai (AA (vL 1) AQ) BY)) (gN 7) pB) V6) (EP k))) := fun op eop => by
  refine QJ (bI (fun z => Et op eop ?_) fun z => bI (fun y => Et op eop ?_) fun y => bI (fun w => Et op eop ?_) fun w => Et op eop ?_)
  ·rw [fH, if_pos (.inl (eq_of_beq z))]
  ·rw [fH, if_pos (.inr (.inl (eq_of_beq y)))]
  ·rw [fH, if_pos (.inr (.inr (eq_of_beq w)))]
  ·rw [fH, if_neg (by have := Az z; have := Az y; have := Az w; omega)]
 refine Gn (hk x.q (hk x.i (hk x.i (EL Il ?_))))
 rw [Ly, e]
 refine Zb x v (RM (bI (fun z => RM (lev 1 ?_)) fun z => RM (bI (fun y => RM (lev 1 ?_)) fun y => RM (lev 0 ?_))))
 ·rw [if_pos (.inl (eq_of_beq z))]
 ·rw [if_pos (.inr (eq_of_beq y))]
 ·rw [if_neg (by have := Az z; have := Az y; omega)]
end
section
set_option genInjectivity false
structure Ae where
 asm_ : AV
 kinds_ : AV
 unmet_ : AV
 told_ : AV
 exprs_ : AV
 stmts_ : AV
 types_ : AV
 scopes_ : AV
 rows_ : AV
 closed_ : AV
 fn_ : AV
 owner_ : AV
 mid_ : AV
 static_ : AV
 init_ : AV
 checked_ : AV
 free_ : AV
 loops_ : AV
 blocks_ : AV
 tparams_ : AV
 targets_ : AV
 judge_ : AV
 turner_ : AV
 fitter_ : AV
 keeper_ : AV
 early_ : AV
 deep_ : AV
 at_ : AV
 notes_ : AV
noncomputable def Ae.L (s : Ae) : List (Nat × AV) := [(E8, .loc 28), (CX, .loc 0), (BW, .loc 1), (Io, .loc 37), (Lx, s.asm_), (TH, s.kinds_), (TA, s.unmet_), (We, s.told_), (Eg, .loc 32), (TL, s.exprs_), (TC, s.stmts_), (DL, s.types_), (Cm, s.scopes_), (BS, s.rows_), (EM, s.closed_), (Pz, s.fn_), (Bc, s.owner_), (Cn, s.mid_), (Dm, s.static_), (HL, s.init_), (DV, s.checked_), (HO, s.free_), (Hk, s.loops_), (P4, s.blocks_), (Bh, s.tparams_), (M1, s.targets_), (TJ, s.judge_), (Px, s.turner_), (P0, s.fitter_), (Py, s.keeper_), (TM, s.early_), (J3, s.deep_), (JS, s.at_), (TG, s.notes_)]
noncomputable def fnL (fnid mid lids params this ret up srt_ elem at_ : AV) : List (Nat × AV) := [(Ip, fnid), (Cn, mid), (Lu, lids), (Ap, params), (DU, this), (Bt, ret), (Iq, .none), (Yx, up), (E9, srt_), (HP, elem), (JS, at_)]
noncomputable def Tw (lid name kind flags owner arg Xx : AV) : List (Nat × AV) := [(aO, lid), (Ba, name), (DA, kind), (CY, flags), (Bc, owner), (Kg, arg), (Hl, Xx)]
noncomputable def bZ : List (Nat × AV) := [(CX, .loc 0), (Lx, .int 1), (II, .loc 29), (E7, .loc 30), (Fx, .loc 31), (Eg, .loc 32), (Ny, .loc 34), (Lp, .loc 35), (Lv, .loc 36)]
noncomputable def ou : List (Nat × AV) := [(BS, .loc 33)]
noncomputable def Yb : List (Nat × AV) := [(BW, .loc 1), (DL, .loc 10), (J2, .lst [.none]), (C2, .loc 8), (Nx, .loc 9), (Ra, .lst []), (Nz, .int 0)]
end
section
variable {T : Av} {H : Hp} {k : AV -> Hp -> Prop}
theorem PB {r : AZ} {rs l : List AZ} {n m : Nat} (e : CH m rs r = some n) : CH m (rs ++ l) r = some n := by
 induction rs generalizing m with
 | nil => exact (nomatch e)
 | cons x rs ih =>
  rw [List.cons_append, CH]
  rw [CH] at e
  by_cases q : x = r
  ·rw [if_pos q] at e ⊢; exact e
  ·rw [if_neg q] at e ⊢; exact ih e
theorem V4 {r : AZ} {rs : List AZ} {m : Nat} (e : CH m rs r = none) : CH m (rs ++ [r]) r = some (m + rs.length) := by
 induction rs generalizing m with
 | nil => rw [List.nil_append, CH, if_pos rfl]; rfl
 | cons x rs ih =>
  rw [List.cons_append, CH]
  rw [CH] at e
  by_cases q : x = r
  ·rw [if_pos q] at e; exact (nomatch e)
  ·rw [if_neg q] at e ⊢; rw [ih e, List.length_cons, Nat.add_right_comm]; rfl
theorem V0 {r : AZ} {rs : List AZ} {n m : Nat} (e : CH m rs r = some n) : ∃ i, n = m + i /\ Mine.getL rs i = some r := by
 induction rs generalizing m with
 | nil => exact (nomatch e)
 | cons x rs ih =>
  rw [CH] at e
  by_cases q : x = r
  ·rw [if_pos q] at e; exact ⟨0, (Option.some.inj e).symm, q ▸ rfl⟩
  ·rw [if_neg q] at e
   obtain ⟨i, h, g⟩ := ih e
   exact ⟨i + 1, by rw [h, Nat.add_right_comm]; rfl, g⟩
theorem UE {r : AZ} {rs : List AZ} {n : Nat} (e : CH 0 rs r = some n) : Mine.getL rs n = some r := by
 obtain ⟨i, h, g⟩ := V0 e
 rw [h, Nat.zero_add]; exact g
noncomputable def Uu {α : Type} (a b : List α) : Prop := ∃ l, b = a ++ l
theorem Uu.refl {α : Type} {a : List α} : Uu a a := ⟨[], (List.append_nil _).symm⟩
theorem Uu.trans {α : Type} {a b c : List α} (x : Uu a b) (y : Uu b c) : Uu a c := by
 obtain ⟨l, rfl⟩ := x
 obtain ⟨m, rfl⟩ := y
 exact ⟨l ++ m, List.append_assoc ..⟩
theorem Uu.get {α : Type} {a b : List α} {n : Nat} {y : α} (x : Uu a b) (e : Mine.getL a n = some y) : Mine.getL b n = some y := by
 obtain ⟨l, rfl⟩ := x; exact Cp e
noncomputable def Eb (T T' : Av) : Prop := Uu T.rows T'.rows /\ Uu T.ds T'.ds /\ Uu T.ws T'.ws /\ Uu T.os T'.os
theorem Eb.refl : Eb T T := ⟨.refl, .refl, .refl, .refl⟩
theorem Eb.trans {T T' T'' : Av} (x : Eb T T') (y : Eb T' T'') : Eb T T'' := ⟨x.1.trans y.1, x.2.1.trans y.2.1, x.2.2.1.trans y.2.2.1, x.2.2.2.trans y.2.2.2⟩
theorem Eb.pos {T T' : Av} {r : AZ} {n : Nat} (x : Eb T T') (e : CH 0 T.rows r = some n) : CH 0 T'.rows r = some n := by
 obtain ⟨l, h⟩ := x.1; rw [h]; exact PB e
theorem Eb.get {T T' : Av} {r : AZ} {n : Nat} (x : Eb T T') (e : Mine.getL T.rows n = some r) : Mine.getL T'.rows n = some r := x.1.get e
theorem Eb.stands {T T' : Av} {j : Int} (x : Eb T T') (e : stands T j = true) : stands T' j = true := by
 cases j with
 | negSucc n => exact (nomatch e)
 | ofNat n =>
  obtain ⟨m, r, h, _, _, g, _⟩ := JJ e
  cases Int.ofNat.inj h
  unfold Lw.stands at e ⊢
  dsimp only at e ⊢
  rw [g] at e
  rw [x.get g]
  exact e
noncomputable def light (T : Av) (j : Int) : Prop := stands T j = true /\ ∃ d w, Mine.getL T.ds j.toNat = some d /\ d <= 20 /\ Mine.getL T.ws j.toNat = some w /\ w <= 1000
theorem Eb.light {T T' : Av} {j : Int} (x : Eb T T') (e : light T j) : light T' j := by
 obtain ⟨s, d, w, g, hd, g', hw⟩ := e
 exact ⟨x.stands s, d, w, x.2.1.get g, hd, x.2.2.1.get g', hw⟩
noncomputable def KL : List Nat := [2, 3, 4, 5, 6]
noncomputable def Put (T : Av) (H : Hp) (r : AZ) (n : Nat) (T' : Av) (H' : Hp) : Prop := CH 0 T'.rows r = some n /\ Eb T T' /\ T'.rows.length <= T.rows.length + 1 /\ H'.length = H.length /\ KT T' H' /\ Ay KL H H'
theorem ay (x : KT T H) {r : AZ} (v : K8 T r) (hd : (Kz T r).1 <= 24) (hw : (Kz T r).2.1 <= 4096) (sm : T.rows.length < 900)
  (q : ∀ n T' H', Put T H r n T' H' -> k (.int (n : Int)) H') : AN [.loc 1, D4 r] H k := by
 cases e : CH 0 T.rows r with
 | some n => exact D8 x e (q n T H ⟨e, .refl, Nat.le_succ _, rfl, x, .refl⟩)
 | none => exact NO x v e hd hw (q _ (T.add r) _ ⟨(V4 e).trans (congrArg some (Nat.zero_add _)), ⟨⟨_, rfl⟩, ⟨_, rfl⟩, ⟨_, rfl⟩, ⟨_, rfl⟩⟩, Nat.le_of_eq (by rw [Av.add, List.length_append]; rfl), JO, S4 x sm, Nat.le_of_eq JO.symm, fun n o h => Lf h⟩)
theorem Zc (x : KT T H) {j : Int} (lj : light T j) (sm : T.rows.length < 900)
  (q : ∀ n T' H', Put T H ⟨5, j, none⟩ n T' H' -> k (.int (n : Int)) H') : CT [.loc 1, .int j] H k := by
 obtain ⟨s, d, w, g, hd, g', hw⟩ := lj
 obtain ⟨o, go⟩ : ∃ o, Mine.getL T.os j.toNat = some o := Am (by rw [x.lo, <- x.ld]; exact Bn g)
 have em : Kz T ⟨5, j, none⟩ = bu T 0 (1, 1, 0) j := rfl
 refine OL (hk x.q (ay (r := ⟨5, j, none⟩) x (.one (.inr rfl) s) ?_ ?_ sm q))
 ·rw [em, bu, g, g', go]
  show (if (1 : Int) < d + 0 then d + 0 else 1) <= 24
  split <;> omega
 ·rw [em, bu, g, g', go]
  show 1 + w <= 4096
  exact yF hw
theorem eG (x : KT T H) {j : Int} (hj : 0 <= j) (sm : T.rows.length < 900)
  (q : ∀ n T' H', Put T H ⟨7, j, none⟩ n T' H' -> k (.int (n : Int)) H') : CC [.loc 1, .int j] H k :=
 Kj (hk x.q (ay (r := ⟨7, j, none⟩) x (.var (.inr rfl) hj) (show (1 : Int) <= 24 by decide) (show (1 : Int) <= 4096 by decide) sm q))
theorem SN (x : KT T H) {j : Int} {n : Nat} (e : CH 0 T.rows ⟨7, j, none⟩ = some n) (q : k (.int (n : Int)) H) : CC [.loc 1, .int j] H k :=
 Kj (hk x.q (D8 (r := ⟨7, j, none⟩) x e q))
theorem KG (x : KT T H) {j : Int} {n : Nat} (e : CH 0 T.rows ⟨6, j, none⟩ = some n) (q : k (.int (n : Int)) H) : Cb [.loc 1, .int j] H k :=
 Rt (hk x.q (D8 (r := ⟨6, j, none⟩) x e q))
theorem Qk (x : KT T H) {j : Int} {l : List Int} {n : Nat} (hj : IJ Ed j = false) (e : CH 0 T.rows ⟨2, j, some l⟩ = some n) (q : k (.int (n : Int)) H) : DF [.loc 1, .int j, .tup (l.map .int)] H k :=
 OJ (bF hj (hk x.q (D8 (r := ⟨2, j, some l⟩) x e q)))
theorem Qi (x : KT T H) {j : Int} {l : List Int} {n : Nat} (hj : IJ Ed j = false) (e : CH 0 T.rows ⟨3, j, some l⟩ = some n) (q : k (.int (n : Int)) H) : DB [.loc 1, .int j, .tup (l.map .int)] H k :=
 OB (bF hj (hk x.q (D8 (r := ⟨3, j, some l⟩) x e q)))
theorem OZ (x : KT T H) {n : Nat} {r : AZ} (e : Mine.getL T.rows n = some r) (q : k (.int (Ht r)) H) : Cv [.loc 1, .int (n : Int)] H k :=
 QN (hk x.q (NN x e (RM q)))
theorem eI (x : KT T H) {n : Nat} {r : AZ} (ha : r.a = 5) (hl : r.l = none) (e : Mine.getL T.rows n = some r) (q : k (.int r.b) H) : Dz [.loc 1, .int (n : Int)] H k := by
 obtain ⟨a, b, l'⟩ := r
 cases hl
 cases ha
 exact UU (hk x.q (NN x e q))
theorem Xk (x : KT T H) {n : Nat} {r : AZ} {l : List Int} (ha : r.a = 2 \/ r.a = 3) (hl : r.l = some l) (e : Mine.getL T.rows n = some r) (q : k (.int r.b) H) : Fg [.loc 1, .int (n : Int)] H k := by
 obtain ⟨a, b, l'⟩ := r
 cases hl
 rcases ha with rfl | rfl <;> exact XM (hk x.q (NN x e q))
theorem Xu (x : KT T H) {n : Nat} {r : AZ} {l : List Int} (ha : r.a = 2 \/ r.a = 3) (hl : r.l = some l) (e : Mine.getL T.rows n = some r) (q : k (.tup (l.map .int)) H) : E4 [.loc 1, .int (n : Int)] H k := by
 obtain ⟨a, b, l'⟩ := r
 cases hl
 rcases ha with rfl | rfl <;> exact UW (hk x.q (NN x e q))
end
section
variable {T : Av} {H : Hp} {k : AV -> Hp -> Prop}
theorem eJ {D : List AV} {a b c : AV} (hd : AB H 32 = some (.inst 397 ou)) (h3 : AB H 33 = some (.list D)) (hD : D.length < 1000) (q : k .none (Ab H 33 (.list (D ++ [.tup [a, b, c]])))) : Dg [.loc 32, a, b, c] H k :=
 QU (hk hd (hk h3 (hk h3 (AK (by exact Q0 hD) q))))
structure Tl (s : Ae) (D : List AV) (H : Hp) : Prop where
 s : AB H 46 = some (.inst 906 s.L)
 d : AB H 32 = some (.inst 397 ou)
 r : AB H 33 = some (.list D)
theorem Oa {s : Ae} {D : List AV} {a c i w ks m at_ : AV} (t : Tl s D H) (hD : D.length < 1000) (q : k .none (Ab H 33 (.list (D ++ [.tup [a, at_, c]])))) : Bq [.loc 46, a, nd i w ks m at_, c] H k :=
 OO (hk t.s (hk t.d (ZH (eJ t.d t.r hD q))))
theorem Xl {s : Ae} {D : List AV} {a c i w ks m at_ : AV} (t : Tl s D H) (hD : D.length < 1000) (q : ∀ x, k x (Ab H 33 (.list (D ++ [.tup [a, at_, c]])))) : DC [.loc 46, a, nd i w ks m at_, c] H k :=
 OC (hk t.s (Oa t hD (mH (q _))))
theorem SI {r : Int} (hr : bx r = true) (q : k (.str (GY r)) H) : Cw [.loc 46, .int r] H k := QO (Ei hr q)
noncomputable def hdI : Option (List Int) -> Int
 | some (x :: _) => x
 | _ => -1
noncomputable def Jr (r : AZ) : Int := if r.a = 2 then (if r.b = 38 then 0 else if r.b = 39 then hdI r.l else -1) else -1
noncomputable def XE (r : AZ) : Int := if r.a = 2 then (if r.b = 35 \/ r.b = 36 then hdI r.l else -1) else -1
noncomputable def Ud (r : AZ) : Prop := r.a = 2 -> ∃ l, r.l = some l /\ (r.b = 35 \/ r.b = 36 \/ r.b = 39 -> ∃ x t, l = x :: t /\ 0 <= x /\ l.length < 1000)
theorem Xw {a b : Int} (h : a ≠ b) : (a != b) = true := bne_iff_ne.mpr h
theorem mu {a b : Int} (h : a = b) : (a != b) = false := by rw [h, bne, beq_self_eq_true]; rfl
theorem mw {r : AZ} {l : List Int} {j : Int} (h : r.a = 2) (h' : r.b ≠ 38) (h'' : (r.b == 39) = true) (hl : r.l = some l) (e : l.head? = some j) : Jr r = j := by
 unfold Jr
 rw [if_pos h, if_neg h', if_pos (eq_of_beq h''), hl]
 cases l with
 | nil => exact (nomatch e)
 | cons x t => exact Option.some.inj e
theorem my {r : AZ} (h : r.a = 2) (h' : r.b ≠ 38) (h'' : r.b ≠ 39) : Jr r = -1 := by unfold Jr; rw [if_pos h, if_neg h', if_neg h'']
theorem mz {r : AZ} (h : r.a = 2) (h' : r.b = 38) : Jr r = 0 := by unfold Jr; rw [if_pos h, if_pos h']
theorem ot {l : List Int} {j : Int} (e : l.head? = some j) : Mine.getL (l.map AV.int) 0 = some (.int j) := by
 cases l with
 | nil => exact (nomatch e)
 | cons x t => cases e; rfl
theorem kI {a b : Int} (e : a = b) (q : k (.int a) H) : k (.int b) H := e ▸ q
theorem NP {s : Ae} (hs : AB H 46 = some (.inst 906 s.L)) (x : KT T H) {n : Nat} {r : AZ} (e : Mine.getL T.rows n = some r) (fr : Ud r) (q : k (.int (Jr r)) H) : CL [.loc 46, .int (n : Int)] H k :=
 L8 (hk hs (OZ x e (bI (fun z => kI (k := k) (if_neg (bne_iff_ne.mp z) : Jr r = -1) q) fun z => (fr (Classical.not_not.mp fun h => nomatch (Xw h).symm.trans z)).elim fun l hf => by
  have ha : r.a = 2 := Classical.not_not.mp fun h => nomatch (Xw h).symm.trans z
  exact hk hs (Xk x (.inl ha) hf.1 e (bI (fun z => kI (k := k) (mz ha (eq_of_beq z)) q) fun z => hk hs (Xk x (.inl ha) hf.1 e (bI (fun z' => hk hs (Xu x (.inl ha) hf.1 e (by
   obtain ⟨y, t, e, hy, hl⟩ := hf.2 (.inr (.inr (eq_of_beq z')))
   have e' : l.head? = some y := e ▸ rfl
   exact QD (i := 0) rfl (by rw [List.length_map]; exact Q0 hl) (ot e') (kI (k := k) (mw ha (Az z) z' hf.1 e') q)))) fun z' => kI (k := k) (my ha (Az z) (Az z')) q)))))))
theorem eP {r : AZ} (fr : Ud r) : Jr r = -1 \/ 0 <= Jr r := by
 unfold Jr
 by_cases ha : r.a = 2
 ·rw [if_pos ha]
  obtain ⟨l, hl, hf⟩ := fr ha
  by_cases h : r.b = 38
  ·rw [if_pos h]; exact .inr (by decide)
  ·rw [if_neg h]
   by_cases h : r.b = 39
   ·rw [if_pos h, hl]
    obtain ⟨y, t, rfl, hy, _⟩ := hf (.inr (.inr h))
    exact .inr hy
   ·rw [if_neg h]; exact .inl rfl
 ·rw [if_neg ha]; exact .inl rfl
noncomputable def Wj (n : Int) (at_ : AV) (ws : List AV) : AV := .tup [.int n, at_, .tup ws]
noncomputable def RA (r : AZ) (n : Nat) (at_ : AV) : List AV := if Jr r = -1 then [Wj 1983 at_ [.str (GY (n : Int))]] else []
noncomputable def PC (j : Int) : Int := if j = -1 then 0 else j
theorem Zd {s : Ae} {D : List AV} (t : Tl s D H) (x : KT T H) (hD : D.length < 1000)
  {n : Nat} {r : AZ} (e : Mine.getL T.rows n = some r) (e0 : n = 0 -> Jr r = -1) (fr : Ud r) (sm : bx (n : Int) = true) {i w ks m at_ : AV}
  (q : ∀ H', H'.length = H.length -> BA 33 H H' -> AB H' 33 = some (.list (D ++ RA r n at_)) -> k (.int (PC (Jr r))) H') : DG [.loc 46, .int (n : Int), nd i w ks m at_] H k := by
 unfold RA PC at q
 by_cases z : Jr r = -1
 ·rw [if_pos z] at q
  rw [if_pos z] at q
  refine JW (bI (fun y => NP t.s x e fr (z ▸ ?_)) fun y => ?_)
  ·exact hk t.s (SI sm (Xl t hD fun y => q _ AF BA.set (AD t.r)))
  ·exact hk t.s (SI sm (Xl t hD fun y => q _ AF BA.set (AD t.r)))
 ·rw [if_neg z] at q
  rw [if_neg z] at q
  refine JW (bI (fun y => NP t.s x e fr (bF (decide_eq_false (by have := eP fr; exact yC this z)) (q _ rfl .refl (by rw [List.append_nil]; exact t.r)))) fun y => absurd (e0 ?_) z)
  exact Int.ofNat.inj (Classical.not_not.mp fun h => nomatch (Xw h).symm.trans y)
end
section
set_option genInjectivity false
variable {T : Av} {H : Hp} {k : AV -> Hp -> Prop}
noncomputable def bp (b : Int × List Int) : AV := .tup [.int b.1, .tup (b.2.map .int)]
structure Me where
 mid : Nat
 tid : Nat
 nm : List Nat
 ac : AV
 fl : Int
 ng : AV
 gn : AV
 gb : List (Int × List Int)
 ret : Nat
 ps : List Int
 pn : List (List Nat)
 pf : List Int
noncomputable def Me.L (m : Me) : List (Nat × AV) := [(Cn, .int (m.mid : Int)), (Bc, .int (m.tid : Int)), (Ba, .str m.nm), (JT, m.ac), (CY, .int m.fl), (Lr, m.ng), (HN, m.gn), (Es, .lst (m.gb.map bp)), (Bt, .int (m.ret : Int)), (Ap, .tup (m.ps.map .int)), (Fv, .tup (m.pn.map .str)), (Fw, .tup (m.pf.map .int)), (Iq, .none), (Ls, .int 0)]
noncomputable def N9 (T : Av) (p : Int) : Bool := match Mine.getL T.rows p.toNat with
 | some r => Ht r == 5
 | none => false
noncomputable def N4 (T : Av) (p : Int) : Prop := ∃ (n : Nat) (r : AZ), p = (n : Int) /\ Mine.getL T.rows n = some r
theorem TX {n : Nat} {r : AZ} (e : Mine.getL T.rows n = some r) : N9 T (n : Int) = (Ht r == 5) := by
 unfold N9; rw [Int.toNat_natCast, e]
noncomputable def CV (T : Av) (ps : List Int) (c : Int) (at_ nm_ : AV) : List AV := bif ps.any (N9 T) then [Wj c at_ [nm_]] else []
theorem Er {ps : List Int} {c : Int} {at_ nm_ : AV} : (CV T ps c at_ nm_).length <= 1 := by unfold CV; cases ps.any (N9 T) <;> first | exact Nat.zero_le _ | exact Nat.le_refl _
theorem Ke {n : Nat} {r : AZ} {ps : List Int} {c : Int} {at_ nm_ : AV} {b : Bool} (e : Mine.getL T.rows n = some r) (h : (Ht r == 5) = b) : CV T ((n : Int) :: ps) c at_ nm_ = bif b then [Wj c at_ [nm_]] else CV T ps c at_ nm_ := by
 unfold CV; rw [List.any_cons, TX e, h]; cases b <;> rfl
theorem Wq {s : Ae} {mloc : Nat} {m : Me} {c : Int} {i w ks mo at_ : AV} {D : List AV} (t : Tl s D H) (hm : AB H mloc = some (.inst 292 m.L)) (x : KT T H) (hD : D.length < 1000) {all : List AV} {K : Fl -> Ag -> Hp -> Prop} (hK : ∀ F H, k .none H -> K .next F H) (hK' : ∀ F H, k .none H -> K (.ret .none) F H) {ps : List Int} : ∀ {f4 : Option AV}, (∀ p ∈ ps, N4 T p) ->
  (∀ H', H'.length = H.length -> BA 33 H H' -> AB H' 33 = some (.list (D ++ CV T ps c at_ (.str m.nm))) -> k .none H') ->
  CN (.ft all) (gN 4) (AG (Iw (BK (AL (Ai (AA (AI 906 BW (vL 0)) (AA (vL 4) AQ)) Cv) (vC (.int 5)) Qv)) (AG (BE (DH 906 JR (vL 0) (AA (vL 2) (AA (vL 3) (AA (Au (AA (AI 292 Ba (vL 1)) AQ)) AQ))) Bq)) (AG U4 AS)) AS) AS) all K (ps.map .int) [some (.loc 46), some (.loc mloc), some (.int c), some (nd i w ks mo at_), f4] H := by
 induction ps with
 | nil => exact fun hp q => hK _ _ (q H rfl .refl (by rw [t.r]; exact congrArg (fun l => some (AO.list l)) (List.append_nil _).symm))
 | cons p ps ih =>
  intro f4 hp q
  obtain ⟨n, r, rfl, e⟩ := hp p (.head _)
  refine hk t.s (OZ x e (bI (fun z => ?_) fun z => ?_))
  ·rw [Ke e z] at q
   exact hk t.s (hk hm (Oa t hD (hK' _ _ (q _ AF BA.set (AD t.r)))))
  ·rw [Ke e z] at q
   exact ih (fun q hq => hp q (.tail _ hq)) q
theorem ar {s : Ae} {mloc : Nat} {m : Me} {c : Int} {i w ks mo at_ : AV} {D : List AV} (t : Tl s D H) (hm : AB H mloc = some (.inst 292 m.L)) (x : KT T H) (hD : D.length < 1000) (hp : ∀ p ∈ m.ps, N4 T p)
  (q : ∀ H', H'.length = H.length -> BA 33 H H' -> AB H' 33 = some (.list (D ++ CV T m.ps c at_ (.str m.nm))) -> k .none H') : DD [.loc 46, .loc mloc, .int c, nd i w ks mo at_] H k :=
 OD (hk hm (Wq t hm x hD (fun _ _ h => h) (fun _ _ h => h) hp q))
end
section
set_option genInjectivity false
variable {T : Av} {H : Hp} {k : AV -> Hp -> Prop}
theorem AAm {i w ks at_ : AV} {m j : Int} (q : k (.bool (Builtin.bitAnd m j != 0)) H) : LN [nd i w ks (.int m) at_, .int j] H k := aV q
noncomputable def Ob (s : Int) : Nat := if s = 91 then 4 else if s = 99 then 2 else 0
theorem Xs {s : Int} {w m at_ b : AV} {ks : List AV} (h : s = 91 \/ s = 99 \/ s = 96) (hl : ks.length < 1000) (e : Mine.getL ks (Ob s) = some b) (q : k b H) : D0 [nd (.int s) w (.lst ks) m at_] H k := by
 have hl : ks.length < 100000 := by exact Q0 hl
 rcases h with rfl | rfl | rfl
 ·exact J8 (QD (i := 4) rfl hl e q)
 ·exact J8 (QD (i := 2) rfl hl e q)
 ·exact J8 (QD (i := 0) rfl hl e q)
theorem Ay.only {S : List Nat} {a : Nat} {H H' H'' : Hp} (b : Ay S H H') (o : BA a H' H'') (h : a ∈ S) : Ay S H H'' := b.trans (o.but h)
theorem BA.sub {a b : Nat} {H H' : Hp} (o : BA a H H') : Ay [a, b] H H' := o.but (.head _)
theorem Ay.put {S : List Nat} {a : Nat} {H H' : Hp} {o : AO} (x : Ay S H H') (h : a ∈ S) : Ay S H (Ab H' a o) := x.trans (Ay.set h)
structure Fn where
 j : Nat
 mid : Nat
 f : Nat
 this : Int
 ret : Nat
 at_ : AV
noncomputable def Fn.L (f : Fn) (s e : Int) : List (Nat × AV) := fnL (.int (f.j : Int)) (.int (f.mid : Int)) (.loc (f.f + 1)) (.loc (f.f + 2)) (.int f.this) (.int (f.ret : Int)) (.int 0) (.int s) (.int e) f.at_
noncomputable def Rp (late : Bool) (r : AZ) : Bool := late || XE r == -1
noncomputable def lY (r : Bool) (n : Nat) (at_ nm_ : AV) : List AV := bif r then [Wj 1624 at_ [nm_, .str (GY (n : Int))]] else []
noncomputable def PG (T : Av) (m : Me) (r : AZ) (late st : Bool) (at_ : AV) : List AV :=
 (bif late then RA r m.ret at_ ++ CV T m.ps 1988 at_ (.str m.nm) else []) ++ bif st then CV T m.ps 1623 at_ (.str m.nm) ++ lY (Rp late r) m.ret at_ (.str m.nm) else []
noncomputable def UJ (late st : Bool) : Int := bif st then 1 else bif late then 2 else 0
noncomputable def UK (late st : Bool) (r : AZ) : Int := bif st then (bif Rp late r then 0 else XE r) else bif late then PC (Jr r) else -1
structure Ss (T : Av) (m : Me) (r : AZ) (mloc f : Nat) (H : Hp) : Prop where
 x : KT T H
 g : AB H mloc = some (.inst 292 m.L)
 p : ∀ p ∈ m.ps, N4 T p
 e : Mine.getL T.rows m.ret = some r
 fr : Ud r
 z : m.ret = 0 -> Jr r = -1
 sm : bx (m.ret : Int) = true
 f63 : 63 <= f
 m63 : 63 <= mloc
 mf : mloc ≠ f
theorem KT.but {S : List Nat} {H H' : Hp} (x : KT T H) (b : Ay S H H') (h : ∀ n, 1 <= n -> n <= 6 -> n ∉ S) : KT T H' := x.keep fun n h1 h6 o e => b.2 n o (h n h1 h6) e
theorem HQ {n a f : Nat} (h : n ≠ a) (h' : n ≠ f) : n ∉ [a, f] := fun z => by cases z with
 | head => exact h rfl
 | tail _ z => exact h' (List.mem_singleton.mp z)
theorem L0 {n a b c : Nat} (h : n ≠ a) (h1 : n ≠ b) (h2 : n ≠ c) : n ∉ [a, b, c] := fun z => by cases z with
 | head => exact h rfl
 | tail _ z => exact HQ h1 h2 z
theorem oj {n a b c d : Nat} (h : n ≠ a) (h1 : n ≠ b) (h2 : n ≠ c) (h3 : n ≠ d) : n ∉ [a, b, c, d] := fun z => by cases z with
 | head => exact h rfl
 | tail _ z => exact L0 h1 h2 h3 z
theorem Ss.but {m : Me} {r : AZ} {mloc f : Nat} {H' : Hp} (x : Ss T m r mloc f H) (b : Ay [33, f] H H') : Ss T m r mloc f H' :=
 { x with x := x.x.but b fun n h1 h6 => HQ (by exact Q94 h6) (by have := x.f63; exact bG this h6), g := b.2 _ _ (HQ (by have := x.m63; exact nJ this) x.mf) x.g }
theorem Tl.but {s : Ae} {D D' : List AV} {f : Nat} {H' : Hp} (t : Tl s D H) (f63 : 63 <= f) (b : Ay [33, f] H H') (g : AB H' 33 = some (.list D')) : Tl s D' H' :=
 ⟨b.2 _ _ (HQ (by decide) (by exact Q5 f63)) t.s, b.2 _ _ (HQ (by decide) (by omega)) t.d, g⟩
noncomputable def sy : VS := (AG (BE (DH 906 JR (vL 0) (AA (vC (.int 1624)) (AA (vL 3) (AA (Au (AA (AI 292 Ba (vL 1)) (AA (DH 906 RX (vL 0) (AA (AI 292 Bt (vL 1)) AQ) Cw) AQ))) AQ))) Bq)) (AG (C7 446 HP (vC (.int 0)) (vL 2)) AS))
noncomputable def sq : VS := (AG (C7 446 E9 (vC (.int 1)) (vL 2)) AS)
theorem aU {late : Bool} {r : AZ} (h : XE r = -1) : Rp late r = true := by rw [Rp, h]; exact Bool.or_true _
theorem kU {late : Bool} (z : ((bif late then 2 else 0 : Int) == 2) = true) : late = true := by cases late; exact nomatch z; rfl
theorem kT {late : Bool} (z : ((bif late then 2 else 0 : Int) == 2) = false) : late = false := by cases late; rfl; exact nomatch z
theorem uk {b : Int} (z : (decide (35 = b) || (decide (36 = b) || false)) = false) : ¬ (b = 35 \/ b = 36) := fun h => by rcases h with rfl | rfl <;> exact nomatch z
theorem mF {b : Int} (z : (decide (35 = b) || (decide (36 = b) || false)) = true) : b = 35 \/ b = 36 := by
 rw [Bool.or_false, Bool.or_eq_true, decide_eq_true_iff, decide_eq_true_iff] at z
 exact z.imp Eq.symm Eq.symm
theorem eH {s : Ae} {D : List AV} {mloc f : Nat} {m : Me} {r : AZ} {late : Bool} {F : Fn} {e0 : Int} {i w ks mo at_ : AV} (t : Tl s D H) (hD : D.length < 900) (y : Ss T m r mloc f H) (hf : AB H f = some (.inst 446 (F.L (bif late then 2 else 0) e0)))
  (q : ∀ H', Ay [33, f] H H' -> AB H' 33 = some (.list (D ++ (CV T m.ps 1623 at_ (.str m.nm) ++ lY (Rp late r) m.ret at_ (.str m.nm)))) -> AB H' f = some (.inst 446 (F.L 1 (bif Rp late r then 0 else XE r))) -> k .none H') : Bf [.loc 46, .loc mloc, .loc f, nd i w ks mo at_] H k := by
 refine L4 (ar t y.g y.x (by exact vd hD) y.p fun H1 l1 o1 g1 => ?_)
 have b1 : Ay [33, f] H H1 := o1.sub
 have y1 := y.but b1
 have f63 := y.f63
 have t1 := t.but f63 b1 g1
 have f1 := o1.2 f _ (by exact nJ f63) hf
 have hD1 : (D ++ CV T m.ps 1623 at_ (.str m.nm)).length < 1000 := by
  have := Er (T := T) (ps := m.ps) (c := 1623) (at_ := at_) (nm_ := .str m.nm)
  rw [List.length_append]; exact nZ hD this
 have bad : Rp late r = true -> sy [some (.loc 46), some (.loc mloc), some (.loc f), some (nd i w ks mo at_)] H1 (Ro sq (EP k)) := fun z => by
  rw [z, <- List.append_assoc] at q
  have f2 := sn (n := 33) (o := .list (D ++ CV T m.ps 1623 at_ (.str m.nm) ++ [Wj 1624 at_ [.str m.nm, .str (GY (m.ret : Int))]])) (show f ≠ 33 by exact nJ f63) f1
  refine hk t1.s (hk y1.g (hk t1.s (hk y1.g (SI y1.sm (Oa t1 hD1 (hk f2 (hk (AD f2) (q _ (((b1.put (.head _)).put (.tail _ (.head _))).put (.tail _ (.head _))) ?_ (AD (AD f2))))))))))
  exact sn (by exact fR f63) (sn (by exact fR f63) (AD t1.r))
 refine hk f1 (bI (fun z => bad (by rw [kU z]; rfl)) fun z => hk t1.s (hk y1.g (OZ y1.x y1.e (bI (fun z' => bad (aU (if_neg (bne_iff_ne.mp z')))) fun z' => ?_))))
 have h2 : r.a = 2 := Classical.not_not.mp fun h => nomatch (Xw h).symm.trans z'
 obtain ⟨l, hl, hfl⟩ := y1.fr h2
 refine hk t1.s (hk y1.g (Xk y1.x (.inl h2) hl y1.e (bI (fun v => bad (aU ((if_pos h2).trans (if_neg (uk ((Bool.not_eq_true' _).mp v)))))) fun v => ?_)))
 ·have h := mF ((Bool.not_eq_false' _).mp v)
  obtain ⟨y', u, e, hz, hl'⟩ := hfl (h.imp id .inl)
  have ei : XE r = y' := by rw [XE, if_pos h2, if_pos h, hl, e]; rfl
  have nb : Rp late r = false := by rw [Rp, ei, kT z]; exact SR (by omega)
  rw [nb, ei] at q
  exact hk t1.s (hk y1.g (Xu y1.x (.inl h2) hl y1.e (QD (i := 0) rfl (by rw [List.length_map]; exact Q0 hl') (ot (e ▸ rfl)) (hk f1 (hk (AD f1) (q _ ((b1.put (.tail _ (.head _))).put (.tail _ (.head _))) (sn (by exact fR f63) (sn (by exact fR f63) (g1.trans (congrArg (fun l => some (AO.list (D ++ l))) (List.append_nil _).symm)))) (AD (AD f1))))))))
noncomputable def pIt : VS := (AG (Iw (BK (Ai (AA (Ai (AA (vL 3) AQ) D0) AQ) Em)) (AG (BE (Ai (AA (vL 0) (AA (vL 1) (AA (vL 2) (AA (vL 3) AQ)))) Bf)) AS) AS) AS)
theorem Ui {s : Ae} {D : List AV} {mloc f : Nat} {m : Me} {r : AZ} {late st : Bool} {F : Fn} {so mods : Int} {w at_ b : AV} {ks : List AV} {n : Nat} (t : Tl s D H) (hD : D.length < 800) (y : Ss T m r mloc f H) (hf : AB H f = some (.inst 446 (F.L 0 (-1))))
  (hsr : so = 91 \/ so = 99 \/ so = 96) (hkl : ks.length < 1000) (eb : Mine.getL ks (Ob so) = some b) (tb : Tr b st n) (nb : n < 40000) (l1 : so = 91 -> (Builtin.bitAnd mods 4096 != 0) = late) (l2 : so ≠ 91 -> late = false)
  (q : ∀ H', Ay [33, f] H H' -> AB H' 33 = some (.list (D ++ PG T m r late st at_)) -> AB H' f = some (.inst 446 (F.L (UJ late st) (UK late st r))) -> k .none H') : Cd [.loc 46, .loc mloc, .loc f, nd (.int so) w (.lst ks) (.int mods) at_] H k := by
 have f63 := y.f63
 have step : ∀ (H1 : Hp) (D1 : List AV), Ay [33, f] H H1 -> AB H1 33 = some (.list D1) -> D1.length < 900 -> D1 = D ++ (bif late then RA r m.ret at_ ++ CV T m.ps 1988 at_ (.str m.nm) else []) -> AB H1 f = some (.inst 446 (F.L (bif late then 2 else 0) (bif late then PC (Jr r) else -1))) ->
   pIt [some (.loc 46), some (.loc mloc), some (.loc f), some (nd (.int so) w (.lst ks) (.int mods) at_)] H1 (EP k) := fun H1 D1 b1 g1 hD1 eD gf => by
  refine Xs hsr hkl eb (Xj tb nb fun H2 k2 => ?_)
  have b2 : Ay [33, f] H H2 := b1.trans k2.but
  have g2 := k2.2 _ _ g1
  have f2 := k2.2 _ _ gf
  cases st with
  | false => exact q H2 b2 (by rw [g2, eD]; exact congrArg (fun l => some (AO.list (D ++ l))) (List.append_nil _).symm) f2
  | true => exact eH (t.but f63 b2 g2) hD1 (y.but b2) f2 fun H3 b3 g3 gf3 => q H3 (b2.trans b3) (by rw [g3, eD, List.append_assoc]; rfl) gf3
 have nolate : late = false -> pIt [some (.loc 46), some (.loc mloc), some (.loc f), some (nd (.int so) w (.lst ks) (.int mods) at_)] H (EP k) := fun z => by
  subst z
  exact step H D .refl t.r (by exact nY hD) (List.append_nil _).symm hf
 refine L2 (bI (fun z => aV ?_) fun z => nolate (l2 (Az z)))
 have l1 := l1 (eq_of_beq z)
 cases late with
 | false => exact bF l1 (nolate rfl)
 | true =>
  have b1 : Ay [33, f] H (Ab H f (.inst 446 (F.L 2 (-1)))) := Ay.set (.tail _ (.head _))
  have t1 := t.but f63 b1 (sn (by exact fR f63) t.r)
  have y1 := y.but b1
  refine bT l1 (hk hf (hk y1.g (Zd t1 y1.x (by omega) y1.e y1.z y1.fr y1.sm fun H2 e2 o2 g2 => ?_)))
  have f2 := o2.2 f _ (by exact nJ f63) (AD hf)
  have b2 : Ay [33, f] H H2 := b1.trans o2.sub
  have b3 := b2.put (o := .inst 446 (F.L 2 (PC (Jr r)))) (a := f) (.tail _ (.head _))
  have t3 := t.but f63 b3 (sn (by exact fR f63) g2)
  have y3 := y.but b3
  have la : (RA r m.ret at_).length <= 1 := by unfold RA; split; exact Nat.le_refl _; exact Nat.zero_le _
  refine hk f2 (ar t3 y3.g y3.x (by rw [List.length_append]; omega) y3.p fun H4 e4 o4 g4 => ?_)
  have lr := Er (T := T) (ps := m.ps) (c := 1988) (at_ := at_) (nm_ := .str m.nm)
  exact step H4 _ (b3.trans o4.sub) g4 (by rw [List.length_append, List.length_append]; omega) (List.append_assoc ..) (o4.2 f _ (by exact nJ f63) (AD f2))
end
section
variable {T : Av} {H : Hp} {k : AV -> Hp -> Prop}
theorem XQ {α : Type} {H l : List α} {n : Nat} : Mine.getL (H ++ l) (H.length + n) = Mine.getL l n := by
 induction H with
 | nil => rw [List.nil_append, List.length_nil, Nat.zero_add]
 | cons x H ih => rw [List.cons_append, List.length_cons, Nat.add_right_comm]; exact ih
theorem K7 {H l : Hp} {n : Nat} : AB (H ++ l) (H.length + n) = AB l n := by unfold AB; rw [XQ]
theorem Kl {H l : Hp} : AB (H ++ l) H.length = AB l 0 := K7 (n := 0)
theorem mO {H l : Hp} {x : Option AO} {o : AO} : Ab (H ++ x :: l) H.length o = H ++ some o :: l := by
 unfold Ab
 induction H with
 | nil => rfl
 | cons y H ih => exact congrArg (y :: ·) ih
theorem Aj {H l : Hp} : AY H (H ++ l) := ⟨by rw [List.length_append]; exact Nat.le_add_right .., fun n o e => BU.mpr (Cp (BU.mp e))⟩
theorem C1 {C a : Nat} {y : AV} {H r : Hp} {l : List (Nat × AV)} {k : Hp -> Prop} (hl : Nat.ble l.length 499 = true) (h : k (H ++ some (.inst C (Im l a y)) :: r)) : hK (AB (H ++ some (.inst C l) :: r) H.length) (fA C a H.length y (H ++ some (.inst C l) :: r) k) :=
 hk Kl (EL (bA C l) (Ei hl (by rw [mO]; exact h)))
theorem HG {C a : Nat} {o : AO} {H r : Hp} {l : List (Nat × AV)} {k : Hp -> Prop} (hl : Nat.ble l.length 499 = true) (h : k (H ++ some (.inst C (Im l a (.loc (H.length + (r.length + 1))))) :: (r ++ [some o]))) : hK (AB (Af (H ++ some (.inst C l) :: r) o) H.length) (fA C a H.length (.loc (H ++ some (.inst C l) :: r).length) (Af (H ++ some (.inst C l) :: r) o) k) := by
 rw [show Af (H ++ some (.inst C l) :: r) o = H ++ some (.inst C l) :: (r ++ [some o]) from List.append_assoc .., List.length_append]
 exact C1 hl h
theorem vG {a b c d : AV} (q : k (.loc H.length) (H ++ [some (.inst 446 (fnL a b (.loc (H.length + 1)) (.loc (H.length + 2)) (.int (-1)) (.int 0) c (.int 0) (.int (-1)) d)), some (.list []), some (.list [])])) : Ml [a, b, c, d] H k :=
 uq (UY (C1 rfl (C1 rfl (HG rfl (HG rfl (C1 rfl (C1 rfl (C1 rfl (C1 rfl (C1 rfl (C1 rfl (C1 rfl q))))))))))))
theorem mj {a b c d e : AV} (q : k (.loc H.length) (H ++ [some (.inst 425 (Tw a b c d e (.int (-1)) (.int 0)))])) : Jx [a, b, c, d, e] H k :=
 mJ (R3 (C1 rfl (C1 rfl (C1 rfl (C1 rfl (C1 rfl (C1 rfl (C1 rfl q))))))))
theorem BA.fresh {a : Nat} {S : List Nat} {H H' H'' : Hp} (b : Ay S H H') (o : BA a H' H'') (h : H.length <= a) : Ay S H H'' := ⟨Nat.le_trans b.1 o.1, fun n ao hn e => o.2 n ao (fun z => by have := AX e; omega) (b.2 n ao hn e)⟩
end
section
variable {T : Av} {H : Hp} {k : AV -> Hp -> Prop}
theorem Xp {fns : List AV} {M : List (Int × AV)} {mid : Nat} {at_ : AV} (hu : AB H 28 = some (.inst 467 bZ)) (h29 : AB H 29 = some (.list fns)) (h31 : AB H 31 = some (.idict M)) (hm : 0 < mid) (lf : fns.length < 1000) (lM : M.length < 1000)
  (q : ∀ H', H'.length = H.length + 3 -> Ay [29, 31] H H' -> AB H' 29 = some (.list (fns ++ [.loc H.length])) -> AB H' 31 = some (.idict (D5 M mid (.int (fns.length : Int)))) ->
   AB H' H.length = some (.inst 446 (Fn.L ⟨fns.length, mid, H.length, -1, 0, at_⟩ 0 (-1))) -> AB H' (H.length + 1) = some (.list []) -> AB H' (H.length + 2) = some (.list []) -> k (.int (fns.length : Int)) H') : Eo [.loc 28, .int (mid : Int), .int 0, at_] H k := by
 have lt29 := AX h29
 have lt31 := AX h31
 refine XN <| hk hu <| hk h29 <| AK (by exact Q0 lf) <| hk hu <| hk h29 <| vG <| hk (Aj.2 _ _ h29) <| AK (by exact Q0 lf) <| bT (decide_eq_true (by exact vZ hm)) <| hk (sn (by decide) (Aj.2 _ _ hu)) <| hk (sn (by decide) (Aj.2 _ _ h31)) <| AK (by exact Q0 lM) ?_
 exact q _ (AF.trans (AF.trans (List.length_append ..))) ((Aj.but.put (.head _)).put (.tail _ (.head _))) (sn (by decide) (AD (Aj.2 _ _ h29))) (AD (sn (by decide) (Aj.2 _ _ h31))) (sn (by omega) (sn (by omega) Kl)) (sn (by omega) (sn (by omega) K7)) (sn (by omega) (sn (by omega) K7))
theorem Uj {vs fns ls : List AV} {F : Fn} {a b : Int} {nm_ kd fl : AV} (hu : AB H 28 = some (.inst 467 bZ)) (h30 : AB H 30 = some (.list vs)) (h29 : AB H 29 = some (.list fns)) (ef : Mine.getL fns F.j = some (.loc F.f)) (hj : 0 < F.j) (hf : AB H F.f = some (.inst 446 (F.L a b))) (hl : AB H (F.f + 1) = some (.list ls)) (f63 : 63 <= F.f) (lv : vs.length < 1000) (lf : fns.length < 1000) (lls : ls.length < 1000)
  (q : ∀ H', H'.length = H.length + 1 -> Ay [30, F.f + 1] H H' -> AB H' 30 = some (.list (vs ++ [.loc H.length])) -> AB H' (F.f + 1) = some (.list (ls ++ [.int (vs.length : Int)])) -> AB H' H.length = some (.inst 425 (Tw (.int (vs.length : Int)) nm_ kd fl (.int (F.j : Int)) (.int (-1)) (.int 0))) -> k (.int (vs.length : Int)) H') : E3 [.loc 28, .int (F.j : Int), nm_, kd, fl] H k := by
 have lt30 := AX h30
 have ltll := AX hl
 refine UT <| hk hu <| hk h30 <| AK (by exact Q0 lv) <| hk hu <| hk h30 <| mj <| hk (Aj.2 _ _ h30) <| AK (by exact Q0 lv) <| bT (decide_eq_true (by exact vZ hj)) <| hk (sn (by decide) (Aj.2 _ _ hu)) <| hk (sn (by decide) (Aj.2 _ _ h29)) <| QD rfl (by exact Q0 lf) ef <| hk (sn (by exact v5 f63) (Aj.2 _ _ hf)) <| hk (sn (by exact pG f63) (Aj.2 _ _ hl)) <| hk (sn (by exact pG f63) (Aj.2 _ _ hl)) <| AK (by exact Q0 lls) ?_
 exact q _ (AF.trans (AF.trans (List.length_append ..))) ((Aj.but.put (.head _)).put (.tail _ (.head _))) (sn (by omega) (AD (Aj.2 _ _ h30))) (AD (sn (by exact pG f63) (Aj.2 _ _ hl))) (sn (by omega) (sn (by omega) Kl))
end
section
set_option genInjectivity false
variable {T : Av} {H : Hp} {k : AV -> Hp -> Prop}
noncomputable def Ld (s : Ae) (tid mid tp sc f : Nat) (st : Int) : Ae := { s with owner_ := .int (tid : Int), mid_ := .int (mid : Int), tparams_ := .loc tp, scopes_ := .loc sc, rows_ := .loc (sc + 1), closed_ := .loc (sc + 2), loops_ := .lst [], deep_ := .int 0, static_ := .int st, init_ := .int 0, checked_ := .int 0, free_ := .int 0, fn_ := .loc f }
structure De (s : Ae) (tid mid tp sc : Nat) (st a b : Int) (F : Fn) (fns : List AV) (hd e1 : Nat) (H : Hp) : Prop where
 gs : AB H 46 = some (.inst 906 (Ld s tid mid tp sc F.f st).L)
 gsc : AB H sc = some (.list [.loc hd])
 grw : AB H (sc + 1) = some (.list [.int 0])
 gcl : AB H (sc + 2) = some (.idict [(1, .loc e1)])
 ge : AB H e1 = some (.sdict [])
 gu : AB H 28 = some (.inst 467 bZ)
 gfs : AB H 29 = some (.list fns)
 ef : Mine.getL fns F.j = some (.loc F.f)
 gf : AB H F.f = some (.inst 446 (F.L a b))
 hj : 0 < F.j
 lf : fns.length < 1000
 c : 63 <= sc /\ sc + 3 = F.f /\ F.f + 2 < hd /\ hd < e1
variable {s : Ae} {tid mid tp sc : Nat} {st a b : Int} {F : Fn} {fns : List AV} {hd e1 : Nat}
theorem De.keep {H' : Hp} (d : De s tid mid tp sc st a b F fns hd e1 H) (h : ∀ n o, n ≠ 30 -> n ≠ F.f + 1 -> n ≠ F.f + 2 -> n ≠ hd -> AB H n = some o -> AB H' n = some o) : De s tid mid tp sc st a b F fns hd e1 H' := by
 have := d.c
 exact { d with gs := h _ _ (by omega) (by omega) (by omega) (by omega) d.gs, gsc := h _ _ (by exact v5 this.1) (by omega) (by omega) (by omega) d.gsc, grw := h _ _ (by exact pG this.1) (by omega) (by omega) (by omega) d.grw, gcl := h _ _ (by omega) (by omega) (by omega) (by omega) d.gcl, ge := h _ _ (by exact ye this.1 this.2.2.1 this.2.1 this.2.2.2) (by omega) (by exact yd this.2.2.1 this.2.2.2) (by omega) d.ge, gu := h _ _ (by omega) (by omega) (by omega) (by omega) d.gu, gfs := h _ _ (by omega) (by omega) (by omega) (by omega) d.gfs, gf := h _ _ (by exact yc this.1 this.2.1) (by exact nO) (by exact pQ) (by omega) d.gf }
theorem ZW {nm_ : List Nat} (d : De s tid mid tp sc st a b F fns hd e1 H) (q : k (.bool false) (Af H (.sdict []))) : By [.loc 46, .str nm_] H k :=
 K1 <| hk d.gs <| hk d.gsc <| hk d.gs <| hk d.gcl <| hk d.gs <| hk d.gsc <| hk (AY.add.2 _ _ d.gcl) <| hk (AY.add.2 _ _ d.ge) q
theorem FC {s : List Nat} {x : AV} {l : List (List Nat × AV)} (e : Ao l s = none) : O8 l s x = l ++ [(s, x)] := by
 induction l with
 | nil => rfl
 | cons p r ih =>
  obtain ⟨a, y⟩ := p
  show (match Gv a s with | true => _ | false => (a, y) :: O8 r s x) = _
  change (match Gv a s with | true => some y | false => Ao r s) = none at e
  cases h : Gv a s with
  | true => rw [h] at e; exact (nomatch e)
  | false => rw [h] at e; exact congrArg ((a, y) :: ·) (ih e)
theorem Uk {nm_ : List Nat} {kd fl : AV} {vs ls : List AV} {NM : List (List Nat × AV)} (d : De s tid mid tp sc st a b F fns hd e1 H) (hhd : AB H hd = some (.sdict NM)) (no : Ao NM nm_ = none) (h30 : AB H 30 = some (.list vs)) (hl : AB H (F.f + 1) = some (.list ls)) (lv : vs.length < 1000) (lls : ls.length < 1000) (ln : NM.length < 1000)
  (q : ∀ v H', H.length <= v -> Ay [30, F.f + 1, hd] H H' -> AB H' 30 = some (.list (vs ++ [.loc v])) -> AB H' (F.f + 1) = some (.list (ls ++ [.int (vs.length : Int)])) -> AB H' hd = some (.sdict (NM ++ [(nm_, .int (vs.length : Int))])) -> AB H' v = some (.inst 425 (Tw (.int (vs.length : Int)) (.str nm_) kd fl (.int (F.j : Int)) (.int (-1)) (.int 0))) -> k (.int (vs.length : Int)) H') : CK [.loc 46, .str nm_, kd, fl] H k := by
 have c := d.c
 have lt1 := AX d.ge
 have d0 := d.keep (H' := Af H (.sdict [])) fun n o _ _ _ _ e => AY.add.2 _ _ e
 have ot := (AY.add (o := .sdict [])).2 _ _ hhd
 have la : (Af H (.sdict [])).length = H.length + 1 := List.length_append ..
 refine L7 <| hk d.gs <| hk d.gsc <| hk hhd <| bF (by rw [no]; rfl) <| ZW d <| hk d0.gs <| hk d0.gs <| hk d0.gf <| hk d0.gs <| Uj d0.gu (AY.add.2 _ _ h30) d0.gfs d0.ef d0.hj d0.gf (AY.add.2 _ _ hl) (by omega) lv d0.lf lls fun H2 l2 b2 g30 gll gv => ?_
 have n2 : ∀ {n}, n ≠ 30 -> n ≠ F.f + 1 -> n ∉ [30, F.f + 1] := fun h h' z => by cases z with
  | head => exact h rfl
  | tail _ z => exact h' (List.mem_singleton.mp z)
 have d2 := d0.keep fun n o h1 h2 _ _ e => b2.2 n o (n2 h1 h2) e
 have h2 := b2.2 _ _ (n2 (by exact yQ c.1 c.2.2.1 c.2.1) (by exact Q62 c.2.2.1)) ot
 have h3 : ∀ {o}, AB (Ab H2 (Af H (.sdict [])).length o) hd = some (.sdict NM) := sn (by omega) h2
 refine hk d2.gs <| hk d2.grw <| hk d2.gs <| hk d2.gu <| hk g30 <| QD rfl (by rw [List.length_append, List.length_singleton]; exact Q96 lv) Dq <| hk gv <| hk h3 <| bT (by rw [no]; rfl) <| hk h3 <| AK (by exact Q0 ln) ?_
 refine q (Af H (.sdict [])).length _ (by exact n7 la) (BA.fresh (AY.add.but.trans (b2.mono fun n hn => ?_)) .set (by exact n7 la) |>.put ?_) (sn (by omega) (sn (by exact yM c.1 c.2.2.1 c.2.1 c.2.2.2 lt1 la) g30)) (sn (by omega) (sn (by exact yL c.2.2.1 c.2.2.2 lt1 la) gll)) ?_ (sn (by exact yK lt1 c.2.2.2 la) (AD gv))
 ·exact (List.mem_append_left [hd] hn)
 ·exact .tail _ (.tail _ (.head _))
 ·rw [<- FC no]; exact AD h3
end
section
set_option genInjectivity false
variable {T : Av} {H : Hp} {k : AV -> Hp -> Prop}
theorem eE {s : Ae} {tid mid tp sc f : Nat} {st : Int} (hs : AB H 46 = some (.inst 906 (Ld s tid mid tp sc f st).L)) (c1 : 63 <= sc) (hsc : AB H sc = some (.list [])) (hrw : AB H (sc + 1) = some (.list [])) (hcl : AB H (sc + 2) = some (.idict []))
  (q : ∀ H', H'.length = H.length + 2 -> Ay [sc, sc + 1, sc + 2] H H' -> AB H' sc = some (.list [.loc H.length]) -> AB H' (sc + 1) = some (.list [.int 0]) -> AB H' (sc + 2) = some (.idict [(1, .loc (H.length + 1))]) -> AB H' H.length = some (.sdict []) -> AB H' (H.length + 1) = some (.sdict []) -> k .none H') : Bz [.loc 46] H k := by
 have lt1 := AX hcl
 have s1 : ∀ {x}, AB (Ab (Af H (.sdict [])) sc x) 46 = some (.inst 906 (Ld s tid mid tp sc f st).L) := sn (by exact Q5 c1) (AY.add.2 _ _ hs)
 have r1 : ∀ {x}, AB (Ab (Af H (.sdict [])) sc x) (sc + 1) = some (.list []) := sn (by exact bH) (AY.add.2 _ _ hrw)
 have la : (Ab (Ab (Af H (.sdict [])) sc (.list [.loc H.length])) (sc + 1) (.list [.int 0])).length = H.length + 1 := AF.trans (AF.trans (List.length_append ..))
 have s2 : ∀ {y}, AB (Af (Ab (Ab (Af H (.sdict [])) sc (.list [.loc H.length])) (sc + 1) (.list [.int 0])) y) 46 = some (.inst 906 (Ld s tid mid tp sc f st).L) := AY.add.2 _ _ (sn (by exact wB c1) s1)
 have g2 : ∀ {y}, AB (Af (Ab (Ab (Af H (.sdict [])) sc (.list [.loc H.length])) (sc + 1) (.list [.int 0])) y) sc = some (.list [.loc H.length]) := AY.add.2 _ _ (sn (by exact nO) (AD (AY.add.2 _ _ hsc)))
 have c2 : ∀ {y}, AB (Af (Ab (Ab (Af H (.sdict [])) sc (.list [.loc H.length])) (sc + 1) (.list [.int 0])) y) (sc + 2) = some (.idict []) := AY.add.2 _ _ (sn (by exact pR) (sn (by exact fW) (AY.add.2 _ _ hcl)))
 refine Mc <| hk hs <| hk hsc <| hk (AY.add.2 _ _ hsc) <| hk s1 <| hk r1 <| hk r1 <| hk s2 <| hk s2 <| hk g2 <| hk c2 ?_
 refine q (Ab (Af _ (.sdict [])) (sc + 2) (.idict [(1, .loc _)])) (AF.trans ((List.length_append ..).trans (congrArg (· + 1) la))) ?_ (sn (by exact pQ) g2) (sn (by exact pP) (AY.add.2 _ _ (AD r1))) ?_ (sn (by exact Q61 lt1) (AY.add.2 _ _ (sn (by exact Q62 lt1) (sn (by omega) Ah)))) ?_
 ·exact ((AY.add.but.put (.head _)).put (.tail _ (.head _))).trans AY.add.but |>.put (.tail _ (.tail _ (.head _)))
 ·rw [<- la]; exact AD c2
 ·rw [<- la]; exact sn (by omega) Ah
noncomputable def Up (pf : List Int) (i : Nat) (b : Bool) : Int := bif b then (match Mine.getL pf i with
 | some md => bif decide (Builtin.bitAnd md 1 ≠ 0) then 5 else 3
 | none => 3) else 1
theorem aE {pf : List Int} {i : Nat} {m : Int} (e : Mine.getL pf i = some m) (h : decide (Builtin.bitAnd m 1 ≠ 0) = true) : Up pf i true = 5 := by unfold Up; rw [e]; exact congrArg (fun b => bif b then (5 : Int) else 3) h
theorem aF {pf : List Int} {i : Nat} {m : Int} (e : Mine.getL pf i = some m) (h : decide (Builtin.bitAnd m 1 ≠ 0) = false) : Up pf i true = 3 := by unfold Up; rw [e]; exact congrArg (fun b => bif b then (5 : Int) else 3) h
theorem aD {pf : List Int} {i : Nat} (h : pf.length <= i) : Up pf i true = 3 := by
 unfold Up
 cases e : Mine.getL pf i with
 | none => rfl
 | some m => have := Bn e; omega
theorem cR {pf : List Int} {i : Nat} : (Up pf i true != 1) = true := by
 unfold Up
 cases e : Mine.getL pf i with
 | none => rfl
 | some m => cases h : decide (Builtin.bitAnd m 1 ≠ 0) <;> simp only [h] <;> rfl
theorem mh {s : Ae} (hs : AB H 46 = some (.inst 906 s.L)) (x : KT T H) {mloc : Nat} {m : Me} (hm : AB H mloc = some (.inst 292 m.L)) (lp : m.ps.length < 1000) (lf : m.pf.length < 1000) {i n : Nat} {r : AZ} (hi : Mine.getL m.ps i = some (n : Int)) (e : Mine.getL T.rows n = some r)
  (q : k (.int (Up m.pf i (Ht r == 5))) H) : Ax [.loc 46, .loc mloc, .int (i : Int)] H k := by
 refine HR <| hk hs <| hk hm <| QC (by exact Q0 lp) hi <| OZ x e <| bI (fun z => ?_) fun z => ?_
 ·rw [(Bool.not_eq_true' _).mp z] at q; exact q
 ·rw [(Bool.not_eq_false' _).mp z] at q
  refine hk hm <| AK (by rw [List.length_map]; exact Q0 lf) <| bI (fun z => ?_) fun z => ?_
  ·have h := of_decide_eq_true z
   rw [List.length_map] at h
   obtain ⟨y, ey⟩ := Am (l := m.pf) (i := i) (by omega)
   refine hk hm <| QC (by exact Q0 lf) ey <| bI (fun v => ?_) fun v => ?_
   ·exact kI (k := k) (aE ey v) q
   ·exact kI (k := k) (aF ey v) q
  ·have h := of_decide_eq_false z
   rw [List.length_map] at h
   exact kI (k := k) (aD (by omega)) q
noncomputable def Mu (i c : Nat) : List AV := (List.range' i c).map fun n : Nat => .int (n : Int)
theorem U8 {c i : Nat} : Mu i (c + 1) = Mu i c ++ [.int ((i + c : Nat) : Int)] := by unfold Mu; rw [List.range'_1_concat, List.map_append]; rfl
theorem Ow {n : Nat} : Mine.EK n = Mu 0 n := by
 induction n with
 | zero => rfl
 | succ n ih => rw [U8, Nat.zero_add, <- ih]; rfl
theorem HT {n m : Nat} {g : VG} {b : VS} {F : Ag} {K : Fl -> Ag -> Hp -> Prop} (e : n = m) (h : m < 100000) (p : CN (.rg m) g b (Mine.EK m) K (Mu 0 m) F H) : kXR (lF g b F K) (.int (n : Int)) H := by
 subst e
 exact AK h ((congrArg (fun l => CN (.rg n) g b (Mine.EK n) K l F H) Ow).mpr p)
noncomputable def Hh (H : Hp) (B : Nat) : List AV -> List (List (Nat × AV)) -> Prop := An fun x v => ∃ n, x = .loc n /\ B <= n /\ AB H n = some (.inst 425 v)
theorem Hh.keep {H H' : Hp} {B : Nat} (k : ∀ n o, B <= n -> AB H n = some o -> AB H' n = some o) {l : List AV} {vs : List (List (Nat × AV))} (x : Hh H B l vs) : Hh H' B l vs := An.imp (fun _ _ ⟨n, e, h, g⟩ => ⟨n, e, h, k n _ h g⟩) x
noncomputable def Fc (l0 i : Nat) : List AV := (List.range i).map fun n => .int ((l0 + n : Nat) : Int)
noncomputable def Qw (l0 i : Nat) : List (List Nat × AV) := (List.range i).map fun n => ([120 + n], .int ((l0 + n : Nat) : Int))
noncomputable def hZ (l0 j : Nat) (vk fl : Nat -> Int) (i : Nat) : List (Nat × AV) := Tw (.int ((l0 + i : Nat) : Int)) (.str [120 + i]) (.int (vk i)) (.int (fl i)) (.int (j : Int)) (.int (i : Int)) (.int 0)
noncomputable def cP (l0 j : Nat) (vk fl : Nat -> Int) (i : Nat) : List (List (Nat × AV)) := (List.range i).map (hZ l0 j vk fl)
theorem Dk {α : Type} {f : Nat -> α} {i : Nat} : (List.range (i + 1)).map f = (List.range i).map f ++ [f i] := by rw [List.range_succ, List.map_append]; rfl
theorem Ef {α : Type} {f : Nat -> α} {i : Nat} : ((List.range i).map f).length = i := by rw [List.length_map, List.length_range]
theorem Ln {l0 i m : Nat} (h : i <= m) : Ao (Qw l0 i) [120 + m] = none := by
 induction i with
 | zero => rfl
 | succ i ih =>
  have hb : Gv [120 + i] [120 + m] = false := by
   cases h' : Gv [120 + i] [120 + m] with
   | false => rfl
   | true => have := List.head_eq_of_cons_eq (GB.mp h'); omega
  unfold Qw at ih ⊢
  rw [Dk]
  generalize (List.range i).map (fun n => ([120 + n], AV.int ((l0 + n : Nat) : Int))) = l at ih ⊢
  have ih := ih (by omega)
  induction l with
  | nil => show (match Gv [120 + i] [120 + m] with | true => some (AV.int ((l0 + i : Nat) : Int)) | false => none) = none; rw [hb]
  | cons p l ih' =>
   obtain ⟨a, y⟩ := p
   change (match Gv a [120 + m] with | true => some y | false => Ao l [120 + m]) = none at ih
   show (match Gv a [120 + m] with | true => some y | false => Ao (l ++ _) [120 + m]) = none
   cases h : Gv a [120 + m] with
   | true => rw [h] at ih; exact (nomatch ih)
   | false => rw [h] at ih; exact ih' (fun _ => ih) ih
structure DS (B l0 j : Nat) (vs0 : List AV) (vk fl : Nat -> Int) (f hd : Nat) (i : Nat) (H H' : Hp) : Prop where
 b : Ay [30, f + 1, f + 2, hd] H H'
 v : ∃ locs, AB H' 30 = some (.list (vs0 ++ locs)) /\ Hh H' B locs (cP l0 j vk fl i)
 l : AB H' (f + 1) = some (.list (Fc l0 i))
 p : AB H' (f + 2) = some (.list (Fc l0 i))
 n : AB H' hd = some (.sdict (Qw l0 i))
noncomputable def dB : VS := (AG (BM 4 (Ai (AA (vL 0) (AA (vL 1) (AA (vL 3) AQ))) Ax)) (AG (BM 5 (AL (AI 292 Ap (vL 1)) (vL 3) AR)) (AG (Iw (BK (AL (vL 4) (vC (.int 1)) fC)) (AG (BM 5 (Ai (AA (AI 906 BW (vL 0)) (AA (vL 5) AQ)) Dz)) AS) AS) (AG (BM 6 (DH 906 M3 (vL 0) (AA (AL (AI 292 Fv (vL 1)) (vL 3) AR) (AA (vL 5) (AA (vL 4) AQ))) Bg)) (AG (C7 425 Kg (vL 3) (AL (AI 467 E7 (AI 906 E8 (vL 0))) (vL 6) AR)) (AG (BE (Di (AI 446 Ap (vL 2)) (vL 6))) AS))))))
structure Pa (T : Av) (m : Me) (vk fl : Nat -> Int) (mloc sc : Nat) (H : Hp) : Prop where
 x : KT T H
 g : AB H mloc = some (.inst 292 m.L)
 h : ∀ i p, Mine.getL m.ps i = some p -> ∃ (n : Nat) (r : AZ), p = (n : Int) /\ Mine.getL T.rows n = some r /\ vk i = (bif Ht r == 5 then r.b else p) /\ (r.a = 5 -> r.l = none) /\ fl i = Up m.pf i (Ht r == 5)
 nm : ∀ i, i < m.ps.length -> Mine.getL m.pn i = some [120 + i]
 lp : m.ps.length < 100
 lf : m.pf.length < 1000
 ln : m.pn.length < 1000
 c : 63 <= mloc /\ mloc < sc
theorem Pa.but {m : Me} {vk fl : Nat -> Int} {mloc sc f hd : Nat} {H' : Hp} (x : Pa T m vk fl mloc sc H) (b : Ay [30, f + 1, f + 2, hd] H H') (h : sc < f) (h' : f + 2 < hd) : Pa T m vk fl mloc sc H' := by
 have := x.c
 exact { x with x := x.x.but b fun n h1 h6 => oj (by exact Q66 h6) (by exact zk this.1 h this.2 h6) (by exact zi this.1 h this.2 h6) (by exact zg this.1 h' h this.2 h6), g := b.2 _ _ (oj (by exact v5 this.1) (by omega) (by omega) (by exact zf h' this.2 h)) x.g }
theorem UO {s : Ae} {tid mid tp sc : Nat} {st a b : Int} {F : Fn} {fns : List AV} {hd e1 : Nat} {m : Me} {vk fl : Nat -> Int} {mloc : Nat} {vs0 : List AV} {K : Fl -> Ag -> Hp -> Prop} (lv : vs0.length < 800) (y : Pa T m vk fl mloc sc H) (d : De s tid mid tp sc st a b F fns hd e1 H)
  (hK : ∀ F' H', DS (e1 + 1) vs0.length F.j vs0 vk fl F.f hd m.ps.length H H' -> K .next F' H') {c : Nat} :
  ∀ {i : Nat} {H1 : Hp} {f3 f4 f5 f6 : Option AV}, i + c = m.ps.length -> DS (e1 + 1) vs0.length F.j vs0 vk fl F.f hd i H H1 ->
   CN (.rg m.ps.length) (gN 3) dB (Mine.EK m.ps.length) K (Mu i c) [some (.loc 46), some (.loc mloc), some (.loc F.f), f3, f4, f5, f6] H1 := by
 have ch := d.c
 have cm := y.c
 have lp := y.lp
 have lte := AX d.ge
 induction c with
 | zero => intro i H1 f3 f4 f5 f6 hc z; exact hK _ _ ((show i = m.ps.length from hc) ▸ z)
 | succ c ih =>
  intro i H1 f3 f4 f5 f6 hc z
  obtain ⟨p, ep⟩ := Am (l := m.ps) (i := i) (by exact Q3 hc)
  obtain ⟨n, r, en, e, ek, er, efl⟩ := y.h i p ep
  obtain ⟨locs, g30, vl⟩ := z.v
  have ll : locs.length = i := vl.length.trans Ef
  have y1 := y.but z.b (by omega) (by omega)
  have d1 := d.keep fun n o h1 h2 h3 h4 => z.b.2 n o (oj h1 h2 h3 h4)
  have lb := z.b.1
  have main : ∀ f5', Bg [.loc 46, .str [120 + i], .int (vk i), .int (fl i)] H1 (US 6 [some (.loc 46), some (.loc mloc), some (.loc F.f), some (.int (i : Int)), some (.int (fl i)), f5', f6] (Ro (AG (C7 425 Kg (vL 3) (AL (AI 467 E7 (AI 906 E8 (vL 0))) (vL 6) AR)) (AG (BE (Di (AI 446 Ap (vL 2)) (vL 6))) AS)) (oZ (.rg m.ps.length) (Mine.EK m.ps.length) (CN (.rg m.ps.length) (gN 3) dB (Mine.EK m.ps.length) K (Mu (i + 1) c)) K))) := fun f5' => by
   refine MA <| Uk d1 z.n (Ln (Nat.le_refl _)) g30 z.l (by rw [List.length_append]; exact zd hc lp lv ll) (by unfold Fc; rw [Ef]; exact Q77 hc lp) (by unfold Qw; rw [Ef]; exact Q77 hc lp) fun v H2 hv b2 g2 gl gn gv => ?_
   have lt1 := AX g30
   have d2 := d1.keep fun n o h1 h2 h3 h4 => b2.2 n o (L0 h1 h2 h4)
   have l2 := b2.1
   have gp := sn (o := .inst 425 (hZ vs0.length F.j vk fl i)) (show F.f + 2 ≠ v by have := AX z.p; omega) (b2.2 _ _ (L0 (by omega) (by exact pR) (by exact zX ch.2.2.1)) z.p)
   have e2 : (vs0 ++ locs).length = vs0.length + i := by rw [List.length_append, ll]
   rw [e2] at gl gn gv ⊢
   refine hk d2.gs <| hk d2.gu <| hk g2 <| QD (i := vs0.length + i) rfl (by rw [List.length_append, e2, List.length_singleton]; exact zN hc lp lv) (e2 ▸ Dq) <| hk gv <| hk (sn (by omega) d2.gf) <| hk gp <| hk gp <| AK (by unfold Fc; rw [Ef]; exact Q83 hc lp) <| ih (by exact Q4 hc) ?_
   refine ⟨(z.b.trans ((BA.fresh (b2.mono fun n hn => ?_) .set hv).put ?_)), ⟨locs ++ [.loc v], ?_, ?_⟩, ?_, ?_, ?_⟩
   ·exact ((List.cons_subset_cons _ (List.cons_subset_cons _ (List.subset_cons_self _ _))) hn)
   ·exact .tail _ (.tail _ (.head _))
   ·rw [<- List.append_assoc]; exact sn (by omega) (sn (by omega) g2)
   ·unfold cP
    rw [Dk]
    refine An.append (Hh.keep (fun n o hn g => ?_) vl) (.cons ⟨v, rfl, by exact zB lte hv lb, sn (by exact y8 ch.2.2.1 lte ch.2.2.2 hv lb) (AD gv)⟩ .nil)
    have := AX g
    exact sn (by exact y6 hn ch.2.2.1 ch.2.2.2) (sn (by exact Q88 this hv) (b2.2 n o (L0 (by exact y4 ch.1 hn ch.2.2.1 ch.2.1 ch.2.2.2) (by omega) (by omega)) g))
   ·unfold Fc; rw [Dk]; exact sn (by exact pP) (sn (by exact yx ch.2.2.1 lte ch.2.2.2 hv lb) gl)
   ·unfold Fc; rw [Dk]; exact AD gp
   ·unfold Qw; rw [Dk]; exact sn (by exact Q61 ch.2.2.1) (sn (by exact yt lte ch.2.2.2 hv lb) gn)
  have nmI : ∀ {P : AV -> Prop}, P (.str [120 + i]) -> XB (m.pn.map .str) (i : Int) P := fun h => QC (by have := y.ln; exact Q0 this) (y.nm i (by exact Q3 hc)) h
  cases en
  refine mh d1.gs y1.x y1.g (by omega) y.lf ep e <| hk y1.g <| QC (by exact bE lp) ep ?_
  rw [efl, ek] at main
  cases hr : Ht r == 5 with
  | true =>
   rw [hr] at main
   have ha : r.a = 5 := eq_of_beq hr
   exact bT cR <| hk d1.gs <| eI y1.x ha (er ha) e <| hk d1.gs <| hk y1.g <| nmI (main _)
  | false =>
   rw [hr] at main
   exact hk d1.gs <| hk y1.g <| nmI (main _)
theorem Za {s : Ae} {tid mid tp sc : Nat} {st a b : Int} {F : Fn} {fns : List AV} {hd e1 : Nat} {m : Me} {vk fl : Nat -> Int} {mloc : Nat} {vs0 : List AV} (lv : vs0.length < 800) (y : Pa T m vk fl mloc sc H) (d : De s tid mid tp sc st a b F fns hd e1 H)
  (hhd : AB H hd = some (.sdict [])) (hl : AB H (F.f + 1) = some (.list [])) (hp : AB H (F.f + 2) = some (.list [])) (h30 : AB H 30 = some (.list vs0))
  (q : ∀ H', DS (e1 + 1) vs0.length F.j vs0 vk fl F.f hd m.ps.length H H' -> k .none H') : Aq [.loc 46, .loc mloc, .loc F.f] H k := by
 have lp := y.lp
 have lm : (m.ps.map AV.int).length = m.ps.length := List.length_map ..
 exact Fy <| hk y.g <| AK (by omega) <| HT lm (by exact bE lp) <| UO lv y d (fun F' H' z => q H' z) (Nat.zero_add _) ⟨.refl, ⟨[], by rw [List.append_nil]; exact h30, .nil⟩, hl, hp, hhd⟩
end
section
set_option genInjectivity false
variable {T : Av} {H : Hp} {k : AV -> Hp -> Prop}
noncomputable def dS (l : List (List Nat × Nat)) : List (List Nat × AV) := l.foldl (fun d p => O8 d p.1 (.int (p.2 : Int))) []
noncomputable def To (l : List (Nat × (Int × List Int))) : List (Int × AV) := l.foldl (fun d p => D5 d (p.1 : Int) (.tup (p.2.2.map .int))) []
noncomputable def dG (l : List (Nat × (Int × List Int))) : List (Int × AV) := l.foldl (fun d p => D5 d (p.1 : Int) (.int p.2.1)) []
theorem OW {l : List (List Nat × Nat)} {p : List Nat × Nat} : dS (l ++ [p]) = O8 (dS l) p.1 (.int (p.2 : Int)) := List.foldl_append ..
theorem Tn {l : List (Nat × (Int × List Int))} {p : Nat × (Int × List Int)} : To (l ++ [p]) = D5 (To l) (p.1 : Int) (.tup (p.2.2.map .int)) := List.foldl_append ..
theorem Tj {l : List (Nat × (Int × List Int))} {p : Nat × (Int × List Int)} : dG (l ++ [p]) = D5 (dG l) (p.1 : Int) (.int p.2.1) := List.foldl_append ..
theorem Lg {α : Type} {eq : α -> α -> Bool} {s : α} {x : AV} {l : List (α × AV)} : (Ft eq l s x).length <= l.length + 1 := by
 induction l with
 | nil => exact Nat.le_refl _
 | cons p r ih =>
  obtain ⟨a, y⟩ := p
  show (match eq a s with | true => (a, x) :: r | false => (a, y) :: Ft eq r s x).length <= _
  cases eq a s with
  | true => exact Nat.le_succ _
  | false => exact Nat.succ_le_succ ih
theorem MB {α β : Type} {g : List β -> α -> List β} (h : ∀ d p, (g d p).length <= d.length + 1) {l : List α} : ∀ {d : List β}, (l.foldl g d).length <= d.length + l.length := by
 induction l with
 | nil => exact Nat.le_refl _
 | cons p l ih => intro d; exact Nat.le_trans ih (by have := h d p; rw [List.length_cons]; exact xu this)
theorem R9 {l : List (List Nat × Nat)} : (dS l).length <= l.length := Nat.le_trans (MB fun _ _ => Lg) (Nat.le_of_eq (Nat.zero_add _))
theorem Xd {l : List (Nat × (Int × List Int))} : (To l).length <= l.length := Nat.le_trans (MB fun _ _ => Lg) (Nat.le_of_eq (Nat.zero_add _))
theorem Xc {l : List (Nat × (Int × List Int))} : (dG l).length <= l.length := Nat.le_trans (MB fun _ _ => Lg) (Nat.le_of_eq (Nat.zero_add _))
theorem D3 {α : Type} {l : List α} : ∀ {i : Nat} {x : α}, Mine.getL l i = some x -> l.take (i + 1) = l.take i ++ [x] := by
 induction l with
 | nil => exact fun e => nomatch e
 | cons y l ih =>
  intro i x e
  cases i with
  | zero => cases e; rfl
  | succ i => exact congrArg (y :: ·) (ih e)
theorem JX {α β : Type} {l : List α} : ∀ {r : List β} {i : Nat} {x : α} {y : β}, Mine.getL l i = some x -> Mine.getL r i = some y -> Mine.getL (l.zip r) i = some (x, y) := by
 induction l with
 | nil => exact fun e => nomatch e
 | cons a l ih =>
  intro r i x y e e'
  cases r with
  | nil => exact nomatch e'
  | cons b r => cases i with
   | zero => cases e; cases e'; rfl
   | succ i => exact ih e e'
noncomputable def bk (tid : Nat) (nm : AV) (so : Int) (h : Nat) (bo : AV) : List (Nat × AV) := [(aL, .int (tid : Int)), (Ba, nm), (E9, .int so), (CY, .int 0), (Wi, .int 12), (HM, .lst []), (Ap, .loc (h + 1)), (CA, .loc (h + 2)), (BH, bo), (P1, .lst []), (C2, .lst []), (Lx, .int 1), (TN, .int 0), (TB, .int (-1)), (TK, .lst []), (TF, .lst []), (P2, .lst []), (Kf, .int 0), (Wh, .int 0)]
noncomputable def UZ (bo gf : AV) : List (Nat × AV) := [(BW, .loc 1), (N0, .loc 38), (HM, .loc 39), (Nw, .loc 40), (CA, .loc 41), (JQ, .loc 42), (BH, bo), (DJ, gf), (RY, .loc 45)]
structure Ty where
 tl : Nat
 nm : AV
 so : Int
 words : List (List Nat)
 bnd : List (Int × List Int)
 vks : List Nat
 own : Nat
noncomputable def oP : List AV := List.replicate 64 .none ++ [.loc 18, .loc 22]
structure Qq (tid : Nat) (y : Ty) (H : Hp) : Prop where
 i : tid = 64 /\ y.tl = 18 /\ y.so = 1 \/ tid = 65 /\ y.tl = 22 /\ y.so = 2
 s : AB H 0 = some (.inst 313 Yb)
 t : AB H 10 = some (.list oP)
 g : AB H y.tl = some (.inst 271 (bk tid y.nm y.so y.tl (.lst (y.bnd.map bp))))
 p : AB H (y.tl + 1) = some (.list (y.words.map .str))
 lw : y.words.length <= 2
 lb : y.bnd.length = y.words.length
 lv : y.vks.length = y.words.length
noncomputable def N6 (n : Nat) : Int := n
structure Um (tid : Nat) (y : Ty) (T : Av) : Prop where
 v : ∀ i n, Mine.getL y.vks i = some n -> CH 0 T.rows ⟨6, (i : Int), none⟩ = some n
 o : CH 0 T.rows ⟨y.so + 1, tid, some (y.vks.map N6)⟩ = some y.own
theorem Qq.keep {tid : Nat} {y : Ty} {H' : Hp} (x : Qq tid y H) (h : ∀ n o, n = 0 \/ n = 10 \/ (18 <= n /\ n <= 23) -> AB H n = some o -> AB H' n = some o) : Qq tid y H' := by
 have := x.i
 exact { x with s := h _ _ (by exact xq) x.s, t := h _ _ (by omega) x.t, g := h _ _ (by exact xp this) x.g, p := h _ _ (by exact xo this) x.p }
theorem Qq.keepK {tid : Nat} {y : Ty} {H' : Hp} (x : Qq tid y H) (h : AY H H') : Qq tid y H' := x.keep fun n o _ g => h.2 n o g
theorem Um.ext {tid : Nat} {y : Ty} {T' : Av} (x : Um tid y T) (e : Eb T T') : Um tid y T' := ⟨fun i n g => e.pos (x.v i n g), e.pos x.o⟩
theorem YX {tid : Nat} {y : Ty} (x : Qq tid y H) {K : AV -> Prop} (h : K (.loc y.tl)) : XB oP (tid : Int) K := by
 have e : Mine.getL oP tid = some (.loc y.tl) := by
  rcases x.i with ⟨e, e', _⟩ | ⟨e, e', _⟩ <;> rw [e, e'] <;> rfl
 exact QD rfl (by decide) e h
theorem dA {tid : Nat} (h : tid = 64 \/ tid = 65) : IJ Ed (tid : Int) = false := by rcases h with rfl | rfl <;> rfl
theorem ZZ {tid : Nat} {y : Ty} (h : Qq tid y H) (x : KT T H) (u : Um tid y T) (q : k (.int (y.own : Int)) H) : Df [.loc 0, .int (tid : Int), .tup ((y.vks.map N6).map .int)] H k := by
 have o := u.o
 have i := h.i
 refine QM <| hk h.s <| hk h.t <| YX h <| hk h.g <| ?_
 rcases h.i with ⟨rfl, _, e⟩ | ⟨rfl, _, e⟩
 ·rw [e] at o
  refine bF (by rw [e]; rfl) <| bF (by rw [e]; rfl) <| hk h.s <| Qk x (dA (.inl rfl)) o q
 ·rw [e] at o
  refine bT (by rw [e]; rfl) <| hk h.s <| Qi x (dA (.inr rfl)) o q
theorem KT.keepK {H' : Hp} (x : KT T H) (h : AY H H') : KT T H' := x.keep fun n _ _ o e => h.2 n o e
theorem AY.fresh {a : Nat} {o : AO} {H H' : Hp} (k : AY H H') (h : H.length <= a) : AY H (Ab H' a o) := ⟨Nat.le_trans k.1 (Nat.le_of_eq AF.symm), fun n o e => sn (by have := AX e; exact Q88 this h) (k.2 n o e)⟩
theorem UM {tid n : Nat} {y : Ty} {q : Nat} (h : Qq tid y H) (x : KT T H) (u : Um tid y T) {F1 F2 : Option AV} {K : Fl -> Ag -> Hp -> Prop} (hq : H.length = q)
  (hK : ∀ f4 H', AY H H' -> AB H' q = some (.list ((y.vks.map N6).map .int)) -> K .next [some (.loc 0), F1, F2, some (.loc q), f4] H') {c : Nat} : ∀ {i : Nat} {H1 : Hp} {f4 : Option AV}, i + c = y.words.length -> AY H H1 -> AB H1 q = some (.list (((y.vks.map N6).map .int).take i)) ->
  CN (.rg n) (gN 4) (AG (BE (Di (vL 3) (Ai (AA (AI 313 BW (vL 0)) (AA (vL 4) AQ)) Cb))) AS) (Mine.EK n) K (Mu i c) [some (.loc 0), F1, F2, some (.loc q), f4] H1 := by
 have lv : ((y.vks.map N6).map AV.int).length = y.words.length := (List.length_map ..).trans ((List.length_map ..).trans h.lv)
 have lw := h.lw
 induction c with
 | zero =>
  intro i H1 f4 hc k1 g
  exact hK _ _ k1 (g.trans (congrArg (fun l => some (AO.list l)) (List.take_of_length_le (by exact wC hc lv))))
 | succ c ih =>
  intro i H1 f4 hc k1 g
  obtain ⟨v, ev⟩ := Am (l := y.vks) (i := i) (by rw [h.lv]; exact Q3 hc)
  have ea : Mine.getL ((y.vks.map N6).map AV.int) i = some (.int (v : Int)) := by rw [Mine.Bb, Mine.Bb, ev]; rfl
  refine hk g <| hk (k1.2 _ _ h.s) <| KG (x.keepK k1) (u.v i v ev) <| hk g <| AK (by rw [List.length_take]; omega) <| ih (by exact Q4 hc) (k1.fresh (Nat.le_of_eq hq)) ?_
  rw [D3 ea]; exact AD g
theorem eA {tid : Nat} {y : Ty} (h : Qq tid y H) (x : KT T H) (u : Um tid y T) (q : ∀ H', AY H H' -> k (.int (y.own : Int)) H') : Cs [.loc 0, .int (tid : Int)] H k := by
 have h1 := h.keepK (AY.add (o := .list []))
 have lw := h.lw
 have ll : (y.words.map AV.str).length = y.words.length := List.length_map ..
 have lv : ((y.vks.map N6).map AV.int).length = y.words.length := (List.length_map ..).trans ((List.length_map ..).trans h.lv)
 exact QI <| bF (dA (h.i.imp And.left And.left)) <| hk h.s <| hk h.t <| YX h <| hk h1.g <| hk h1.p <| AK (by exact Q7 ll lw) <| HT ll (by exact Q2 lw) <| UM h x u rfl (fun f4 H2 k2 g2 => hk g2 <| AK (by exact Q7 lv lw) <| ZZ (h.keepK k2) (x.keepK k2) u (q H2 k2)) (Nat.zero_add _) AY.add Ah
end
section
variable {T : Av} {H : Hp} {k : AV -> Hp -> Prop}
noncomputable def cB (vpk : VP) : VS := (AG (Bs (BR (vL 6) Nu) (AI 544 BH (vL 0)) (Ai (AA (AI 544 BW (vL 0)) (AA (vL 4) AQ)) vpk)) (AG (Bs (vL 5) (AI 544 DJ (vL 0)) (Ai (AA (AI 544 BW (vL 0)) (AA (vL 4) AQ)) vpk)) (AG (Sg 4 (vC (.int 1)) HK) AS)))
noncomputable def N8 (T : Av) (vpk : VP) (i : Nat) (keys : List Nat) : Prop := ∀ j n, Mine.getL keys j = some n -> ∀ (H1 : Hp) (k : AV -> Hp -> Prop), KT T H1 -> k (.int (n : Int)) H1 -> vpk [.loc 1, .int ((i + j : Nat) : Int)] H1 k
theorem N8.tail {vpk : VP} {i n : Nat} {keys : List Nat} (h : N8 T vpk i (n :: keys)) : N8 T vpk (i + 1) keys := fun j m e H1 k x q => by
 rw [Nat.add_right_comm]; exact h (j + 1) m e H1 k x q
theorem P8 {vpk : VP} {bo : Nat} {Et : List (Nat × (Int × List Int))} (x : KT T H) (hp : Et.length <= 4)
  (hh : AB H 37 = some (.inst 544 (UZ (.loc bo) (.loc (bo + 1))))) (b63 : 63 <= bo) {F1 F2 F3 : Option AV} {K : Fl -> Ag -> Hp -> Prop} {all : List AV}
  (hK : ∀ f4 f5 f6 H', Ay [bo, bo + 1] H H' -> AB H' bo = some (.idict (To Et)) -> AB H' (bo + 1) = some (.idict (dG Et)) -> K .next [some (.loc 37), F1, F2, F3, f4, f5, f6] H') {r : List (Int × List Int)} :
  ∀ {keys : List Nat} {pre : List (Nat × (Int × List Int))} {i : Nat} {H1 : Hp} {f5 f6 : Option AV}, N8 T vpk i keys -> keys.length = r.length -> pre ++ keys.zip r = Et -> Ay [bo, bo + 1] H H1 -> AB H1 bo = some (.idict (To pre)) -> AB H1 (bo + 1) = some (.idict (dG pre)) ->
  CN (.fl all) (gT 2 (TZ (gN 5) (TZ (gN 6) du))) (cB vpk) all K (r.map bp) [some (.loc 37), F1, F2, F3, some (.int (i : Int)), f5, f6] H1 := by
 induction r with
 | nil =>
  intro keys pre i H1 f5 f6 kk hl e b g1 g2
  cases keys with
  | cons n keys => exact nomatch hl
  | nil =>
   cases (List.append_nil _).symm.trans e
   exact hK _ _ _ _ b g1 g2
 | cons p r ih =>
  intro keys pre i H1 f5 f6 kk hl e b g1 g2
  cases keys with
  | nil => exact nomatch hl
  | cons n keys =>
  have lp : pre.length <= 4 := by rw [<- e, List.length_append] at hp; omega
  have l1 := Xd (l := pre)
  have l2 := Xc (l := pre)
  have n37 : 37 ∉ [bo, bo + 1] := HQ (by exact pF b63) (by exact pE b63)
  have h1 := b.2 37 _ n37 hh
  have B2 : ∀ {o}, Ay [bo, bo + 1] H (Ab H1 bo o) := b.put (.head _)
  have kx : ∀ {H'}, Ay [bo, bo + 1] H H' -> KT T H' := fun b => x.but b fun n h1 h6 => HQ (by exact bG b63 h6) (by exact vq b63 h6)
  have g2' : ∀ {o}, AB (Ab H1 bo o) (bo + 1) = some (.idict (dG pre)) := sn (by exact bH) g2
  refine hk h1 <| hk h1 <| kk 0 n rfl _ _ (kx b) <| hk g1 <| AK (by exact nX lp l1) <| hk (B2.2 37 _ n37 hh) <| hk (B2.2 37 _ n37 hh) <| kk 0 n rfl _ _ (kx B2) <| hk g2' <| AK (by exact nX lp l2) <| ih kk.tail (Nat.succ.inj hl) (pre := pre ++ [(n, p)]) ((List.append_assoc ..).trans e) (B2.put (.tail _ (.head _))) ?_ ?_
  ·rw [Tn]; exact sn (by exact nO) (AD g1)
  ·rw [Tj]; exact AD g2'
theorem u6 {b0 g0 : AV} {r : Ag} {v : VS} {K : Fl -> Ag -> Hp -> Prop} (h63 : 63 <= H.length) (hh : AB H 37 = some (.inst 544 (UZ b0 g0)))
  (q : ∀ H', Ay [37] H H' -> AB H' 37 = some (.inst 544 (UZ (.loc H.length) (.loc (H.length + 1)))) -> AB H' H.length = some (.idict []) -> AB H' (H.length + 1) = some (.idict []) -> v (some (.loc 37) :: r) H' K) :
  AG (C7 544 BH (Dh (.idict [])) (vL 0)) (AG (C7 544 DJ (Dh (.idict [])) (vL 0)) v) (some (.loc 37) :: r) H K := by
 have g1 := (AY.add (o := .idict [])).2 _ _ hh
 have g2 := AD (o' := .inst 544 (UZ (.loc H.length) g0)) g1
 have l2 : ∀ {o : AO}, (Ab (Af H (.idict [])) 37 o).length = H.length + 1 := AF.trans (List.length_append ..)
 have g3 := (AY.add (o := .idict [])).2 _ _ g2
 refine hk g1 <| hk g3 ?_
 rw [l2]
 exact q _ (((AY.add.but.put (.head _)).trans AY.add.but).put (.head _)) (AD g3) (sn (by exact nK h63) (AY.add.2 _ _ (sn (by exact nK h63) Ah))) (sn (by omega) (l2 ▸ Ah))
theorem Ay.fresh {S S' : List Nat} {H H' H'' : Hp} (b : Ay S H H') (c : Ay S' H' H'') (h : ∀ n, n < H.length -> n ∉ S') : Ay S H H'' := ⟨Nat.le_trans b.1 c.1, fun n o hn e => c.2 n o (h n (AX e)) (b.2 n o hn e)⟩
theorem n1 {n a : Nat} (h : n ≠ a) : n ∉ [a] := fun z => h (List.mem_singleton.mp z)
theorem Xo {tid mloc : Nat} {y : Ty} {b0 g0 : AV} {ms : List AV} {m : Me} {mks : List Nat} (h : Qq tid y H) (x : KT T H) (u : Um tid y T) (hh : AB H 37 = some (.inst 544 (UZ b0 g0)))
  (h8 : AB H 8 = some (.list ms)) (em : Mine.getL ms m.mid = some (.loc mloc)) (hmid : 0 < m.mid) (hms : ms.length < 1000) (hm : AB H mloc = some (.inst 292 m.L)) (hg : m.gb.length <= 2) (hmk : mks.length = m.gb.length) (pk : ∀ i n, Mine.getL mks i = some n -> CH 0 T.rows ⟨7, (i : Int), none⟩ = some n) (h63 : 63 <= H.length) (m63 : 63 <= mloc)
  (q : ∀ H', Ay [37] H H' -> AB H' 37 = some (.inst 544 (UZ (.loc H.length) (.loc (H.length + 1)))) -> AB H' H.length = some (.idict (To (y.vks.zip y.bnd ++ mks.zip m.gb))) -> AB H' (H.length + 1) = some (.idict (dG (y.vks.zip y.bnd ++ mks.zip m.gb))) -> k .none H') : Ce [.loc 37, .loc 0, .int (tid : Int), .int (m.mid : Int)] H k := by
 have hi := h.i
 have lb := h.lb
 have lv := h.lv
 have lw := h.lw
 have lz : (y.vks.zip y.bnd).length <= 2 := by rw [List.length_zip]; omega
 have kx : ∀ {H'}, Ay [37] H H' -> KT T H' := fun b => x.but b fun n h1 h6 => n1 (by exact Q81 h6)
 refine Ma <| u6 h63 hh fun H4 b4 g4 gb4 gg4 => bT ?_ ?_
 ·exact decide_eq_true (by omega)
 ·have h4 := h.keep fun n o hn => b4.2 n o (n1 (by exact Q97 hn))
  have l4 := b4.1
  refine hk h4.s <| hk h4.t <| YX h4 <| hk h4.g <| P8 (kx b4) (by omega) g4 h63 (fun f4 f5 f6 H5 b5 gb5 gg5 => bT ?_ ?_) (i := 0) (fun i n en H5 k5 x5 => (Nat.zero_add i).symm ▸ KG x5 (u.v i n en)) (by exact Q95 lv lb) (List.nil_append _) .refl gb4 gg4
  ·exact decide_eq_true (by exact vZ hmid)
  ·have fr : ∀ n, n < H.length -> n ∉ [H.length, H.length + 1] := fun n h => HQ (by exact Q1 h) (by exact v8 h)
   have b6 := b4.fresh b5 fr
   have em' := Bn em
   refine hk (b6.2 _ _ (n1 (by decide)) h.s) <| hk (b6.2 _ _ (n1 (by decide)) h8) <| QD rfl (by exact Q0 hms) em <| hk (b6.2 _ _ (n1 (by exact nK m63)) hm) <| P8 (kx b6) (by rw [List.length_append, List.length_zip (l₁ := mks)]; omega) (b5.2 _ _ (HQ (by exact pF h63) (by exact pE h63)) g4) h63 (fun f4 f5 f6 H6 b7 gb6 gg6 => ?_) (i := 0) (fun i n en H6 k6 x6 => (Nat.zero_add i).symm ▸ SN x6 (pk i n en)) hmk rfl .refl gb5 gg5
   exact q H6 (b6.fresh b7 fr) (b7.2 _ _ (HQ (by exact pF h63) (by exact pE h63)) (b5.2 _ _ (HQ (by exact pF h63) (by exact pE h63)) g4)) gb6 gg6
end
section
set_option genInjectivity false
variable {T : Av} {H : Hp} {k : AV -> Hp -> Prop}
theorem Wt {tid tp : Nat} {y : Ty} {s : List (Nat × AV)} {Et : List (List Nat × Nat)} (h : Qq tid y H) (x : KT T H) (u : Um tid y T) (hkt : Dt s BW = some (.loc 1)) (htp : Dt s Bh = some (.loc tp)) (hs : AB H 46 = some (.inst 906 s)) (t63 : 63 <= tp) (ef : Et = y.words.zip y.vks) {F1 F2 F3 : Option AV} {K : Fl -> Ag -> Hp -> Prop} {n : Nat}
  (hK : ∀ f5 H', Ay [tp] H H' -> AB H' tp = some (.sdict (dS Et)) -> K .next [some (.loc 46), F1, F2, F3, some (.loc y.tl), f5] H') {c : Nat} : ∀ {i : Nat} {H1 : Hp} {f5 : Option AV}, i + c = y.words.length -> Ay [tp] H H1 -> AB H1 tp = some (.sdict (dS (Et.take i))) ->
  CN (.rg n) (gN 5) (AG (Bs (Ai (AA (AI 906 BW (vL 0)) (AA (vL 5) AQ)) Cb) (AI 906 Bh (vL 0)) (AL (AI 271 Ap (vL 4)) (vL 5) AR)) AS) (Mine.EK n) K (Mu i c) [some (.loc 46), F1, F2, F3, some (.loc y.tl), f5] H1 := by
 have lf : Et.length = y.words.length := by rw [ef, List.length_zip, h.lv, Nat.min_self]
 induction c with
 | zero =>
  intro i H1 f5 hc b g
  rw [List.take_of_length_le (by exact wC hc lf)] at g
  exact hK _ _ b g
 | succ c ih =>
  intro i H1 f5 hc b g
  have hi := h.i
  have lw := h.lw
  obtain ⟨v, ev⟩ := Am (l := y.vks) (i := i) (by rw [h.lv]; exact Q3 hc)
  obtain ⟨w, ew⟩ := Am (l := y.words) (i := i) (by exact Q3 hc)
  have ez : Mine.getL Et i = some (w, v) := ef ▸ JX ew ev
  have hl := R9 (l := Et.take i)
  rw [List.length_take] at hl
  have nn : ∀ {n o}, n < 63 -> AB H n = some o -> AB H1 n = some o := fun h => b.2 _ _ (n1 (by omega))
  refine hk (nn (by exact Q60) hs) <| EL hkt <| KG (x.but b fun n h1 h6 => n1 (by exact bG t63 h6)) (u.v i v ev) <| hk (nn (by exact Q60) hs) <| EL htp <| hk (nn (by exact zy hi) h.g) <| hk (nn (by omega) h.p) <| QC (by exact Q2 lw) ew <| hk g <| AK (by omega) <| ih (by exact Q4 hc) (b.put (.head _)) ?_
  rw [D3 ez, OW]; exact AD g
theorem Uv {α β : Type} {a : List α} {b : List β} {x : α} {y : β} (h : a.length = b.length) : (a ++ [x]).zip (b ++ [y]) = a.zip b ++ [(x, y)] := List.zip_append h
structure Zr (T T' : Av) (mks : List Nat) (n : Nat) : Prop where
 e : Eb T T'
 l : T'.rows.length <= T.rows.length + n
 n : mks.length = n
 p : ∀ i m, Mine.getL mks i = some m -> CH 0 T'.rows ⟨7, (i : Int), none⟩ = some m
theorem YH {n : Nat} (h : n ∈ KL) : 2 <= n /\ n <= 6 := by
 have h : n ∈ [2, 3, 4, 5, 6] := h
 simp only [List.mem_cons, List.not_mem_nil, or_false] at h; exact zr h
theorem Qr {n : Nat} (h : ¬ (n < 2 \/ 6 < n)) : n ∈ KL := by
 show n ∈ [2, 3, 4, 5, 6]
 simp only [List.mem_cons, List.not_mem_nil, or_false]; exact zq h
theorem Hv {n : Nat} (h' : n < 2 \/ 6 < n) : n ∉ KL := fun z => by have := YH z; omega
theorem mE {n a : Nat} (h : n ≠ a) (h' : n < 2 \/ 6 < n) : n ∉ a :: KL := fun z => by cases z with
 | head => exact h rfl
 | tail _ z => exact Hv h' z
theorem Ws {tp : Nat} {s : List (Nat × AV)} {gw : List (List Nat)} {pre : List (List Nat × Nat)} (hp : pre.length <= 2) (hw : gw.length <= 2) (sm : T.rows.length < 890) (hkt : Dt s BW = some (.loc 1)) (htp : Dt s Bh = some (.loc tp)) (hs : AB H 46 = some (.inst 906 s)) (t63 : 63 <= tp) {F1 F2 F4 : Option AV} {K : Fl -> Ag -> Hp -> Prop} {n : Nat}
  (hK : ∀ f5 H' T' mks, Ay (tp :: KL) H H' -> KT T' H' -> Zr T T' mks gw.length -> AB H' tp = some (.sdict (dS (pre ++ gw.zip mks))) -> K .next [some (.loc 46), F1, F2, some (.lst (gw.map .str)), F4, f5] H') {c : Nat} : ∀ {i : Nat} {H1 : Hp} {T1 : Av} {mks : List Nat} {f5 : Option AV}, i + c = gw.length -> Ay (tp :: KL) H H1 -> KT T1 H1 -> Zr T T1 mks i -> AB H1 tp = some (.sdict (dS (pre ++ (gw.take i).zip mks))) ->
  CN (.rg n) (gN 5) (AG (Bs (Ai (AA (AI 906 BW (vL 0)) (AA (vL 5) AQ)) CC) (AI 906 Bh (vL 0)) (AL (vL 3) (vL 5) AR)) AS) (Mine.EK n) K (Mu i c) [some (.loc 46), F1, F2, some (.lst (gw.map .str)), F4, f5] H1 := by
 induction c with
 | zero =>
  intro i H1 T1 mks f5 hc b x mk g
  have e : i = gw.length := hc
  rw [e] at g mk
  rw [List.take_length] at g
  exact hK _ _ _ _ b x mk g
 | succ c ih =>
  intro i H1 T1 mks f5 hc b x mk g
  obtain ⟨w, ew⟩ := Am (l := gw) (i := i) (by exact Q3 hc)
  have hl := R9 (l := pre ++ (gw.take i).zip mks)
  rw [List.length_append, List.length_zip, List.length_take] at hl
  have ml := mk.l
  refine hk (b.2 46 _ (mE (by exact Q5 t63) (by exact pL)) hs) <| EL hkt <| eG x (by omega) (by exact zm hc sm hw ml) fun m T2 H2 p => ?_
  have B2 : Ay (tp :: KL) H H2 := b.trans (p.2.2.2.2.2.mono fun n hn => .tail _ hn)
  have g2 := p.2.2.2.2.2.2 tp _ (Hv (by exact pK t63)) g
  refine hk (B2.2 46 _ (mE (by exact Q5 t63) (by exact pL)) hs) <| EL htp <| QC (by exact Q2 hw) ew <| hk g2 <| AK (by omega) <| ih (by exact Q4 hc) (B2.put (.head _)) (p.2.2.2.2.1.but (Ay.set (.head _)) fun n h1 h6 => n1 (by exact bG t63 h6)) (mks := mks ++ [m]) ⟨mk.e.trans p.2.1, by have := p.2.2.1; exact Q69 this ml, by rw [List.length_append, mk.n]; rfl, fun j m' ej => ?_⟩ ?_
  ·rcases CO ej with h | ⟨h, h'⟩
   ·exact p.2.1.pos (mk.p j m' h)
   ·rw [h, h', mk.n]; exact p.1
  ·rw [D3 ew, Uv (by rw [List.length_take, mk.n]; omega), <- List.append_assoc, OW]; exact AD g2
noncomputable def O3 (s : Ae) (tid mid tp : Nat) : Ae := { s with owner_ := .int (tid : Int), mid_ := .int (mid : Int), tparams_ := .loc tp }
theorem em0 {s : Ae} {tid mid : Nat} {r : Ag} {v : VS} {K : Fl -> Ag -> Hp -> Prop} (h63 : 63 <= H.length) (hs : AB H 46 = some (.inst 906 s.L))
  (q : ∀ H', Ay [46] H H' -> H'.length = H.length + 1 -> AB H' 46 = some (.inst 906 (O3 s tid mid H.length).L) -> AB H' H.length = some (.sdict []) -> v (some (.loc 46) :: some (.int (tid : Int)) :: some (.int (mid : Int)) :: r) H' K) :
  AG (C7 906 Bc (vL 1) (vL 0)) (AG (C7 906 Cn (vL 2) (vL 0)) (AG (C7 906 Bh (Dh (.sdict [])) (vL 0)) v)) (some (.loc 46) :: some (.int (tid : Int)) :: some (.int (mid : Int)) :: r) H K := by
 have g1 := AD (o' := .inst 906 (Ae.L { s with owner_ := .int (tid : Int) })) hs
 have g2 := AD (o' := .inst 906 (Ae.L { s with owner_ := .int (tid : Int), mid_ := .int (mid : Int) })) g1
 have l2 : ∀ {o o' : AO}, (Ab (Ab H 46 o) 46 o').length = H.length := AF.trans AF
 have g3 := (AY.add (o := .sdict [])).2 _ _ g2
 refine hk hs <| hk g1 <| hk g3 ?_
 rw [l2]
 exact q _ ((((Ay.set (.head _)).put (.head _)).trans AY.add.but).put (.head _)) (AF.trans ((List.length_append ..).trans (congrArg (· + 1) l2))) (AD g3) (sn (by exact Q8 h63) (l2 ▸ Ah))
structure En (T : Av) (s : Ae) (tid : Nat) (y : Ty) (b0 g0 : AV) (ms : List AV) (m : Me) (mloc : Nat) (H : Hp) : Prop where
 s : AB H 46 = some (.inst 906 s.L)
 h : Qq tid y H
 x : KT T H
 u : Um tid y T
 hh : AB H 37 = some (.inst 544 (UZ b0 g0))
 h8 : AB H 8 = some (.list ms)
 em : Mine.getL ms m.mid = some (.loc mloc)
 mid : 0 < m.mid
 lms : ms.length < 1000
 hm : AB H mloc = some (.inst 292 m.L)
 lg : m.gb.length <= 2
 h63 : 63 <= H.length
 m63 : 63 <= mloc
 sm : T.rows.length < 890
theorem Xq {s : Ae} {tid mloc : Nat} {y : Ty} {b0 g0 : AV} {ms : List AV} {m : Me} {gw : List (List Nat)} (e : En T s tid y b0 g0 ms m mloc H) (hgw : gw.length = m.gb.length)
  (q : ∀ H' T' mks bo, Ay (46 :: 37 :: KL) H H' -> KT T' H' -> Zr T T' mks gw.length -> AB H' 46 = some (.inst 906 (O3 s tid m.mid H.length).L) -> AB H' H.length = some (.sdict (dS (y.words.zip y.vks ++ gw.zip mks))) -> H.length < bo -> bo + 1 < H'.length ->
   AB H' 37 = some (.inst 544 (UZ (.loc bo) (.loc (bo + 1)))) -> AB H' bo = some (.idict (To (y.vks.zip y.bnd ++ mks.zip m.gb))) -> AB H' (bo + 1) = some (.idict (dG (y.vks.zip y.bnd ++ mks.zip m.gb))) -> k .none H') : CJ [.loc 46, .int (tid : Int), .int (m.mid : Int), .lst (gw.map .str)] H k := by
 have h63 := e.h63
 have lg := e.lg
 have lw := e.h.lw
 have i := e.h.i
 refine L6 <| em0 h63 e.s fun H4 b4 l4 g4 t4 => ?_
 have h4 := e.h.keep fun n o hn => b4.2 n o (n1 (by exact nN hn))
 have x4 : KT T H4 := e.x.but b4 fun n h1 h6 => n1 (by exact fV h6)
 refine hk g4 <| hk h4.s <| hk h4.t <| YX h4 <| hk h4.g <| hk h4.p <| AK (by rw [List.length_map]; exact Q2 lw) <| HT (List.length_map ..) (by exact Q2 lw) <| Wt h4 x4 e.u rfl rfl g4 h63 rfl (fun f5 H5 b5 t5 => ?_) (Nat.zero_add _) .refl t4
 have x5 : KT T H5 := x4.but b5 fun n h1 h6 => n1 (by exact bG h63 h6)
 have g5 := b5.2 46 _ (n1 (by exact Q5 h63)) g4
 refine AK (by rw [List.length_map]; exact Q7 hgw lg) <| HT (List.length_map ..) (by exact Q7 hgw lg) <| Ws (T := T) (mks := []) (by rw [List.length_zip]; omega) (by exact fU hgw lg) e.sm rfl rfl g5 h63 (fun f5 H6 T6 mks b6 x6 mk t6 => ?_) (Nat.zero_add _) .refl x5 ⟨.refl, Nat.le_refl _, rfl, fun i m e => nomatch e⟩ (t5.trans (congrArg (fun l => some (AO.sdict (dS l))) (List.append_nil _).symm))
 have s6 := b6.2 46 _ (mE (by exact Q5 h63) (by exact pL)) g5
 have l5 := b5.1
 have l6 := b6.1
 have k6 : ∀ n o, n ≠ 46 -> n ≠ H.length -> n < 2 \/ 6 < n -> AB H n = some o -> AB H6 n = some o := fun n o a b c e => b6.2 n o (mE b c) (b5.2 n o (n1 b) (b4.2 n o (n1 a) e))
 have lm := AX e.hm
 have m63 := e.m63
 refine hk s6 <| hk s6 <| Xo (e.h.keep fun n o hn => k6 n o (by exact nN hn) (by exact zZ m63 lm hn) (by exact vz hn)) x6 (e.u.ext mk.e) (k6 _ _ (by exact vy) (by omega) (by omega) e.hh) (k6 _ _ (by omega) (by omega) (by omega) e.h8) e.em e.mid e.lms (k6 _ _ (by exact Q8 m63) (by exact Q1 lm) (by exact pK m63) e.hm) lg (mk.n.trans hgw) mk.p (by exact zV m63 lm l4 l6 l5) m63 fun H7 b7 g7 gb7 gg7 => ?_
 have l7 := AX gg7
 refine q H7 T6 mks _ ⟨Nat.le_trans (Nat.le_trans (by exact zQ l4 l5) l6) b7.1, fun n o hn e => b7.2 n o (n1 fun z => hn (z ▸ .tail _ (.head _))) ?_⟩ (x6.but b7 fun n h1 h6 => n1 (by exact Q81 h6)) mk (b7.2 46 _ (n1 (by omega)) s6) (b7.2 _ _ (n1 (by omega)) t6) (by exact zM l4 l6 l5) l7 g7 gb7 gg7
 have lt := AX e
 refine k6 n o (fun z => hn (z ▸ .head _)) (by exact Q1 lt) (Classical.byContradiction fun z => hn (.tail _ (.tail _ (Qr z)))) e
end
section
set_option genInjectivity false
variable {T : Av} {H : Hp} {k : AV -> Hp -> Prop}
noncomputable def Sp (s : Ae) (sc : Nat) : Ae := { s with scopes_ := .loc sc, rows_ := .loc (sc + 1), closed_ := .loc (sc + 2), loops_ := .lst [], deep_ := .int 0 }
theorem SJ {s : Ae} (hs : AB H 46 = some (.inst 906 s.L)) (h63 : 63 <= H.length)
  (q : ∀ H', H'.length = H.length + 3 -> Ay [46] H H' -> AB H' 46 = some (.inst 906 (Sp s H.length).L) -> AB H' H.length = some (.list []) -> AB H' (H.length + 1) = some (.list []) -> AB H' (H.length + 2) = some (.idict []) -> k .none H') : BX [.loc 46] H k := by
 have l2 : ∀ {o : AO}, (Ab (Af H (.list [])) 46 o).length = H.length + 1 := AF.trans (List.length_append ..)
 have l4 : ∀ {o o' : AO}, (Ab (Af (Ab (Af H (.list [])) 46 o) (.list [])) 46 o').length = H.length + 2 := AF.trans ((List.length_append ..).trans (congrArg (· + 1) l2))
 refine JV <| hk (AY.add.2 _ _ hs) <| hk (AY.add.2 _ _ (AD (AY.add.2 _ _ hs))) ?_
 rw [l2]
 refine hk (AY.add.2 _ _ (AD (AY.add.2 _ _ (AD (AY.add.2 _ _ hs))))) ?_
 rw [l4]
 refine hk (AD (AY.add.2 _ _ (AD (AY.add.2 _ _ (AD (AY.add.2 _ _ hs)))))) <| hk (AD (AD (AY.add.2 _ _ (AD (AY.add.2 _ _ (AD (AY.add.2 _ _ hs))))))) <| q _ ?_ ?_ (AD (AD (AD (AY.add.2 _ _ (AD (AY.add.2 _ _ (AD (AY.add.2 _ _ hs)))))))) (sn (by exact Q8 h63) (sn (by exact Q8 h63) (sn (by exact Q8 h63) (AY.add.2 _ _ (sn (by exact Q8 h63) (AY.add.2 _ _ (sn (by exact Q8 h63) Ah))))))) (sn (by exact pJ h63) (sn (by exact pJ h63) (sn (by exact pJ h63) (AY.add.2 _ _ (sn (by exact pJ h63) (l2 ▸ Ah)))))) (sn (by exact vn h63) (sn (by exact vn h63) (sn (by exact vn h63) (l4 ▸ Ah))))
 ·exact AF.trans (AF.trans (AF.trans ((List.length_append ..).trans (congrArg (· + 1) l4))))
 ·exact ((((((AY.add.but.put (.head _)).trans AY.add.but).put (.head _)).trans AY.add.but).put (.head _)).put (.head _)).put (.head _)
inductive FE : List AV -> List (List Nat) -> Prop
 | nil : FE [] []
 | cons {s ks m a : AV} {g : List Nat} {tl : List AV} {gw : List (List Nat)} : FE tl gw -> FE (nd s (.tup [.str g, .int 0]) ks m a :: tl) (g :: gw)
inductive Gg : AV -> List (List Nat) -> AV -> Prop
 | none : Gg .none [] (.int 0)
 | other {s : Int} {w ks m a : AV} : s ≠ 91 -> Gg (nd (.int s) w ks m a) [] a
 | meth {w m a b c d e : AV} {ks tl : List AV} {gw : List (List Nat)} : ks.length < 1000 -> Mine.getL ks 1 = some (nd b c (.lst tl) d e) -> tl.length < 1000 -> FE tl gw -> Gg (nd (.int 91) w (.lst ks) m a) gw a
theorem kR {all tl : List AV} {gw : List (List Nat)} {k : List AV -> Hp -> Prop} (r : FE tl gw) : ∀ {acc : List AV}, k (acc ++ gw.map .str) H ->
  FL (.fl all) U5 (AL (AI 355 oX (vL 0)) (vC (.int 0)) AR) all [] k tl acc H := by
 induction r with
 | nil => exact fun {acc} q => (congrArg (fun l => k l H) (List.append_nil acc)).mp q
 | cons r ih => exact fun q => ih (by rw [List.append_assoc]; exact q)
theorem mc {b c d e : AV} {tl : List AV} {gw : List (List Nat)} (hl : tl.length < 1000) (r : FE tl gw) (q : k (.lst (gw.map .str)) H) : Be [nd b c (.lst tl) d e] H k :=
 L1 <| AK (by exact Q0 hl) <| kR r q
noncomputable def gIf : VS := (Iw (Mt (BK (AL (vL 2) (vC .none) (fE true))) (Mt (BK (AL (AI 355 DA (vL 2)) (vC (.int 91)) Qv)) Ni)) (AG (BM 4 (Ai (AA (AL (AI 355 Fb (vL 2)) (vC (.int 1)) AR) AQ) Be)) AS) AS)
noncomputable def nAt : VE := (Ky (BK (AL (vL 2) (vC .none) (fE false))) (vC (.int 0)) (AI 355 JS (vL 2)))
theorem pa {node at_ : AV} {gw : List (List Nat)} {a b c d e : Option AV} {K : Fl -> Ag -> Hp -> Prop} (hn : Gg node gw at_) (hK : K .next [a, b, some node, c, some (.lst (gw.map .str)), d, e] H) : gIf [a, b, some node, c, some (.lst []), d, e] H K := by
 cases hn with
 | none => exact hK
 | other hs => exact bF (SR hs) hK
 | meth hl e1 ht r => exact QD (i := 1) rfl (by exact Q0 hl) e1 (mc ht r hK)
theorem fx {node at_ : AV} {gw : List (List Nat)} {a b c d e f : Option AV} (hn : Gg node gw at_) (q : k at_ H) : nAt [a, b, some node, c, d, e, f] H k := by
 cases hn with
 | none => exact q
 | other hs => exact q
 | meth hl e1 ht r => exact q
theorem C4 {n : Nat} {o o' : AO} (e : AB H n = some o) : AB (Ab H n o') n = some o' := AD e
noncomputable def Z9 (s : Ae) : Ae := { s with init_ := .int 0, checked_ := .int 0, free_ := .int 0 }
noncomputable def O2 (s : Ae) (st : Int) : Ae := { s with static_ := .int st }
noncomputable def gr (s : Ae) (f : Nat) : Ae := { s with fn_ := .loc f }
theorem eb0 {s : Ae} {r : Ag} {v : VS} {K : Fl -> Ag -> Hp -> Prop} (hs : AB H 46 = some (.inst 906 s.L))
  (q : ∀ H', Ay [46] H H' -> H'.length = H.length -> AB H' 46 = some (.inst 906 (Z9 s).L) -> v (some (.loc 46) :: r) H' K) :
  AG (C7 906 HL (vC (.int 0)) (vL 0)) (AG (C7 906 DV (vC (.int 0)) (vL 0)) (AG (C7 906 HO (vC (.int 0)) (vL 0)) v)) (some (.loc 46) :: r) H K :=
 hk hs <| hk (C4 hs) <| hk (C4 (C4 hs)) <| q _ (((Ay.set (.head _)).put (.head _)).put (.head _)) (AF.trans (AF.trans AF)) (C4 (C4 (C4 hs)))
structure Un (fns : List AV) (M : List (Int × AV)) (H : Hp) : Prop where
 u : AB H 28 = some (.inst 467 bZ)
 g29 : AB H 29 = some (.list fns)
 g31 : AB H 31 = some (.idict M)
 lf : fns.length < 1000
 lM : M.length < 1000
theorem Un.keep {fns : List AV} {M : List (Int × AV)} {H' : Hp} (x : Un fns M H) (h : ∀ n o, 28 <= n -> n <= 31 -> AB H n = some o -> AB H' n = some o) : Un fns M H' :=
 { x with u := h _ _ (by decide) (by decide) x.u, g29 := h _ _ (by decide) (by decide) x.g29, g31 := h _ _ (by decide) (by decide) x.g31 }
noncomputable def ebT : VS := (AG (BM 5 (Ai (AA (AI 906 E8 (vL 0)) (AA (vL 1) (AA (vC (.int 0)) (AA nAt AQ)))) Eo)) (AG (BM 6 (AL (AI 467 II (AI 906 E8 (vL 0))) (vL 5) AR)) (AG (C7 446 Bt (AI 292 Bt (vL 3)) (vL 6)) (AG (Iw (Mr (BK (AI 906 Dm (vL 0)))) (AG (C7 446 DU (Ai (AA (AI 906 CX (vL 0)) (AA (AI 292 Bc (vL 3)) AQ)) Cs) (vL 6)) AS) AS) (AG (C7 906 Pz (vL 6) (vL 0)) (AG (Hs (vL 6)) AS))))))
noncomputable def IG (st : Int) (own : Nat) : Int := bif st == 0 then own else -1
theorem mi {mloc : Nat} {y : Ty} {s : Ae} {m : Me} {fns : List AV} {M : List (Int × AV)} {node at_ : AV} {gw : List (List Nat)} {st : Int} {f4 f5 f6 : Option AV} (hs : AB H 46 = some (.inst 906 (O2 s st).L)) (hst : st = 0 \/ st = 1) (h : Qq m.tid y H) (x : KT T H) (u : Um m.tid y T)
  (hm : AB H mloc = some (.inst 292 m.L)) (hn : Gg node gw at_) (w : Un fns M H) (hmid : 0 < m.mid) (h63 : 63 <= H.length) (m63 : 63 <= mloc)
  (q : ∀ H', Ay [46, 29, 31] H H' -> H.length + 3 <= H'.length -> AB H' 46 = some (.inst 906 (gr (O2 s st) H.length).L) -> AB H' 29 = some (.list (fns ++ [.loc H.length])) -> AB H' 31 = some (.idict (D5 M m.mid (.int (fns.length : Int)))) ->
   AB H' H.length = some (.inst 446 (Fn.L ⟨fns.length, m.mid, H.length, IG st y.own, m.ret, at_⟩ 0 (-1))) -> AB H' (H.length + 1) = some (.list []) -> AB H' (H.length + 2) = some (.list []) -> k (.loc H.length) H') :
  ebT [some (.loc 46), some (.int (m.mid : Int)), some node, some (.loc mloc), f4, f5, f6] H (EP k) := by
 have lm := AX hm
 have i := h.i
 have lf := w.lf
 refine hk hs <| fx hn <| Xp w.u w.g29 w.g31 hmid lf w.lM fun H4 l4 b4 g29 g31 q0 q1 q2 => ?_
 have k4 : ∀ {n o}, n ≠ 29 -> n ≠ 31 -> AB H n = some o -> AB H4 n = some o := fun a b => b4.2 _ _ (HQ a b)
 have s4 := k4 (by decide) (by decide) hs
 have m4 := k4 (by omega) (by omega) hm
 have s5 : ∀ {o}, AB (Ab H4 H.length o) 46 = _ := sn (by exact Q5 h63) s4
 refine hk s4 <| hk (k4 (by decide) (by decide) w.u) <| hk g29 <| QD rfl (by rw [List.length_append, List.length_singleton]; exact Q96 lf) Dq <| hk m4 <| hk q0 <| hk s5 ?_
 have B4 : Ay [46, 29, 31] H H4 := b4.mono fun n hn => .tail _ hn
 have b5 : ∀ {o}, Ay [46, 29, 31] H (Ab H4 H.length o) := B4.fresh (Ay.set (.head _)) fun n h => n1 (by exact Q1 h)
 rcases hst with rfl | rfl
 ·refine hk s5 <| hk (sn (by exact Q1 lm) m4) <| eA (h.keep fun n o hn e => b5.2 n o (L0 (by exact nN hn) (by omega) (by omega)) e) (x.but b5 fun n h1 h6 => L0 (by exact fV h6) (by exact Q98 h6) (by exact Q99 h6)) u fun H6 k6 => ?_
  have s6 := k6.2 _ _ s5
  have f6 := k6.2 _ _ (C4 q0)
  have l6 := k6.1
  have kk : ∀ {n o x y}, n ≠ 46 -> n ≠ H.length -> AB H4 n = some o -> AB (Ab (Ab H6 H.length x) 46 y) n = some o := fun a b e => sn a (sn b (k6.2 _ _ (sn b e)))
  refine hk f6 <| hk (sn (by exact oH m63 lm) s6) <| q _ ?_ ?_ (C4 (sn (by exact oH m63 lm) s6)) (kk (by decide) (by exact oG m63 lm) g29) (kk (by decide) (by exact oF m63 lm) g31) (sn (by exact pH m63 lm) (C4 f6)) (kk (by exact oE m63 lm) (by exact bH) q1) (kk (by exact oD m63 lm) (by exact fW) q2)
  ·exact ((b5.trans k6.but).fresh (Ay.set (.head _)) fun n h => n1 (by exact Q1 h)).put (.head _)
  ·exact Nat.le_trans (Nat.le_trans (Nat.le_of_eq l4.symm) (Nat.le_trans (Nat.le_of_eq AF.symm) l6)) (Nat.le_of_eq (AF.trans AF).symm)
 ·have kk : ∀ {n o x y}, n ≠ 46 -> n ≠ H.length -> AB H4 n = some o -> AB (Ab (Ab H4 H.length x) 46 y) n = some o := fun a b e => sn a (sn b e)
  refine hk s5 <| q _ (b5.put (.head _)) ?_ (C4 s5) (kk (by decide) (by exact oG m63 lm) g29) (kk (by decide) (by exact oF m63 lm) g31) (sn (by exact pH m63 lm) (C4 q0)) (kk (by exact oE m63 lm) (by exact bH) q1) (kk (by exact oD m63 lm) (by exact fW) q2)
  exact Nat.le_of_eq (l4.symm.trans (AF.trans AF).symm)
end
section
set_option genInjectivity false
variable {T : Av} {H : Hp} {k : AV -> Hp -> Prop}
noncomputable def RJ (fl : Int) : Int := bif decide (Builtin.bitAnd fl 1 ≠ 0) then 1 else 0
structure Ent (s : Ae) (y : Ty) (gw : List (List Nat)) (m : Me) (mks : List Nat) (fns : List AV) (M : List (Int × AV)) (at_ : AV) (T T' : Av) (H H' : Hp) (tp bo sc : Nat) : Prop where
 b : Ay (46 :: 37 :: 29 :: 31 :: KL) H H'
 x : KT T' H'
 mx : Zr T T' mks gw.length
 s : AB H' 46 = some (.inst 906 (Ld s m.tid m.mid tp sc (sc + 3) (RJ m.fl)).L)
 lt : H.length <= tp /\ tp < bo /\ bo + 1 < sc /\ sc + 6 <= H'.length
 t : AB H' tp = some (.sdict (dS (y.words.zip y.vks ++ gw.zip mks)))
 h : AB H' 37 = some (.inst 544 (UZ (.loc bo) (.loc (bo + 1))))
 hb : AB H' bo = some (.idict (To (y.vks.zip y.bnd ++ mks.zip m.gb)))
 hg : AB H' (bo + 1) = some (.idict (dG (y.vks.zip y.bnd ++ mks.zip m.gb)))
 q0 : AB H' sc = some (.list [])
 q1 : AB H' (sc + 1) = some (.list [])
 q2 : AB H' (sc + 2) = some (.idict [])
 g29 : AB H' 29 = some (.list (fns ++ [.loc (sc + 3)]))
 g31 : AB H' 31 = some (.idict (D5 M m.mid (.int (fns.length : Int))))
 f0 : AB H' (sc + 3) = some (.inst 446 (Fn.L ⟨fns.length, m.mid, sc + 3, IG (RJ m.fl) y.own, m.ret, at_⟩ 0 (-1)))
 f1 : AB H' (sc + 4) = some (.list [])
 f2 : AB H' (sc + 5) = some (.list [])
theorem YM {n a b : Nat} (h : n ≠ a) (h1 : n ≠ b) (h2 : n < 2 \/ 6 < n) : n ∉ a :: b :: KL := fun z => by cases z with
 | head => exact h rfl
 | tail _ z => exact mE h1 h2 z
theorem Xr {s : Ae} {mloc : Nat} {y : Ty} {b0 g0 : AV} {ms fns : List AV} {M : List (Int × AV)} {m : Me} {gw : List (List Nat)} {node at_ : AV} (e : En T s m.tid y b0 g0 ms m mloc H) (hgw : gw.length = m.gb.length) (hn : Gg node gw at_) (w : Un fns M H)
  (q : ∀ H' T' mks tp bo sc, Ent s y gw m mks fns M at_ T T' H H' tp bo sc -> k (.loc (sc + 3)) H') : CS [.loc 46, .int (m.mid : Int), node] H k := by
 have h63 := e.h63
 have m63 := e.m63
 have lm := AX e.hm
 have hms := Bn e.em
 have lms := e.lms
 refine OI <| hk e.s <| hk e.h.s <| hk e.h8 <| QD rfl (by exact Q0 lms) e.em <| pa hn <| hk e.hm <| Xq e hgw fun H1 T1 mks bo b1 x1 mk s1 t1 bo1 bo2 gh gb gg => SJ s1 (by omega) fun H2 l2 b2 s2 q0 q1 q2 => ?_
 have B2 : Ay (46 :: 37 :: KL) H H2 := b1.trans (b2.mono fun n hn => List.mem_singleton.mp hn ▸ .head _)
 have m2 := B2.2 mloc _ (YM (by exact Q8 m63) (by exact nK m63) (by exact pK m63)) e.hm
 have go : ∀ st : Int, st = RJ m.fl -> (st = 0 \/ st = 1) -> AG (C7 906 Dm (vC (.int st)) (vL 0)) (AG (C7 906 HL (vC (.int 0)) (vL 0)) (AG (C7 906 DV (vC (.int 0)) (vL 0)) (AG (C7 906 HO (vC (.int 0)) (vL 0)) ebT))) [some (.loc 46), some (.int (m.mid : Int)), some node, some (.loc mloc), some (.lst (gw.map .str)), none, none] H2 (EP k) := fun st es hst => by
  refine hk s2 <| eb0 (s := O2 (Sp (O3 s m.tid m.mid H.length) H1.length) st) (C4 s2) fun H3 b3 l3 s3 => ?_
  have b3' := (Ay.set (o := .inst 906 (O2 (Sp (O3 s m.tid m.mid H.length) H1.length) st).L) (.head _)).trans b3
  have B3 : Ay (46 :: 37 :: KL) H H3 := B2.trans (b3'.mono fun n hn => List.mem_singleton.mp hn ▸ .head _)
  have L3 : H3.length = H1.length + 3 := l3.trans (AF.trans l2)
  refine mi (s := Z9 (O2 (Sp (O3 s m.tid m.mid H.length) H1.length) st)) s3 hst (e.h.keep fun n o hn => B3.2 n o (YM (by exact nN hn) (by exact Q97 hn) (by exact vz hn))) (x1.but (b2.trans b3') fun n h1 h6 => n1 (by exact fV h6)) (e.u.ext mk.e) (B3.2 mloc _ (YM (by exact Q8 m63) (by exact nK m63) (by exact pK m63)) e.hm) hn (w.keep fun n o h h' => B3.2 n o (YM (by omega) (by omega) (by omega))) e.mid (by exact yi m63 bo2 bo1 lm L3) m63 fun H4 b4 l4 g46 g29 g31 f0 f1 f2 => ?_
  rw [L3] at g46 g29 f0 f1 f2 l4 ⊢
  subst es
  have kk : ∀ {n o}, n ≠ 46 -> n ≠ 29 -> n ≠ 31 -> AB H2 n = some o -> AB H4 n = some o := fun a b c e => b4.2 _ _ (L0 a b c) (b3'.2 _ _ (n1 a) e)
  have k2 : ∀ {n o}, n ≠ 46 -> AB H1 n = some o -> AB H2 n = some o := fun a e => b2.2 _ _ (n1 a) e
  refine q H4 T1 mks H.length bo H1.length ⟨?_, ?_, mk, g46, ⟨Nat.le_refl _, bo1, by exact nk bo2, by exact yE l4⟩, ?_, ?_, ?_, ?_, ?_, ?_, ?_, g29, g31, f0, f1, f2⟩
  ·exact ⟨Nat.le_trans B3.1 b4.1, fun n o hn e => b4.2 n o (L0 (fun z => hn (z ▸ .head _)) (fun z => hn (z ▸ .tail _ (.tail _ (.head _)))) fun z => hn (z ▸ .tail _ (.tail _ (.tail _ (.head _))))) (B3.2 n o (fun z => hn (by
    cases z with
    | head => exact .head _
    | tail _ z => exact .tail _ (by cases z with
     | head => exact .head _
     | tail _ z => exact .tail _ (.tail _ (.tail _ z))))) e)⟩
  ·exact (x1.but (b2.trans b3') fun n h1 h6 => n1 (by exact fV h6)).but b4 fun n h1 h6 => L0 (by exact fV h6) (by exact Q98 h6) (by exact Q99 h6)
  ·exact kk (by exact pH m63 lm) (by omega) (by omega) (k2 (by exact pH m63 lm) t1)
  ·exact kk (by exact vy) (by omega) (by omega) (k2 (by exact vy) gh)
  ·exact kk (by exact ni m63 bo1 lm) (by omega) (by omega) (k2 (by exact ni m63 bo1 lm) gb)
  ·exact kk (by exact nh m63 bo1 lm) (by omega) (by omega) (k2 (by exact nh m63 bo1 lm) gg)
  ·exact kk (by omega) (by omega) (by omega) q0
  ·exact kk (by omega) (by exact xw m63 bo2 lm bo1) (by omega) q1
  ·exact kk (by omega) (by omega) (by omega) q2
 refine hk m2 <| bI (fun z => ?_) fun z => ?_
 ·exact go _ (by unfold RJ; rw [z]; rfl) (.inr rfl)
 ·exact go _ (by unfold RJ; rw [z]; rfl) (.inl rfl)
end
section
variable {T : Av} {H : Hp} {k : AV -> Hp -> Prop}
variable {a : Nat} {gs : List Int} {R : List (List Nat × AV)}
theorem LA {m : Int} (x : WS a gs R H) (hm : 0 < m) (hm' : m < 1000)
  (q : ∀ r H', 0 <= r -> r < m -> BA a H H' -> WS a gs R H' -> H'.length = H.length -> k (.int r) H') : Ad [.loc a, .int m] H k := by
 obtain ⟨⟨p, s, n, g, h1, h2, h3⟩, r1, r2⟩ := x
 exact Xm g r2 r1 h1 ⟨h2, h3⟩ ⟨hm, hm'⟩ fun r p' s' a b c d e => q r _ a b .set ⟨⟨p', s', n, AD g, c, d, e⟩, r1, r2⟩ AF
theorem Ak {key : List Nat} {v : AV} (x : WS a gs R H) (hq : ∀ p s n, Ao (wl gs p s n R) key = Ao R key) (e : Ao R key = some v) (q : k v H) : AR (.loc a) (.str key) H k := by
 obtain ⟨⟨p, s, n, g, _⟩, _⟩ := x
 exact hk g (EL ((hq p s n).trans e) q)
theorem eU {P : AV -> Prop} {x y z : AV} (hx : P x) (hy : P y) (hz : P z) : ∀ v ∈ [x, y, z], P v := fun v h => by
 cases h with
 | head => exact hx
 | tail _ h => exact eV hy hz v h
noncomputable def bEl : VE := (Au (AA (AL (Au (AA (vC (.int 0)) (AA (vC (.int 1)) (AA (vC (.int 4)) AQ)))) (Ai (AA (vL 2) (AA (vC (.int 3)) AQ)) Ad) AR) (AA (AL (vL 1) (Ai (AA (vL 2) (AA (vC (.int 3)) AQ)) Ad) AR) AQ)))
theorem UR {n : Nat} {f : Int} {all : List AV} {k : List AV -> Hp -> Prop} {r : List AV} : ∀ {acc : List (Int × List Int)} {H : Hp}, WS a gs R H ->
  (∀ (gb : List (Int × List Int)) (H' : Hp), gb.length = acc.length + r.length -> BA a H H' -> WS a gs R H' -> H'.length = H.length -> k (gb.map bp) H') ->
  FL (.rg n) U5 bEl all [some (.tup [.tup [], .tup [.int f], .tup [.int f, .int 12]]), some (.loc a)] k r (acc.map bp) H := by
 induction r with
 | nil => exact fun w q => q _ _ rfl .refl w rfl
 | cons x r ih =>
  intro acc H w q
  refine LA w (by decide) (by decide) fun n1 H1 n0 n1' o1 w1 l1 => Ki n0 n1' (by decide : 3 < 100000) fun v hv => ?_
  obtain ⟨b, rfl⟩ := eU (P := fun v => ∃ b : Int, v = .int b) ⟨_, rfl⟩ ⟨_, rfl⟩ ⟨_, rfl⟩ v hv
  refine LA w1 (by decide) (by decide) fun n2 H2 m0 m1 o2 w2 l2 => Ki m0 m1 (by decide : 3 < 100000) fun v hv => ?_
  obtain ⟨l, rfl⟩ := eU (P := fun v => ∃ l : List Int, v = .tup (l.map .int)) ⟨[], rfl⟩ ⟨[f], rfl⟩ ⟨[f, 12], rfl⟩ v hv
  have z := ih (acc := acc ++ [(b, l)]) w2 fun gb H3 hl o3 w3 l3 => q gb H3 (by rw [hl, List.length_append, List.length_singleton, List.length_cons]; exact vh) ((o1.trans o2).trans o3) w3 (l3.trans (l2.trans l1))
  rw [List.map_append] at z
  exact z
theorem Ol {m : Nat} {f : Int} (w : WS a gs R H) (hf : Ao R [102, 97, 99, 101] = some (.int f)) (hm : m < 1000) (q : ∀ (gb : List (Int × List Int)) H', gb.length = m -> BA a H H' -> WS a gs R H' -> H'.length = H.length -> k (.lst (gb.map bp)) H') : Bo [.loc a, .int (m : Int)] H k :=
 OH <| Ak w (fun _ _ _ => rfl) hf <| Ak w (fun _ _ _ => rfl) hf <| AK (show m < 100000 by exact Q0 hm) <| AK (by rw [Dj]; show m < 100000; exact Q0 hm) <| UR (acc := []) w fun gb H' hl o w' l => q gb H' (by rw [hl, Dj]; exact Nat.zero_add m) o w' l
theorem FE.snoc {s ks m a : AV} {g : List Nat} {tl : List AV} {gw : List (List Nat)} (h : FE tl gw) : FE (tl ++ [nd s (.tup [.str g, .int 0]) ks m a]) (gw ++ [g]) := by
 induction h with
 | nil => exact .cons .nil
 | cons _ ih => exact .cons ih
theorem Ww {all : List AV} {ws : List Nat} {k : List AV -> Hp -> Prop} {r : List Nat} : ∀ {acc : List AV} {gw : List (List Nat)} {H : Hp}, WS a gs R H -> FE acc gw ->
  (∀ (tl : List AV) (H' : Hp), tl.length = acc.length + r.length -> FE tl (gw ++ r.map fun c => [c]) -> BA a H H' -> WS a gs R H' -> k tl H') ->
  FL (.st ws) U5 (Ai (AA (vL 1) (AA (vC (.int 87)) (AA (Au (AA (vL 0) (AA (vC (.int 0)) AQ))) (AA (Nc AQ) (AA (vC (.int 0)) AQ))))) Bk) all [some (.loc a)] k (CM r) acc H := by
 induction r with
 | nil => exact fun w ht q => q _ _ rfl (by rw [List.map_nil, List.append_nil]; exact ht) .refl w
 | cons c r ih =>
  intro acc gw H w ht q
  refine BN w fun at_ H1 o1 w1 => ih w1 ht.snoc fun tl H2 hl t2 o2 w2 => q tl H2 ?_ ?_ (o1.trans o2) w2
  ·rw [hl, List.length_append, List.length_singleton, List.length_cons]; exact vh
  ·rw [List.append_assoc] at t2; exact t2
theorem YR {so mods : Int} {ws : List Nat} {body : AV} (w : WS a gs R H) (hs : so = 91 \/ so = 99 \/ so = 96) (hw : ws.length <= 2) (h0 : so ≠ 91 -> ws = [])
  (q : ∀ wd ks at_ H', ks.length < 1000 -> Mine.getL ks (Ob so) = some body -> Gg (nd (.int so) wd (.lst ks) (.int mods) (.int at_)) (ws.map fun c => [c]) (.int at_) -> BA a H H' -> WS a gs R H' -> k (nd (.int so) wd (.lst ks) (.int mods) (.int at_)) H') : Cu [.loc a, .int so, .int mods, .str ws, body] H k := by
 rcases hs with rfl | rfl | rfl
 ·refine HS <| BN w fun a1 H1 o1 w1 => BN w1 fun a2 H2 o2 w2 => AK (by rw [Ee]; exact Q2 hw) <| Ww w2 .nil fun tl H3 hl t3 o3 w3 => BN w3 fun a4 H4 o4 w4 => AK (by exact Q2 hw) <| BN w4 fun a5 H5 o5 w5 => ?_
  exact q _ _ _ _ (show 6 < 1000 by decide) rfl (.meth (show 6 < 1000 by decide) rfl (by rw [hl, List.length_nil]; omega) t3) ((((o1.trans o2).trans o3).trans o4).trans o5) w5
 ·rw [h0 (by decide)] at q ⊢
  exact HS <| BN w fun a1 H1 o1 w1 => BN w1 fun a2 H2 o2 w2 => BN w2 fun a3 H3 o3 w3 => q _ _ _ _ (show 3 < 1000 by decide) rfl (.other (by decide)) ((o1.trans o2).trans o3) w3
 ·rw [h0 (by decide)] at q ⊢
  exact HS <| BN w fun a1 H1 o1 w1 => q _ _ _ _ (show 1 < 1000 by decide) rfl (.other (by decide)) o1 w1
theorem Ga {s : Ae} {n : Nat} {y : AV} {kk : Hp -> Prop} (hs : AB H 46 = some (.inst 906 s.L)) (e : ∀ y, ∃ s' : Ae, Im s.L n y = s'.L) (q : ∀ s' H', BA 46 H H' -> AB H' 46 = some (.inst 906 (Ae.L s')) -> kk H') : hK (AB H 46) (fA 906 n 46 y H kk) := by
 obtain ⟨s', e⟩ := e y
 exact hk hs (show kk (Ab H 46 (.inst 906 (Im s.L n y))) from e ▸ q s' _ .set (C4 hs))
theorem Nt {s : List Nat} {x : AV} (q : ∀ H', AY H H' -> k (.loc H.length) H') : Nh (Fp (vC (.str s)) (vC x) Na) [] H k :=
 hk Ah <| q _ (AY.add.fresh (Nat.le_refl _))
theorem Oj {s : Ae} (w : WS a gs R H) (ha : a ≠ 46) (hs : AB H 46 = some (.inst 906 s.L)) (q : ∀ s' H', Ay [a, 46] H H' -> WS a gs R H' -> AB H' 46 = some (.inst 906 (Ae.L s')) -> k .none H') : CQ [.loc a, .loc 46] H k := by
 have st : ∀ {H H' : Hp}, BA 46 H H' -> WS a gs R H -> WS a gs R H' := fun o w => w.keep fun _ e => o.2 _ _ ha e
 have bt : ∀ {H' : Hp}, Ay [a, 46] H H' -> ∀ {H''}, BA 46 H' H'' -> Ay [a, 46] H H'' := fun b _ o => b.only o (.tail _ (.head _))
 have ba : ∀ {H' : Hp}, Ay [a, 46] H H' -> ∀ {H''}, BA a H' H'' -> Ay [a, 46] H H'' := fun b _ o => b.only o (.head _)
 refine OF <| Nt fun H1 k1 => Nt fun H2 k2 => ?_
 have w2 := w.keep fun o e => (k1.trans k2).2 _ _ e
 refine Ga ((k1.trans k2).2 _ _ hs) (fun y => ⟨{ s with scopes_ := y }, rfl⟩) fun s1 H3 o3 g3 => Ga g3 (fun y => ⟨{ s1 with rows_ := y }, rfl⟩) fun s2 H4 o4 g4 => ?_
 have b4 := bt (bt (k1.trans k2).but o3) o4
 have w4 := st o4 (st o3 w2)
 refine Nt (H := Af H4 (.idict [])) fun H5 k5 => hk (AY.add.2 _ _ (k5.2 _ _ Ah)) <| ?_
 have k6 := ((AY.add.trans k5).trans (AY.add (o := .sdict []))).fresh (Nat.le_refl _) (o := .idict [(1, .loc (Af H4 (.idict [])).length), (2, .loc H5.length)])
 have b6 := b4.trans k6.but
 have w6 := w4.keep fun o e => k6.2 _ _ e
 refine Ga (k6.2 _ _ g4) (fun y => ⟨{ s2 with closed_ := y }, rfl⟩) fun s3 H7 o7 g7 => C8 (st o7 w6) (by decide) (by decide) fun _ H8 _ _ o8 w8 => ?_
 refine Ga (o8.2 _ _ (Ne.symm ha) g7) (fun y => ⟨{ s3 with loops_ := y }, rfl⟩) fun s4 H9 o9 g9 => Ga g9 (fun y => ⟨{ s4 with deep_ := y }, rfl⟩) fun s5 H10 o10 g10 => C8 (st o10 (st o9 w8)) (by decide) (by decide) fun _ H11 _ _ o11 w11 => ?_
 refine Ga (o11.2 _ _ (Ne.symm ha) g10) (fun y => ⟨{ s5 with static_ := y }, rfl⟩) fun s6 H12 o12 g12 => C8 (st o12 w11) (by decide) (by decide) fun _ H13 _ _ o13 w13 => ?_
 refine Ga (o13.2 _ _ (Ne.symm ha) g12) (fun y => ⟨{ s6 with init_ := y }, rfl⟩) fun s7 H14 o14 g14 => C8 (st o14 w13) (by decide) (by decide) fun _ H15 _ _ o15 w15 => ?_
 refine Ga (o15.2 _ _ (Ne.symm ha) g14) (fun y => ⟨{ s7 with checked_ := y }, rfl⟩) fun s8 H16 o16 g16 => C8 (st o16 w15) (by decide) (by decide) fun _ H17 _ _ o17 w17 => ?_
 exact Ga (o17.2 _ _ (Ne.symm ha) g16) (fun y => ⟨{ s8 with free_ := y }, rfl⟩) fun s9 H18 o18 g18 => q s9 H18 (bt (ba (bt (ba (bt (ba (bt (ba (bt (bt (ba (bt b6 o7) o8) o9) o10) o11) o12) o13) o14) o15) o16) o17) o18) (st o18 w17) g18
end
section
variable {T : Av} {H : Hp} {k : AV -> Hp -> Prop}
theorem sb {n : Nat} (h : n < 100000) : bx (n : Int) = true := Nat.ble_eq_true_of_le (show n + 1 <= _ by omega)
theorem Oz {n : Nat} (h : n < 20) : (GY ((n : Nat) : Int)).length < 100 := (by decide +kernel : ∀ n, n < 20 -> (GY ((n : Nat) : Int)).length < 100) n h
theorem Ri {q n N : Nat} {f0 : Option AV} {K : Fl -> Ag -> Hp -> Prop} (hN : N <= 20) (hq : H.length = q) (hK : ∀ f2 l' H', AY H H' -> AB H' q = some (.list l') -> l'.length = N -> K .next [f0, some (.loc q), f2] H') {c : Nat} : ∀ {i : Nat} {H1 : Hp} {f2 : Option AV} {l : List AV}, i + c = N -> l.length = i -> AY H H1 -> AB H1 q = some (.list l) ->
  CN (.rg n) (gN 2) (AG (BE (Di (vL 1) (AL (vC (.str [112])) (BR (vL 2) UH) aI))) AS) (Mine.EK n) K (Mu i c) [f0, some (.loc q), f2] H1 := by
 induction c with
 | zero => exact fun hc hl k1 g => hK _ _ _ k1 g (hl.trans hc)
 | succ c ih =>
  intro i H1 f2 l hc hl k1 g
  have := Oz (n := i) (by exact xn hc hN)
  exact hk g <| Ei (sb (by omega)) <| AK (by exact bE this) <| hk g <| AK (by exact xk hc hl hN) <| ih (by exact Q4 hc) (by rw [List.length_append, hl]; rfl) (k1.fresh (Nat.le_of_eq hq)) (C4 g)
theorem ZX {n : Nat} (hn : n < 20) (q : ∀ l H', AY H H' -> k (.tup l) H') : Cf [.int (n : Int)] H k :=
 Mb <| HT rfl (by exact eX hn) <| Ri (n := n) (N := n) (by omega) rfl (fun f2 l H' k' g hl => hk g <| AK (by omega) <| q l H' k') (Nat.zero_add _) (l := []) rfl AY.add Ah
noncomputable def mdL (a b c d e f : AV) (ng gn gb : AV) (ks : List AV) (pn pf : AV) : List (Nat × AV) := [(Cn, a), (Bc, b), (Ba, c), (JT, d), (CY, e), (Lr, ng), (HN, gn), (Es, gb), (Bt, f), (Ap, .tup ks), (Fv, pn), (Fw, pf), (Iq, .none), (Ls, .int 0)]
theorem vE {a b c d e f : AV} {kl : Nat} {ks : List AV} (hg : AB H kl = some (.list ks)) (hl : ks.length < 20) (q : ∀ H' pn pf, AY H H' -> H.length < H'.length -> AB H' H.length = some (.inst 292 (mdL a b c d e f (.int 0) (.lst []) (.lst []) ks pn pf)) -> k (.loc H.length) H') : Cy [a, b, c, d, e, f, .loc kl] H k := by
 have lk := AX hg
 refine QS <| J9 <| C1 rfl <| C1 rfl <| C1 rfl <| C1 rfl <| C1 rfl <| C1 rfl <| C1 rfl <| C1 rfl <| C1 rfl <| hk (Aj.2 _ _ hg) <| AK (by exact eX hl) <| C1 rfl <| hk (Aj.2 _ _ hg) <| AK (by exact eX hl) <| ZX hl fun pn H1 k1 => ?_
 have g1 : AB H1 H.length = some (.inst 292 [(Cn, a), (Bc, b), (Ba, c), (JT, d), (CY, e), (Lr, .int 0), (HN, .lst []), (Es, .lst []), (Bt, f), (Ap, .tup ks)]) := k1.2 _ _ Kl
 have l1 := k1.1
 rw [List.length_append, List.length_singleton] at l1
 refine hk g1 <| hk (sn (by exact Q1 lk) (k1.2 _ _ (Aj.2 _ _ hg))) ?_
 refine AK (by exact eX hl) ?_
 refine Ei ?_ ?_
 ·show (Nat.ble (ks.length + 1) 1000 && true) = true
  rw [Bool.and_true]; exact Nat.ble_eq_true_of_le (by omega)
 refine hk (C4 g1) <| hk (C4 (C4 g1)) <| hk (C4 (C4 (C4 g1))) <| q _ _ _ ((((((Aj.trans k1).fresh (Nat.le_refl _)).fresh (Nat.le_refl _)).fresh (Nat.le_refl _)).fresh (Nat.le_refl _))) ?_ (C4 (C4 (C4 (C4 g1))))
 ·exact Nat.le_trans l1 (Nat.le_of_eq (AF.trans (AF.trans (AF.trans AF))).symm)
end
section
set_option genInjectivity false
variable {T : Av} {H : Hp} {k : AV -> Hp -> Prop}
variable {gs : List Int} {R : List (List Nat × AV)}
structure Pr where
 i : Nat
 p : Nat
 v : Int
 f : Int
 m : Int
noncomputable def Pr.row (x : Pr) : AV := .tup [.str [120 + x.i], .int x.v, .int x.f]
noncomputable def Pr.pI (x : Pr) : AV := .int (x.p : Int)
noncomputable def Pr.mI (x : Pr) : AV := .int x.m
noncomputable def ZQ (b : Bool) (m : Int) (i brief : Nat) : Int := bif b then (bif decide (m % 2 ≠ 0) && cy (i : Int) (brief : Int) then 5 else 3) else 1
noncomputable def OkP (T : Av) (brief : Nat) (x : Pr) : Prop := ∃ r : AZ, Mine.getL T.rows x.p = some r /\ x.v = (bif Ht r == 5 then r.b else (x.p : Int)) /\ (r.a = 5 -> r.l = none) /\ x.f = ZQ (Ht r == 5) x.m x.i brief /\ 0 <= x.m /\ x.m < 4
noncomputable def MS (T : Av) (brief : Nat) (L : List Pr) : Prop := ∀ i x, Mine.getL L i = some x -> x.i = i /\ OkP T brief x
theorem MS.snoc {T' : Av} {brief : Nat} {L : List Pr} {x : Pr} (h : MS T brief L) (e : Eb T T') (hi : x.i = L.length) (o : OkP T' brief x) : MS T' brief (L ++ [x]) := fun i y ey => by
 rcases CO ey with z | ⟨z, z'⟩
 ·obtain ⟨h1, r, g, h2⟩ := h i y z
  exact ⟨h1, r, e.get g, h2⟩
 ·rw [z, z']; exact ⟨hi, o⟩
noncomputable def bM (T : Av) (j : Int) : Prop := ∃ (n : Nat) (r : AZ), j = (n : Int) /\ Mine.getL T.rows n = some r /\ r.a ≠ 5 /\ light T j
theorem bM.ext {T' : Av} {j : Int} (x : bM T j) (e : Eb T T') : bM T' j := by
 obtain ⟨n, r, h1, h2, h3, h4⟩ := x
 exact ⟨n, r, h1, e.get h2, h3, e.light h4⟩
noncomputable def mT : VS := (AG (BE (Di (vL 8) (Au (AA (AL (vC (.str [120, 121, 122])) (vL 11) AR) (AA (vL 12) (AA (vL 15) AQ)))))) AS)
noncomputable def mB : VS := (AG (BM 12 (AL (Au (AA (vC (.int 7)) (AA (vC (.int 13)) (AA (AL (AL (vL 0) (vC (.str [115, 101, 108, 118, 101, 115])) AR) (vL 2) AR) AQ)))) (Ai (AA (vL 0) (AA (vC (.int 3)) AQ)) Ad) AR)) (AG (BM 13 (Ai (AA (vL 0) (AA (vC (.int 4)) AQ)) Ad)) (AG (BE (Di (vL 9) (vL 13))) (AG (BM 14 (AL (Ai (AA (vL 0) (AA (vC (.int 3)) AQ)) Ad) (vC (.int 0)) Qv)) (AG (BE (Di (vL 7) (Ky (BK (vL 14)) (Ai (AA (AI 906 BW (vL 1)) (AA (vL 12) AQ)) CT) (vL 12)))) (AG (BM 15 (vC (.int 1))) (AG (Iw (BK (vL 14)) (AG (BM 15 (AL (vC (.int 1)) (Ky (Mt (BK (AL (vL 13) (vC (.int 2)) Yr)) (Mt (BK (AL (vL 11) (vL 10) pLt)) Ni)) (vC (.int 4)) (vC (.int 2))) HK)) AS) AS) mT)))))))
theorem xyz {i : Nat} (h : i < 3) (q : k (.str [120 + i]) H) : AR (.str [120, 121, 122]) (.int (i : Int)) H k := by
 refine Xg.mpr ⟨_, _, rfl, Int.natCast_nonneg _, by omega, ?_, q⟩
 rcases (by exact zA h : i = 0 \/ i = 1 \/ i = 2) with rfl | rfl | rfl <;> rfl
noncomputable def tu (tid q brief : Nat) (F3 F4 F5 F6 F16 f11 f12 f13 f14 f15 : Option AV) : Ag := [some (.loc 11), some (.loc 46), some (.int (tid : Int)), F3, F4, F5, F6, some (.loc q), some (.loc (q + 1)), some (.loc (q + 2)), some (.int (brief : Int)), f11, f12, f13, f14, f15, F16]
structure bL (gs : List Int) (R : List (List Nat × AV)) (q brief i : Nat) (T T1 : Av) (H H1 : Hp) (L : List Pr) : Prop where
 b : Ay (11 :: q :: (q + 1) :: (q + 2) :: KL) H H1
 w : WS 11 gs R H1
 x : KT T1 H1
 e : Eb T T1
 l : T1.rows.length <= T.rows.length + i
 m : MS T1 brief L
 n : L.length = i
 k : AB H1 q = some (.list (L.map Pr.pI))
 r : AB H1 (q + 1) = some (.list (L.map Pr.row))
 g : AB H1 (q + 2) = some (.list (L.map Pr.mI))
theorem ui {n q : Nat} (h : n ≠ 11) (h1 : n ≠ q) (h2 : n ≠ q + 1) (h3 : n ≠ q + 2) (h4 : n < 2 \/ 6 < n) : n ∉ 11 :: q :: (q + 1) :: (q + 2) :: KL := fun z => by cases z with
 | head => exact h rfl
 | tail _ z => cases z with
  | head => exact h1 rfl
  | tail _ z => exact YM h2 h3 h4 z
theorem in7 {n q : Nat} (h : n ≠ 11) (h1 : n ≠ q) (h3 : n ≠ q + 2) (h4 : n < 2 \/ 6 < n) : n ∉ 11 :: q :: (q + 2) :: KL := fun z => by cases z with
 | head => exact h rfl
 | tail _ z => exact YM h1 h3 h4 z
theorem qC {n q : Nat} (h : n ∈ 11 :: q :: (q + 2) :: KL) : n ∈ 11 :: q :: (q + 1) :: (q + 2) :: KL := by
 cases h with
 | head => exact .head _
 | tail _ h => cases h with
  | head => exact .tail _ (.head _)
  | tail _ h => exact .tail _ (.tail _ (.tail _ h))
theorem qD {n q : Nat} (h : n ∈ [11, q + 2]) : n ∈ 11 :: q :: (q + 2) :: KL := by
 cases h with
 | head => exact .head _
 | tail _ h => exact List.mem_singleton.mp h ▸ .tail _ (.tail _ (.head _))
structure bK (tid own q : Nat) (s : Ae) (sl : List (Int × AV)) (R : List (List Nat × AV)) (T : Av) (H : Hp) : Prop where
 s : AB H 46 = some (.inst 906 s.L)
 hsel : Ao R [115, 101, 108, 118, 101, 115] = some (.loc 17)
 h17 : AB H 17 = some (.idict sl)
 es : Dn sl (tid : Int) = some (.int (own : Int))
 q63 : 63 <= q
 ko : ∀ j, j = 7 \/ j = 13 \/ j = (own : Int) -> bM T j
 sm : T.rows.length < 800
theorem UN {tid own q brief n : Nat} {s : Ae} {sl : List (Int × AV)} {F3 F4 F5 F6 F16 : Option AV} {K : Fl -> Ag -> Hp -> Prop} {N : Nat} (hN : N <= 3) (y : bK tid own q s sl R T H)
  (hK : ∀ f11 f12 f13 f14 f15 H' T' L, bL gs R q brief N T T' H H' L -> K .next (tu tid q brief F3 F4 F5 F6 F16 f11 f12 f13 f14 f15) H') {c : Nat} :
  ∀ {i : Nat} {H1 : Hp} {T1 : Av} {L : List Pr} {f11 f12 f13 f14 f15 : Option AV}, i + c = N -> bL gs R q brief i T T1 H H1 L ->
   CN (.rg n) (gN 11) mB (Mine.EK n) K (Mu i c) (tu tid q brief F3 F4 F5 F6 F16 f11 f12 f13 f14 f15) H1 := by
 induction c with
 | zero =>
  intro i H1 T1 L f11 f12 f13 f14 f15 hc d
  have e : i = N := hc
  exact hK _ _ _ _ _ _ _ _ (e ▸ d)
 | succ c ih =>
  intro i H1 T1 L f11 f12 f13 f14 f15 hc d
  have q63 := y.q63
  have dn := d.n
  have dl := d.l
  have sm := y.sm
  refine Ak d.w (fun _ _ _ => rfl) y.hsel <| hk (d.b.2 17 _ (ui (by omega) (by omega) (by omega) (by omega) (by omega)) y.h17) <| EL y.es <| C8 d.w (by decide) (by decide) fun nx H2 n10 n13 o2 w2 => Ki n10 n13 (by decide : 3 < 100000) fun v hv => ?_
  obtain ⟨j, rfl, kj⟩ := eU (P := fun v => ∃ j : Int, v = .int j /\ bM T1 j) ⟨_, rfl, (y.ko _ (.inl rfl)).ext d.e⟩ ⟨_, rfl, (y.ko _ (.inr (.inl rfl))).ext d.e⟩ ⟨_, rfl, (y.ko _ (.inr (.inr rfl))).ext d.e⟩ v hv
  refine C8 w2 (by decide) (by decide) fun md H3 md0 md4 o3 w3 => ?_
  have o13 := o2.trans o3
  have g3 := o13.2 (q + 2) _ (by exact pM q63) d.g
  refine hk g3 <| hk g3 <| AK (by rw [List.length_map]; exact fT hc dn hN) <| C8 (w3.keep fun o e => sn (by omega) e) (by decide) (by decide) fun z H5 _ _ o5 w5 => ?_
  have B5 : Ay [11, q + 2] H1 H5 := ((o13.but (.head _)).put (.tail _ (.head _))).only o5 (.head _)
  have n5 : ∀ {n}, n ≠ 11 -> n ≠ q + 2 -> n ∉ [11, q + 2] := fun a b => HQ a b
  have k5 := B5.2 q _ (HQ (by exact v9 q63) (by exact pQ)) d.k
  have s5 := B5.2 46 _ (HQ (by exact Q89) (by exact vw q63)) (d.b.2 46 _ (ui (by exact Q89) (by exact Q5 q63) (by exact wB q63) (by exact vw q63) (by exact pL)) y.s)
  have x5 : KT T1 H5 := d.x.but B5 fun n h1 h6 => HQ (by exact Q6 h6) (by exact Q90 q63 h6)
  have g5 := o5.2 (q + 2) _ (by exact pM q63) (C4 g3)
  have Et : ∀ (H6 : Hp) (T6 : Av) (nn : Nat) (r : AZ) (f : Int), Ay (11 :: q :: (q + 2) :: KL) H1 H6 -> WS 11 gs R H6 -> KT T6 H6 -> Eb T1 T6 -> T6.rows.length <= T1.rows.length + 1 -> Mine.getL T6.rows nn = some r -> (r.a = 5 -> r.l = none) -> j = (bif Ht r == 5 then r.b else (nn : Int)) -> f = ZQ (Ht r == 5) md i brief -> AB H6 q = some (.list (L.map Pr.pI ++ [.int (nn : Int)])) -> AB H6 (q + 2) = some (.list (L.map Pr.mI ++ [.int md])) -> ∀ f14,
    mT (tu tid q brief F3 F4 F5 F6 F16 (some (.int (i : Int))) (some (.int j)) (some (.int md)) f14 (some (.int f))) H6 (oZ (.rg n) (Mine.EK n) (CN (.rg n) (gN 11) mB (Mine.EK n) K (Mu (i + 1) c)) K) := fun H6 T6 nn r f B6 w6 x6 e6 l6 er en ej ef hq hq2 f14 => by
   have r6 := B6.2 (q + 1) _ (in7 (by exact pO q63) (by exact bH) (by exact pP) (by omega)) d.r
   refine hk r6 <| xyz (by omega) <| hk r6 <| AK (by rw [List.length_map]; exact fT hc dn hN) <| ih (by exact Q4 hc) (L := L ++ [⟨i, nn, j, f, md⟩]) ⟨(d.b.trans (B6.mono fun n hn => qC hn)).put (.tail _ (.tail _ (.head _))), w6.keep fun o e => sn (by omega) e, x6.but (Ay.set (.head _)) fun n h1 h6 => n1 (by exact vq q63 h6), d.e.trans e6, by exact Q69 l6 dl, d.m.snoc e6 dn.symm ⟨r, er, ej, en, ef, md0, md4⟩, by rw [List.length_append, dn]; rfl, ?_, ?_, ?_⟩
   ·rw [List.map_append]; exact sn (by exact nO) hq
   ·rw [List.map_append]; exact C4 r6
   ·rw [List.map_append]; exact sn (by exact pR) hq2
  obtain ⟨nj, rj, ej, erj, nj5, lj⟩ := kj
  have B7 := B5.mono (S' := 11 :: q :: (q + 2) :: KL) fun n hn => qD hn
  refine hk k5 <| bI (fun zz => hk s5 <| Zc x5 lj (by omega) fun n6 T6 H6 p => ?_) fun zz => ?_
  ·have b6 : ∀ {m o}, 6 < m -> AB H5 m = some o -> AB H6 m = some o := fun h => p.2.2.2.2.2.2 _ _ (Hv (.inr h))
   have F := fun f ef => Et (Ab H6 q (.list (L.map Pr.pI ++ [.int (n6 : Int)]))) T6 n6 ⟨5, j, none⟩ f ((B7.trans (p.2.2.2.2.2.mono fun n hn => .tail _ (.tail _ (.tail _ hn)))).put (.tail _ (.head _))) (w5.keep fun o e => sn (by exact nL q63) (b6 (by omega) e)) (p.2.2.2.2.1.but (Ay.set (.head _)) fun n h1 h6 => n1 (by exact bG q63 h6)) p.2.1 p.2.2.1 (UE p.1) (fun _ => rfl) rfl ef (C4 (b6 (by exact Q93 q63) k5)) (sn (by exact fW) (b6 (by omega) g5))
   refine hk (b6 (by exact Q93 q63) k5) <| AK (by rw [List.length_map]; exact fT hc dn hN) <| bT zz <| bI (fun y => bI (fun y' => F 5 ?_ _) fun y' => F 3 ?_ _) fun y => F 3 ?_ _
   ·unfold ZQ; rw [y, y']; rfl
   ·unfold ZQ; rw [y, y']; rfl
   ·unfold ZQ; rw [y]; rfl
  ·refine hk k5 <| AK (by rw [List.length_map]; exact fT hc dn hN) <| bF zz <| Et _ T1 nj rj 1 (B7.put (.tail _ (.head _))) (w5.keep fun o e => sn (by exact nL q63) e) (x5.but (Ay.set (.head _)) fun n h1 h6 => n1 (by exact bG q63 h6)) .refl (Nat.le_succ _) erj (fun h => absurd h nj5) ?_ ?_ (ej ▸ C4 k5) (sn (by exact fW) g5) _
   ·rw [show (Ht rj == 5) = false from SR nj5]; exact ej
   ·rw [show (Ht rj == 5) = false from SR nj5]; rfl
end
section
set_option genInjectivity false
variable {T : Av} {H : Hp} {k : AV -> Hp -> Prop}
variable {gs : List Int} {R : List (List Nat × AV)}
noncomputable def Pr.pZ (x : Pr) : Int := x.p
noncomputable def Pr.nm (x : Pr) : List Nat := [120 + x.i]
noncomputable def MY (tid mid ret brief : Nat) (fl : Int) (ws : List Nat) (gb : List (Int × List Int)) (L : List Pr) : Me := ⟨mid, tid, 109 :: GY (mid : Int), .int 6, fl, .int (ws.length : Int), .lst (CM ws), gb, ret, L.map Pr.pZ, L.map Pr.nm, (L.map Pr.m).take brief⟩
structure Met (tid mid ret brief : Nat) (gs : List Int) (R : List (List Nat × AV)) (fl : Int) (ws : List Nat) (gb : List (Int × List Int)) (ms : List AV) (T T' : Av) (H H' : Hp) (ml rl : Nat) (L : List Pr) : Prop where
 b : Ay (11 :: 8 :: KL) H H'
 w : WS 11 gs R H'
 x : KT T' H'
 e : Eb T T'
 l : T'.rows.length <= T.rows.length + 3
 n : L.length <= 3
 m : MS T' brief L
 g8 : AB H' 8 = some (.list (ms ++ [.loc ml]))
 lt : H.length <= rl /\ rl < ml /\ ml < H'.length
 g : AB H' ml = some (.inst 292 (MY tid mid ret brief fl ws gb L).L)
 r : AB H' rl = some (.list (L.map Pr.row))
 hf : fl = 0 \/ fl = 1 \/ fl = 6 \/ fl = 129
theorem Ux {tid own ret : Nat} {s : Ae} {sl : List (Int × AV)} {ms : List AV} {ws : List Nat} {gb : List (Int × List Int)} (w : WS 11 gs R H) (y : bK tid own H.length s sl R T H) (h0 : AB H 0 = some (.inst 313 Yb)) (h8 : AB H 8 = some (.list ms)) (hms : ms.length < 20) (x : KT T H) (hw : ws.length <= 2) (hgb : gb.length <= 2)
  (q : ∀ brief fl T' H' ml rl L, Met tid ms.length ret brief gs R fl ws gb ms T T' H H' ml rl L -> k (.tup [.loc ml, .loc rl]) H') : CP [.loc 11, .loc 46, .int (tid : Int), .int (ret : Int), .str ws, .lst (gb.map bp)] H k := by
 have h63 := y.q63
 have K3 := ((AY.add (H := H) (o := .list [])).trans (AY.add (o := .list []))).trans (AY.add (o := .list []))
 have e1 : (Af H (.list [])).length = H.length + 1 := List.length_append ..
 have e2 : (Af (Af H (.list [])) (.list [])).length = H.length + 2 := (List.length_append ..).trans (congrArg (· + 1) e1)
 have kq : ∀ {m o}, AB H m = some o -> AB (Af (Af (Af H (.list [])) (.list [])) (.list [])) m = some o := K3.2 _ _
 refine OE <| hk y.s <| hk h0 <| hk h8 <| AK (by exact eX hms) <| Hi (m := 5) (w.keep fun o e => kq e) (by decide) (by decide) fun br H4 hbr o4 w4 => Hi (m := 4) w4 (by decide) (by decide) fun c H5 hc o5 w5 => HT rfl (by omega) ?_
 rw [e1, e2]
 have o45 := o4.trans o5
 have k5 : ∀ {m o}, m ≠ 11 -> AB H m = some o -> AB H5 m = some o := fun h e => o45.2 _ _ h (kq e)
 have L5 : H.length + 3 <= H5.length := Nat.le_trans (Nat.le_of_eq ((List.length_append ..).trans (congrArg (· + 1) e2)).symm) o45.1
 have g1 : AB (Af (Af (Af H (.list [])) (.list [])) (.list [])) H.length = some (.list []) := AY.add.2 _ _ (AY.add.2 _ _ Ah)
 have g2 : AB (Af (Af (Af H (.list [])) (.list [])) (.list [])) (H.length + 1) = some (.list []) := AY.add.2 _ _ (e1 ▸ Ah)
 have g3 : AB (Af (Af (Af H (.list [])) (.list [])) (.list [])) (H.length + 2) = some (.list []) := e2 ▸ Ah
 refine UN (T := T) (H := H5) (q := H.length) (N := c) (own := own) (s := s) (sl := sl) (brief := br) (by omega) { y with s := k5 (by decide) y.s, h17 := k5 (by decide) y.h17 } (fun f11 f12 f13 f14 f15 H6 T6 L d => ?_) (Nat.zero_add _) (L := []) ⟨.refl, w5, x.keep fun n h1 h6 o e => k5 (by exact Q6 h6) e, .refl, Nat.le_refl _, fun i x e => (nomatch e), rfl, o45.2 _ _ (by exact v9 h63) g1, o45.2 _ _ (by exact pO h63) g2, o45.2 _ _ (by exact pM h63) g3⟩
 have dn := d.n
 have dl := d.l
 have d1 := d.b.1
 have k6 : ∀ {m o}, m ≠ 11 -> (m < 2 \/ 6 < m) -> AB H m = some o -> AB H6 m = some o := fun {m o} h h' e => d.b.2 _ _ (by have := AX e; exact ui h (by exact Q1 this) (by exact v8 this) (by exact Q63 this) h') (k5 h e)
 have := Oz (n := ms.length) (by omega)
 refine Ei (sb (by exact eX hms)) <| AK (by exact bE this) <| C8 d.w (by decide) (by decide) fun r3 H7 r30 r34 o7 w7 => Ki r30 r34 (by decide : 4 < 100000) fun fv hfv => ?_
 obtain ⟨fl, rfl, hfl⟩ := eT (P := fun v => ∃ fl : Int, v = .int fl /\ (fl = 0 \/ fl = 1 \/ fl = 6 \/ fl = 129)) ⟨_, rfl, .inl rfl⟩ ⟨_, rfl, .inr (.inl rfl)⟩ ⟨_, rfl, .inr (.inr (.inl rfl))⟩ ⟨_, rfl, .inr (.inr (.inr rfl))⟩ fv hfv
 refine vE (o7.2 _ _ (by exact v9 h63) d.k) (by rw [List.length_map]; exact ze hc dn) fun H8 pn pf k8 l8 g8 => ?_
 have l6 : H.length + 3 <= H7.length := Nat.le_trans (by omega) o7.1
 have k8' : ∀ {m o}, m ≠ 11 -> AB H6 m = some o -> AB H8 m = some o := fun h e => k8.2 _ _ (o7.2 _ _ h e)
 have r8 := k8' (by exact pO h63) d.r
 have m8 := k8' (by exact pM h63) d.g
 have lL : L.length < 1000 := by omega
 refine hk r8 <| AK (by rw [List.length_map]; exact Q0 lL) <| Wx (ex := ZO) (l := (L.map Pr.nm).map .str) (fun p h => hk r8 ⟨rfl, h⟩) (fun x hx K h => ?_) (by rw [List.map_map, List.map_map]; rfl) ?_
 ·obtain ⟨p, _, rfl⟩ := List.mem_map.mp hx
  exact h
 refine AK (by rw [List.length_map, List.length_map]; exact Q0 lL) <| hk g8 <| hk (sn (by omega) m8) <| AK (by rw [List.length_map]; exact Q0 lL) <| AK (by show List.length (List.take _ _) < _; rw [List.length_take, List.length_map]; omega) <| hk (C4 g8) <| AK (by exact Q2 hw) <| hk (C4 (C4 g8)) <| AK (by rw [Ee]; exact Q2 hw) <| hk (C4 (C4 (C4 g8))) <| AK (by rw [List.length_map]; exact Q2 hgb) <| hk (C4 (C4 (C4 (C4 g8)))) ?_
 have kk : ∀ {m o}, m ≠ 11 -> m < H7.length -> AB H6 m = some o -> ∀ {a b c d e}, AB (Ab (Ab (Ab (Ab (Ab H8 H7.length a) H7.length b) H7.length c) H7.length d) H7.length e) m = some o := fun h h' e _ _ _ _ _ => sn (by exact Q1 h') (sn (by exact Q1 h') (sn (by exact Q1 h') (sn (by exact Q1 h') (sn (by exact Q1 h') (k8' h e)))))
 have kH : ∀ {m o}, m ≠ 11 -> (m < 2 \/ 6 < m) -> AB H m = some o -> ∀ {a b c d e}, AB (Ab (Ab (Ab (Ab (Ab H8 H7.length a) H7.length b) H7.length c) H7.length d) H7.length e) m = some o := fun h h' e => kk h (by have := AX e; omega) (k6 h h' e)
 refine hk (kH (by decide) (by decide) y.s) <| hk (kH (by decide) (by decide) h0) <| hk (kH (by decide) (by decide) h8) <| hk (kH (by decide) (by decide) h8) <| AK (by exact eX hms) <| q br fl T6 _ H7.length (H.length + 1) L ?_
 have e1 : (L.map Pr.pZ).map AV.int = L.map Pr.pI := List.map_map ..
 have e2 : (L.map Pr.mI).take br = ((L.map Pr.m).take br).map AV.int := by rw [List.map_take, List.map_map]; rfl
 have ln : ∀ {a b c d e f}, (Ab (Ab (Ab (Ab (Ab (Ab H8 H7.length a) H7.length b) H7.length c) H7.length d) H7.length e) 8 f).length = H8.length := AF.trans (AF.trans (AF.trans (AF.trans (AF.trans AF))))
 refine ⟨⟨by rw [ln]; omega, fun n o hn e => sn (fun z => hn (z ▸ .tail _ (.head _))) (kH (fun z => hn (z ▸ .head _)) (Classical.byContradiction fun z => hn (.tail _ (.tail _ (Qr z)))) e)⟩, w7.keep fun o e => sn (by decide) (sn (by exact nM h63 l6) (sn (by exact nM h63 l6) (sn (by exact nM h63 l6) (sn (by exact nM h63 l6) (sn (by exact nM h63 l6) (k8.2 _ _ e)))))), d.x.keep fun n h1 h6 o e => sn (by omega) (kk (by exact Q6 h6) (by omega) e), d.e, by exact y5 hc dl, by omega, d.m, C4 (kH (by decide) (by decide) h8), ⟨by omega, by exact Q91 l6, by rw [ln]; exact vu l8⟩, ?_, sn (by omega) (kk (by exact pO h63) (by exact Q91 l6) d.r), hfl⟩
 show AB _ _ = some (.inst 292 (mdL (.int (ms.length : Int)) (.int (tid : Int)) (.str (109 :: GY (ms.length : Int))) (.int 6) (.int fl) (.int (ret : Int)) (.int (ws.length : Int)) (.lst (CM ws)) (.lst (gb.map bp)) ((L.map Pr.pZ).map .int) (.tup ((L.map Pr.nm).map .str)) (.tup (((L.map Pr.m).take br).map .int))))
 rw [e1, <- e2]
 exact sn (by omega) (C4 (C4 (C4 (C4 (C4 g8)))))
end
section
set_option genInjectivity false
variable {T : Av} {H : Hp} {k : AV -> Hp -> Prop}
variable {gs : List Int} {R : List (List Nat × AV)}
noncomputable def LD (R : List (List Nat × AV)) (k1 k2 k3 : List Nat) (v1 v2 : Int) (d own : Nat) (ret : Nat) (o : Int) (H : Hp) : Prop := ∃ (t1 t4 tk : Int) (l : List (Int × AV)), Ao R k1 = some (.int t1) /\ Ao R k2 = some (.int t4) /\ Ao R k3 = some (.loc d) /\ AB H d = some (.idict l) /\ Dn l (own : Int) = some (.int tk) /\ (Dn (JN Hx [] [(t1, .int v1), (t4, .int v2), (tk, .int (own : Int))]) (ret : Int)).getD (.int (-1)) = .int o
theorem LD.keep {k1 k2 k3 : List Nat} {v1 v2 : Int} {d own ret : Nat} {o : Int} {H' : Hp} (x : LD R k1 k2 k3 v1 v2 d own ret o H) (h : ∀ a, AB H d = some a -> AB H' d = some a) : LD R k1 k2 k3 v1 v2 d own ret o H' := by
 obtain ⟨t1, t4, tk, l, h1, h2, h3, h4, h5⟩ := x
 exact ⟨t1, t4, tk, l, h1, h2, h3, h _ h4, h5⟩
structure Zt (gs : List Int) (R : List (List Nat × AV)) (mloc : Nat) (m : Me) (r : AZ) (own : Nat) (H : Hp) : Prop where
 w : WS 11 gs R H
 g : AB H mloc = some (.inst 292 m.L)
 m12 : mloc ≠ 12
 sm : bx (m.ret : Int) = true
 t : Ao R [116, 111, 108, 100] = some (.loc 12)
 aw : LD R [116, 97, 115, 107] [116, 97, 115, 107, 52] [116, 97, 115, 107, 111, 102] 0 7 26 own m.ret (Jr r) H
 it : LD R [101, 97, 99, 104, 52] [119, 97, 108, 107] [101, 97, 99, 104, 111, 102] 7 13 27 own m.ret (XE r) H
theorem Zt.but {mloc own : Nat} {m : Me} {r : AZ} {H' : Hp} (x : Zt gs R mloc m r own H) (b : Ay [12] H H') : Zt gs R mloc m r own H' :=
 { x with w := x.w.keep fun o e => b.2 _ _ (n1 (by decide)) e, g := b.2 _ _ (n1 x.m12) x.g, aw := x.aw.keep fun o e => b.2 _ _ (n1 (by decide)) e, it := x.it.keep fun o e => b.2 _ _ (n1 (by decide)) e }
theorem kE {a b : AV} (e : a = b) (q : k b H) : k a H := e ▸ q
noncomputable def Ye (mloc own : Nat) (f2 f3 f4 : Option AV) (at_ : AV) (f7 f8 : Option AV) (bb : Bool) : Ag := [some (.loc 11), some (.loc mloc), f2, f3, f4, some at_, some (.int (own : Int)), f7, f8, some (.bool bb)]
variable {mloc own : Nat} {m : Me} {r : AZ} {f2 f3 f4 f7 f8 : Option AV} {at_ : AV} {bb : Bool} {K : Fl -> Ag -> Hp -> Prop} {D : List AV}
theorem aB {k1 k2 k3 : List Nat} {v1 v2 : Int} {d : Nat} {o : Int} (x : Zt gs R mloc m r own H) (y : LD R k1 k2 k3 v1 v2 d own m.ret o H) (e1 : ∀ p s n, Ao (wl gs p s n R) k1 = Ao R k1) (e2 : ∀ p s n, Ao (wl gs p s n R) k2 = Ao R k2) (e3 : ∀ p s n, Ao (wl gs p s n R) k3 = Ao R k3)
  (q : ∀ H', AY H H' -> k (.int o) H') : Ou (Ih (Fp (AL (vL 0) (vC (.str k1)) AR) (vC (.int v1)) (Fp (AL (vL 0) (vC (.str k2)) AR) (vC (.int v2)) (Fp (AL (AL (vL 0) (vC (.str k3)) AR) (vL 6) AR) (vL 6) Na)))) (AI 292 Bt (vL 1)) (Nb (vC (.int 1))) (Ye mloc own f2 f3 f4 at_ f7 f8 bb) H k := by
 obtain ⟨t1, t4, tk, l, h1, h2, h3, h4, h5, h6⟩ := y
 have wA : WS 11 gs R (Af H (.idict [])) := x.w.keep fun o e => AY.add.2 _ _ e
 refine Ak wA e1 h1 <| Ak wA e2 h2 <| Ak wA e3 h3 <| hk (AY.add.2 _ _ h4) <| EL h5 <| hk Ah <| hk (C4 Ah) <| hk ((AY.add.fresh (Nat.le_refl _)).2 _ _ x.g) <| hk (C4 Ah) ?_
 exact kE (k := k) h6 (q _ (AY.add.fresh (Nat.le_refl _)))
theorem RQ {n : Int} (x : Zt gs R mloc m r own H) (h12 : AB H 12 = some (.list D)) (hD : D.length < 1000)
  (q : ∀ H', Ay [12] H H' -> AB H' 12 = some (.list (D ++ bif bb then [Wj n at_ [.str m.nm]] else [])) -> K .next (Ye mloc own f2 f3 f4 at_ f7 f8 bb) H') :
  (Iw (BK (vL 9)) (AG (BE (Di (AL (vL 0) (vC (.str [116, 111, 108, 100])) AR) (Au (AA (vC (.int n)) (AA (vL 5) (AA (Au (AA (AI 292 Ba (vL 1)) AQ)) AQ)))))) AS) AS) (Ye mloc own f2 f3 f4 at_ f7 f8 bb) H K := by
 cases bb with
 | false => exact q H .refl (h12.trans (congrArg (fun l => some (AO.list l)) (List.append_nil _).symm))
 | true => exact Ak x.w (fun _ _ _ => rfl) x.t <| hk h12 <| hk x.g <| hk h12 <| AK (by exact Q0 hD) <| q _ (Ay.set (.head _)) (C4 h12)
noncomputable def sE1 : VE := (Ou (Ih (Fp (AL (vL 0) (vC (.str [116, 97, 115, 107])) AR) (vC (.int 0)) (Fp (AL (vL 0) (vC (.str [116, 97, 115, 107, 52])) AR) (vC (.int 7)) (Fp (AL (AL (vL 0) (vC (.str [116, 97, 115, 107, 111, 102])) AR) (vL 6) AR) (vL 6) Na)))) (AI 292 Bt (vL 1)) (Nb (vC (.int 1))))
noncomputable def s1 : VS := (Iw (BK (vL 3)) (AG (BM 7 (vC (.int 2))) (AG (BM 8 sE1) (AG (Iw (BK (AL (vL 8) (Nb (vC (.int 1))) Qv)) (AG (BE (Di (AL (vL 0) (vC (.str [116, 111, 108, 100])) AR) (Au (AA (vC (.int 1983)) (AA (vL 5) (AA (Au (AA (BR (AI 292 Bt (vL 1)) UH) AQ)) AQ)))))) (AG (BM 8 (vC (.int 0))) AS)) AS) (AG (Iw (BK (vL 9)) (AG (BE (Di (AL (vL 0) (vC (.str [116, 111, 108, 100])) AR) (Au (AA (vC (.int 1988)) (AA (vL 5) (AA (Au (AA (AI 292 Ba (vL 1)) AQ)) AQ)))))) AS) AS) AS)))) AS)
theorem qZ {late : Bool} (x : Zt gs R mloc m r own H) (h12 : AB H 12 = some (.list D)) (hD : D.length < 900) (hb : bb = m.ps.any (N9 T))
  (q : ∀ H', Ay [12] H H' -> AB H' 12 = some (.list (D ++ bif late then RA r m.ret at_ ++ CV T m.ps 1988 at_ (.str m.nm) else [])) -> K .next (Ye mloc own f2 (some (.bool late)) f4 at_ (some (.int (bif late then 2 else 0))) (some (.int (bif late then PC (Jr r) else -1))) bb) H') :
  s1 (Ye mloc own f2 (some (.bool late)) f4 at_ (some (.int 0)) (some (.int (-1))) bb) H K := by
 cases late with
 | false => exact q H .refl (h12.trans (congrArg (fun l => some (AO.list l)) (List.append_nil _).symm))
 | true =>
  refine aB x x.aw (fun _ _ _ => rfl) (fun _ _ _ => rfl) (fun _ _ _ => rfl) fun H1 k1 => ?_
  have x1 := x.but k1.but
  have g1 := k1.2 _ _ h12
  have eb : ∀ c : Int, CV T m.ps c at_ (.str m.nm) = bif bb then [Wj c at_ [.str m.nm]] else [] := fun c => by rw [hb]; rfl
  refine bI (fun z => ?_) fun z => ?_
  ·have ea : RA r m.ret at_ = [Wj 1983 at_ [.str (GY (m.ret : Int))]] := if_pos (eq_of_beq z)
   have ep : PC (Jr r) = 0 := if_pos (eq_of_beq z)
   refine Ak x1.w (fun _ _ _ => rfl) x1.t <| hk g1 <| hk x1.g <| Ei x1.sm <| hk g1 <| AK (by omega) <| RQ (x1.but (Ay.set (.head _))) (C4 g1) (by rw [List.length_append, List.length_singleton]; exact vf hD) fun H2 b2 g2 => ?_
   rw [ep] at q
   refine q H2 ((k1.but.put (.head _)).trans b2) ?_
   rw [g2, ea, eb, List.append_assoc]; rfl
  ·have ea : RA r m.ret at_ = [] := if_neg (Az z)
   have ep : PC (Jr r) = Jr r := if_neg (Az z)
   rw [ep] at q
   refine RQ x1 g1 (by exact vd hD) fun H2 b2 g2 => q H2 (k1.but.trans b2) ?_
   rw [g2, ea, eb]; rfl
noncomputable def sE2 : VE := (Ou (Ih (Fp (AL (vL 0) (vC (.str [101, 97, 99, 104, 52])) AR) (vC (.int 7)) (Fp (AL (vL 0) (vC (.str [119, 97, 108, 107])) AR) (vC (.int 13)) (Fp (AL (AL (vL 0) (vC (.str [101, 97, 99, 104, 111, 102])) AR) (vL 6) AR) (vL 6) Na)))) (AI 292 Bt (vL 1)) (Nb (vC (.int 1))))
noncomputable def s2 : VS := (Iw (BK (vL 4)) (AG (Iw (BK (vL 9)) (AG (BE (Di (AL (vL 0) (vC (.str [116, 111, 108, 100])) AR) (Au (AA (vC (.int 1623)) (AA (vL 5) (AA (Au (AA (AI 292 Ba (vL 1)) AQ)) AQ)))))) AS) AS) (AG (BM 8 sE2) (AG (Iw (HF (BK (vL 3)) (HF (BK (AL (vL 8) (Nb (vC (.int 1))) Qv)) LZ)) (AG (BE (Di (AL (vL 0) (vC (.str [116, 111, 108, 100])) AR) (Au (AA (vC (.int 1624)) (AA (vL 5) (AA (Au (AA (AI 292 Ba (vL 1)) (AA (BR (AI 292 Bt (vL 1)) UH) AQ))) AQ)))))) (AG (BM 8 (vC (.int 0))) AS)) AS) (AG (BM 7 (vC (.int 1))) AS)))) AS)
theorem qY {late st : Bool} {e7 e8 : Int} (x : Zt gs R mloc m r own H) (h12 : AB H 12 = some (.list D)) (hD : D.length < 900) (hb : bb = m.ps.any (N9 T))
  (q : ∀ H', Ay [12] H H' -> AB H' 12 = some (.list (D ++ bif st then CV T m.ps 1623 at_ (.str m.nm) ++ lY (Rp late r) m.ret at_ (.str m.nm) else [])) -> K .next (Ye mloc own f2 (some (.bool late)) (some (.bool st)) at_ (some (.int (bif st then 1 else e7))) (some (.int (bif st then (bif Rp late r then 0 else XE r) else e8))) bb) H') :
  s2 (Ye mloc own f2 (some (.bool late)) (some (.bool st)) at_ (some (.int e7)) (some (.int e8)) bb) H K := by
 cases st with
 | false => exact q H .refl (h12.trans (congrArg (fun l => some (AO.list l)) (List.append_nil _).symm))
 | true =>
  refine RQ x h12 (by exact vd hD) fun H1 b1 g1 => aB (x.but b1) (x.but b1).it (fun _ _ _ => rfl) (fun _ _ _ => rfl) (fun _ _ _ => rfl) fun H2 k2 => ?_
  have b2 := b1.trans k2.but
  have x2 := x.but b2
  have g2 := k2.2 _ _ g1
  have eb : CV T m.ps 1623 at_ (.str m.nm) = bif bb then [Wj 1623 at_ [.str m.nm]] else [] := by rw [hb]; rfl
  have lb : (D ++ bif bb then [Wj 1623 at_ [.str m.nm]] else []).length < 1000 := by rw [<- eb, List.length_append]; have := Er (T := T) (ps := m.ps) (c := 1623) (at_ := at_) (nm_ := .str m.nm); exact nZ hD this
  rw [eb] at q
  have bad : Rp late r = true -> (AG (BE (Di (AL (vL 0) (vC (.str [116, 111, 108, 100])) AR) (Au (AA (vC (.int 1624)) (AA (vL 5) (AA (Au (AA (AI 292 Ba (vL 1)) (AA (BR (AI 292 Bt (vL 1)) UH) AQ))) AQ)))))) (AG (BM 8 (vC (.int 0))) AS)) (Ye mloc own f2 (some (.bool late)) (some (.bool true)) at_ (some (.int e7)) (some (.int (XE r))) bb) H2 (Ro (AG (BM 7 (vC (.int 1))) AS) K) := fun z => by
   rw [z] at q
   refine Ak x2.w (fun _ _ _ => rfl) x2.t <| hk g2 <| hk x2.g <| hk x2.g <| Ei x2.sm <| hk g2 <| AK (by exact Q0 lb) <| q _ (b2.put (.head _)) ?_
   rw [C4 g2, List.append_assoc]; rfl
  cases late with
  | true => exact bad rfl
  | false =>
   refine bI (fun z => bad z) fun z => ?_
   have z' : Rp false r = false := z
   rw [z'] at q
   exact q H2 b2 (g2.trans (congrArg (fun l => some (AO.list (D ++ l))) (List.append_nil _).symm))
end
section
variable {T : Av} {H : Hp} {k : AV -> Hp -> Prop}
variable {gs : List Int} {R : List (List Nat × AV)}
noncomputable def eh (x : AV) : Bool := match x with
 | .tup (_ :: _ :: .int f :: _) => f != 1
 | _ => false
theorem YZ {L : List Pr} : decide (0 < ((((L.map Pr.row).filter eh).map id).length : Int)) = L.any fun x => x.f != 1 := by
 induction L with
 | nil => rfl
 | cons x L ih =>
  rw [List.map_cons, List.any_cons, List.filter_cons]
  have e : eh x.row = (x.f != 1) := rfl
  rw [e]
  cases q : (x.f != 1) with
  | true => exact decide_eq_true (Int.ofNat_lt.mpr (Nat.succ_pos _))
  | false => exact ih
theorem bR {mloc own rl : Nat} {m : Me} {r : AZ} {late st : Bool} {D : List AV} {at_ : AV} {L : List Pr} (x : Zt gs R mloc m r own H) (h12 : AB H 12 = some (.list D)) (hD : D.length < 800) (hr : AB H rl = some (.list (L.map Pr.row))) (ln : L.length <= 3) (hbb : (L.any fun x => x.f != 1) = m.ps.any (N9 T))
  (q : ∀ H', Ay [12] H H' -> AB H' 12 = some (.list (D ++ PG T m r late st at_)) -> k (.tup [.int (UJ late st), .int (UK late st r)]) H') : B0 [.loc 11, .loc mloc, .loc rl, .bool late, .bool st, at_, .int (own : Int)] H k := by
 have lf := List.length_filter_le eh (L.map Pr.row)
 rw [List.length_map] at lf
 refine Rx <| hk hr <| AK (by rw [List.length_map]; exact Q9 ln) <| c7 (tb := eh) (ex := id) (l := ((L.map Pr.row).filter eh).map id) (fun p h => hk hr ⟨rfl, h⟩) (fun x hx K h => ?_) (fun x hx K h => h) rfl <| AK (by rw [List.length_map]; omega) ?_
 ·obtain ⟨p, _, rfl⟩ := List.mem_map.mp hx
  exact h
 show AG s1 (AG s2 (AG (Hs (Au (AA (vL 7) (AA (vL 8) AQ)))) AS)) (Ye mloc own (some (.loc rl)) (some (.bool late)) (some (.bool st)) at_ (some (.int 0)) (some (.int (-1))) (decide (0 < ((((L.map Pr.row).filter eh).map id).length : Int)))) H (EP k)
 rw [YZ, hbb]
 have la : (RA r m.ret at_).length <= 1 := by unfold RA; split; exact Nat.le_refl _; exact Nat.zero_le _
 have lr := Er (T := T) (ps := m.ps) (c := 1988) (at_ := at_) (nm_ := .str m.nm)
 refine qZ x h12 (by exact nY hD) rfl fun H1 b1 g1 => qY (x.but b1) g1 ?_ rfl fun H2 b2 g2 => q H2 (b1.trans b2) ?_
 ·rw [List.length_append]
  cases late
  ·exact Nat.lt_of_lt_of_le hD (by decide)
  ·show D.length + (RA r m.ret at_ ++ CV T m.ps 1988 at_ (.str m.nm)).length < 900
   rw [List.length_append]; exact xj hD lr la
 ·rw [g2, List.append_assoc]; rfl
noncomputable def MR (x : AV) : Prop := ∀ H : Hp, ∃ n, n <= 30 /\ DE H n x x
theorem JM {i : Int} : MR (.int i) := fun H => ⟨0, by decide, .int i⟩
theorem Qf {H : Hp} {n : Nat} {l : List Int} : YK H n (l.map .int) (l.map .int) := by
 induction l with
 | nil => exact .nil
 | cons i l ih => exact .cons (.int i) ih
theorem VV {l : List Int} : MR (.tup (l.map .int)) := fun H => ⟨1, by decide, .tup (n := 0) Qf⟩
noncomputable def Cq {κ : Type} (l : List (κ × AV)) : Prop := (l.map (·.1)).Nodup /\ ∀ p ∈ l, MR p.2
section
variable {κ : Type} {eq : κ -> κ -> Bool}
theorem Vy {k k' : κ} {x : AV} {l : List (κ × AV)} (h : k' ∈ (Ft eq l k x).map (·.1)) : k' ∈ l.map (·.1) \/ k' = k := by
 induction l with
 | nil => exact .inr (List.mem_singleton.mp h)
 | cons p r ih =>
  obtain ⟨a, y⟩ := p
  change k' ∈ (match eq a k with | true => (a, x) :: r | false => (a, y) :: Ft eq r k x).map (fun p : κ × AV => p.1) at h
  cases e : eq a k with
  | true => rw [e] at h; exact .inl h
  | false =>
   rw [e] at h
   rcases List.mem_cons.mp h with h | h
   ·exact .inl (h ▸ .head _)
   ·exact (ih h).imp (.tail _) id
theorem Cq.put (he : ∀ a b, eq a b = true ↔ a = b) {k : κ} {x : AV} (hx : MR x) {l : List (κ × AV)} (h : Cq l) : Cq (Ft eq l k x) := by
 induction l with
 | nil => exact ⟨List.nodup_cons.mpr ⟨List.not_mem_nil, List.nodup_nil⟩, fun p hp => List.mem_singleton.mp hp ▸ hx⟩
 | cons p r ih =>
  obtain ⟨a, y⟩ := p
  have hn := List.nodup_cons.mp h.1
  have hr : ∀ p ∈ r, MR p.2 := fun p hp => h.2 p (.tail _ hp)
  show Cq (match eq a k with | true => (a, x) :: r | false => (a, y) :: Ft eq r k x)
  cases e : eq a k with
  | true => exact ⟨h.1, fun p hp => (List.mem_cons.mp hp).elim (fun z => z ▸ hx) (hr p)⟩
  | false =>
   have z := ih ⟨hn.2, hr⟩
   refine ⟨List.nodup_cons.mpr ⟨fun hm => ?_, z.1⟩, fun p hp => (List.mem_cons.mp hp).elim (fun z => z ▸ h.2 (a, y) (.head _)) (z.2 p)⟩
   rcases Vy hm with z | z
   ·exact hn.1 z
   ·exact nomatch e.symm.trans ((he a k).mpr z)
theorem Cq.look (he : ∀ a b, eq a b = true ↔ a = b) {l : List (κ × AV)} (h : (l.map fun p : κ × AV => p.1).Nodup) : ∀ p : κ × AV, p ∈ l -> EN eq l p.1 = some p.2 := by
 induction l with
 | nil => exact fun p hp => nomatch hp
 | cons q r ih =>
  intro p hp
  obtain ⟨a, x⟩ := q
  have hn := List.nodup_cons.mp h
  show (match eq a p.1 with | true => some x | false => EN eq r p.1) = some p.2
  rcases List.mem_cons.mp hp with rfl | hp
  ·rw [(he a a).mpr rfl]
  ·have : eq a p.1 = false := Bool.eq_false_iff.mpr fun e => hn.1 ((he a p.1).mp e ▸ List.mem_map.mpr ⟨p, hp, rfl⟩)
   rw [this]
   exact ih hn.2 p hp
theorem Cq.fold {α : Type} (he : ∀ a b, eq a b = true ↔ a = b) {f : α -> κ} {g : α -> AV} (hg : ∀ x, MR (g x)) {l : List α} : ∀ {d : List (κ × AV)}, Cq d -> Cq (l.foldl (fun d p => Ft eq d (f p) (g p)) d) := by
 induction l with
 | nil => exact fun h => h
 | cons x l ih => exact fun h => ih (h.put he (hg x))
theorem Cq.nil : Cq ([] : List (κ × AV)) := ⟨List.nodup_nil, fun p hp => nomatch hp⟩
theorem Cq.hit {H : Hp} (he : ∀ a b, eq a b = true ↔ a = b) {l : List (κ × AV)} (h : Cq l) : ZM (EN eq) H l l := ⟨rfl, fun p hp => ⟨p.2, Cq.look he h.1 p hp, let ⟨j, hj, d⟩ := h.2 p hp H; ⟨j, by omega, d⟩⟩⟩
end
theorem OU (a b : Int) : Hx a b = true ↔ a = b := decide_eq_true_iff
theorem ZS {l : List (List Nat × Nat)} : Cq (dS l) := Cq.fold (fun a b => GB) (f := fun p : List Nat × Nat => p.1) (g := fun p => .int (p.2 : Int)) (fun _ => JM) .nil
theorem ZU {l : List (Nat × (Int × List Int))} : Cq (To l) := Cq.fold OU (f := fun p : Nat × (Int × List Int) => (p.1 : Int)) (g := fun p => .tup (p.2.2.map .int)) (fun _ => VV) .nil
theorem ZT {l : List (Nat × (Int × List Int))} : Cq (dG l) := Cq.fold OU (f := fun p : Nat × (Int × List Int) => (p.1 : Int)) (g := fun p => .int p.2.1) (fun _ => JM) .nil
theorem iK {m n : Nat} {l : List (List Nat × AV)} (hm : AB H m = some (.sdict l)) (hn : AB H n = some (.sdict l)) (h : Cq l) (q : k (.bool false) H) : cU (.loc m) (.loc n) H k := hk hm <| hk hn ⟨h.hit fun a b => GB, q⟩
theorem VY {m n : Nat} {l : List (Int × AV)} (hm : AB H m = some (.idict l)) (hn : AB H n = some (.idict l)) (h : Cq l) (q : k (.bool false) H) : UI (.loc m) (.loc n) H k := hk hm <| hk hn ⟨h.hit OU, q⟩
end
section
set_option genInjectivity false
variable {T : Av} {H : Hp} {k : AV -> Hp -> Prop}
variable {gs : List Int} {R : List (List Nat × AV)}
noncomputable def kpB (so : Int) (we be : VE) : VS := (AG (BM 10 (DH 110 BO (AI 906 BW (vL 1)) (AA (Au (AA (vC (.int so)) (AA (vL 9) AQ))) AQ) AN)) (AG (Bs (vL 10) (vL 6) (AL we (vL 9) AR)) (AG (Ms (AL be (vL 9) AR) (gT 2 (TZ (gS (vL 8) (vL 10)) (TZ (gS (vL 7) (vL 10)) du)))) AS)))
noncomputable def oe (q : Nat) (F0 F2 F3 F4 F5 f9 f10 : Option AV) : Ag := [F0, some (.loc 46), F2, F3, F4, F5, some (.loc q), some (.loc (q + 1)), some (.loc (q + 2)), f9, f10]
theorem M4 {so : Int} {we be : VE} {q n : Nat} {s : Ae} {words : List (List Nat)} {keys : List Nat} {bs : List (Int × List Int)} {fS preS : List (List Nat × Nat)} {fB preB : List (Nat × (Int × List Int))} {F0 F2 F3 F4 F5 : Option AV} {K : Fl -> Ag -> Hp -> Prop}
  (x : KT T H) (hs : AB H 46 = some (.inst 906 s.L)) (q63 : 63 <= q) (l1 : words.length <= 2) (l2 : bs.length = words.length) (l3 : keys.length = words.length) (eS : fS = words.zip keys) (eB : fB = keys.zip bs) (p1 : preS.length <= 2) (p2 : preB.length <= 2)
  (pk : ∀ i m, Mine.getL keys i = some m -> CH 0 T.rows ⟨so, (i : Int), none⟩ = some m)
  (hw : ∀ i w H' f10 (k : AV -> Hp -> Prop), Mine.getL words i = some w -> Ay [q, q + 1, q + 2] H H' -> k (.str w) H' -> AL we (vL 9) AR (oe q F0 F2 F3 F4 F5 (some (.int (i : Int))) f10) H' k)
  (hb : ∀ i b H' f10 (k : AV -> Hp -> Prop), Mine.getL bs i = some b -> Ay [q, q + 1, q + 2] H H' -> k (bp b) H' -> AL be (vL 9) AR (oe q F0 F2 F3 F4 F5 (some (.int (i : Int))) f10) H' k)
  (hK : ∀ f9 f10 H', Ay [q, q + 1, q + 2] H H' -> AB H' q = some (.sdict (dS (preS ++ fS))) -> AB H' (q + 1) = some (.idict (To (preB ++ fB))) -> AB H' (q + 2) = some (.idict (dG (preB ++ fB))) -> K .next (oe q F0 F2 F3 F4 F5 f9 f10) H') {c : Nat} :
  ∀ {i : Nat} {H1 : Hp} {f9 f10 : Option AV}, i + c = words.length -> Ay [q, q + 1, q + 2] H H1 -> AB H1 q = some (.sdict (dS (preS ++ fS.take i))) -> AB H1 (q + 1) = some (.idict (To (preB ++ fB.take i))) -> AB H1 (q + 2) = some (.idict (dG (preB ++ fB.take i))) ->
   CN (.rg n) (gN 9) (kpB so we be) (Mine.EK n) K (Mu i c) (oe q F0 F2 F3 F4 F5 f9 f10) H1 := by
 have lS : fS.length = words.length := by rw [eS, List.length_zip]; omega
 have lB : fB.length = words.length := by rw [eB, List.length_zip]; omega
 induction c with
 | zero =>
  intro i H1 f9 f10 hc b g0 g1 g2
  rw [List.take_of_length_le (by omega)] at g0 g1 g2
  exact hK _ _ _ b g0 g1 g2
 | succ c ih =>
  intro i H1 f9 f10 hc b g0 g1 g2
  obtain ⟨w, ew⟩ := Am (l := words) (i := i) (by exact Q3 hc)
  obtain ⟨v, ev⟩ := Am (l := keys) (i := i) (by exact Q92 hc l3)
  obtain ⟨bd, eb⟩ := Am (l := bs) (i := i) (by exact Q92 hc l2)
  have hl1 := R9 (l := preS ++ fS.take i)
  have hl2 := Xd (l := preB ++ fB.take i)
  have hl3 := Xc (l := preB ++ fB.take i)
  rw [List.length_append, List.length_take] at hl1 hl2 hl3
  have x1 : KT T H1 := x.but b fun n h1 h6 => L0 (by exact bG q63 h6) (by exact vq q63 h6) (by exact Q90 q63 h6)
  have B2 : ∀ {o}, Ay [q, q + 1, q + 2] H (Ab H1 q o) := b.put (.head _)
  have g2' : ∀ {o}, AB (Ab H1 q o) (q + 2) = _ := sn (by exact fW) g2
  have g1' : ∀ {o o'}, AB (Ab (Ab H1 q o) (q + 2) o') (q + 1) = _ := sn (by exact pP) (sn (by exact bH) g1)
  refine hk (b.2 46 _ (L0 (by exact Q5 q63) (by exact wB q63) (by exact vw q63)) hs) <| hk x1.q <| D8 (r := ⟨so, (i : Int), none⟩) x1 (pk i v ev) <| hw i w H1 _ _ ew b <| hk g0 <| AK (by omega) <| hb i bd _ _ _ eb B2 <| hk g2' <| AK (by omega) <| hk g1' <| AK (by omega) <| ih (by exact Q4 hc) ((B2.put (.tail _ (.tail _ (.head _)))).put (.tail _ (.head _))) ?_ ?_ ?_
  ·rw [D3 (eS ▸ JX ew ev), <- List.append_assoc, OW]; exact sn (by exact nO) (sn (by exact pQ) (C4 g0))
  ·rw [D3 (eB ▸ JX ev eb), <- List.append_assoc, Tn]; exact C4 g1'
  ·rw [D3 (eB ▸ JX ev eb), <- List.append_assoc, Tj]; exact sn (by exact pR) (C4 g2')
noncomputable def kR2 : VS := (AG (Iw (HF (BK (AL (AI 906 Bh (vL 1)) (vL 6) cU)) (HF (BK (AL (AI 544 BH (AI 906 Io (vL 1))) (vL 7) UI)) (HF (BK (AL (AI 544 DJ (AI 906 Io (vL 1))) (vL 8) UI)) LZ))) (AG (Hs (vC (.bool false))) AS) AS) (AG (Hs (AL (Au (AA (AI 906 Bc (vL 1)) (AA (AI 906 Cn (vL 1)) (AA (AI 906 HL (vL 1)) (AA (AI 906 DV (vL 1)) (AA (AI 906 HO (vL 1)) (AA (AI 906 J3 (vL 1)) AQ))))))) (Au (AA (vL 2) (AA (vL 3) (AA (vC (.int 0)) (AA (vC (.int 0)) (AA (vC (.int 0)) (AA (vC (.int 0)) AQ))))))) (IH true))) AS))
structure fQ (tid : Nat) (y : Ty) (R : List (List Nat × AV)) (H : Hp) : Prop where
 r1 : Ao R [119, 111, 114, 100, 115] = some (.loc 15)
 w : ∃ l, AB H 15 = some (.idict l) /\ Dn l (tid : Int) = some (.tup (y.words.map .str))
 r2 : Ao R [98, 111, 117, 110, 100, 115] = some (.loc 16)
 b : ∃ l, AB H 16 = some (.idict l) /\ Dn l (tid : Int) = some (.lst (y.bnd.map bp))
theorem fQ.keep {tid : Nat} {y : Ty} {H' : Hp} (x : fQ tid y R H) (h : ∀ n o, n = 15 \/ n = 16 -> AB H n = some o -> AB H' n = some o) : fQ tid y R H' :=
 { x with w := x.w.imp fun _ e => ⟨h _ _ (.inl rfl) e.1, e.2⟩, b := x.b.imp fun _ e => ⟨h _ _ (.inr rfl) e.1, e.2⟩ }
theorem bU {tid mid tp sc f bo : Nat} {st : Int} {y : Ty} {s : Ae} {ws : List Nat} {gb : List (Int × List Int)} {mks : List Nat} (w : WS 11 gs R H) (x : KT T H) (u : Um tid y T) (h : Qq tid y H) (z : fQ tid y R H)
  (hs : AB H 46 = some (.inst 906 (Ld s tid mid tp sc f st).L)) (hgw : ws.length = gb.length) (hg2 : gb.length <= 2) (hmk : mks.length = gb.length) (pk : ∀ i m, Mine.getL mks i = some m -> CH 0 T.rows ⟨7, (i : Int), none⟩ = some m)
  (gt : AB H tp = some (.sdict (dS (y.words.zip y.vks ++ (ws.map fun c => [c]).zip mks)))) (gh : AB H 37 = some (.inst 544 (UZ (.loc bo) (.loc (bo + 1))))) (gb_ : AB H bo = some (.idict (To (y.vks.zip y.bnd ++ mks.zip gb)))) (gg_ : AB H (bo + 1) = some (.idict (dG (y.vks.zip y.bnd ++ mks.zip gb))))
  (h63 : 63 <= H.length) (q : ∀ H', AY H H' -> k (.bool true) H') : DP [.loc 11, .loc 46, .int (tid : Int), .int (mid : Int), .str ws, .lst (gb.map bp)] H k := by
 have lw := h.lw
 have lb := h.lb
 have lv := h.lv
 have K3 := ((AY.add (H := H) (o := .sdict [])).trans (AY.add (o := .idict []))).trans (AY.add (o := .idict []))
 have e1 : (Af H (.sdict [])).length = H.length + 1 := List.length_append ..
 have e2 : (Af (Af H (.sdict [])) (.idict [])).length = H.length + 2 := (List.length_append ..).trans (congrArg (· + 1) e1)
 have g1 : AB (Af (Af (Af H (.sdict [])) (.idict [])) (.idict [])) H.length = some (.sdict []) := AY.add.2 _ _ (AY.add.2 _ _ Ah)
 have g2 : AB (Af (Af (Af H (.sdict [])) (.idict [])) (.idict [])) (H.length + 1) = some (.idict []) := AY.add.2 _ _ (e1 ▸ Ah)
 have g3 : AB (Af (Af (Af H (.sdict [])) (.idict [])) (.idict [])) (H.length + 2) = some (.idict []) := e2 ▸ Ah
 obtain ⟨wl, h15, ew⟩ := z.w
 obtain ⟨bl, h16, eb⟩ := z.b
 have keep : ∀ {H1 H' : Hp}, AY H H1 -> Ay [H.length, H.length + 1, H.length + 2] H1 H' -> AY H H' := fun K b => ⟨Nat.le_trans K.1 b.1, fun n o e => b.2 n o (by have := AX e; exact L0 (by exact Q1 this) (by exact v8 this) (by exact Q63 this)) (K.2 n o e)⟩
 have wk : ∀ {H'}, AY H H' -> WS 11 gs R H' := fun K => w.keep fun o e => K.2 _ _ e
 refine Rz <| Ak (wk K3) (fun _ _ _ => rfl) z.r1 <| hk (K3.2 _ _ h15) <| EL ew <| AK (by rw [List.length_map]; exact Q2 lw) <| HT (List.length_map ..) (by exact Q2 lw) ?_
 rw [e1, e2]
 refine M4 (so := 6) (we := AL (AL (vL 0) (vC (.str [119, 111, 114, 100, 115])) AR) (vL 2) AR) (be := AL (AL (vL 0) (vC (.str [98, 111, 117, 110, 100, 115])) AR) (vL 2) AR) (F0 := some (.loc 11)) (F2 := some (.int (tid : Int))) (F3 := some (.int (mid : Int))) (F4 := some (.str ws)) (F5 := some (.lst (gb.map bp))) (preS := []) (preB := []) (words := y.words) (keys := y.vks) (bs := y.bnd) (q := H.length) (x.keepK K3) (K3.2 _ _ hs) h63 lw lb lv rfl rfl (by decide) (by decide) u.v (fun i wd H' f10 k ei b' q => Ak (wk (keep K3 b')) (fun _ _ _ => rfl) z.r1 <| hk ((keep K3 b').2 _ _ h15) <| EL ew <| QC (by exact Q2 lw) ei q) (fun i bd H' f10 k ei b' q => Ak (wk (keep K3 b')) (fun _ _ _ => rfl) z.r2 <| hk ((keep K3 b').2 _ _ h16) <| EL eb <| QC (by exact Q7 lb lw) ei q) (fun f9 f10 H4 b4 q0 q1 q2 => ?_) (Nat.zero_add _) .refl g1 g2 g3
 have K4 := keep K3 b4
 refine AK (by rw [List.length_map]; exact Q2 hg2) <| HT (List.length_map ..) (by exact Q2 hg2) <| M4 (so := 7) (we := vL 4) (be := vL 5) (F0 := some (.loc 11)) (F2 := some (.int (tid : Int))) (F3 := some (.int (mid : Int))) (F4 := some (.str ws)) (F5 := some (.lst (gb.map bp))) (words := ws.map fun c => [c]) (keys := mks) (bs := gb) (preS := y.words.zip y.vks) (preB := y.vks.zip y.bnd) (q := H.length) (x.keepK K4) (K4.2 _ _ hs) h63 (by rw [List.length_map]; exact fU hgw hg2) (by rw [List.length_map]; omega) (by rw [List.length_map]; exact Q95 hmk hgw) rfl rfl (by rw [List.length_zip]; omega) (by rw [List.length_zip]; omega) pk (fun i wd H' f10 k ei b' q => ?_) (fun i bd H' f10 k ei b' q => QC (by exact Q2 hg2) ei q) (fun f9 f10 H5 b5 p0 p1 p2 => ?_) (by rw [List.length_map]; omega) .refl (q0.trans (congrArg (fun l => some (AO.sdict (dS l))) (List.append_nil _).symm)) (q1.trans (congrArg (fun l => some (AO.idict (To l))) (List.append_nil _).symm)) (q2.trans (congrArg (fun l => some (AO.idict (dG l))) (List.append_nil _).symm))
 ·rw [Mine.Bb] at ei
  cases ec : Mine.getL ws i with
  | none => rw [ec] at ei; exact nomatch ei
  | some c =>
   rw [ec] at ei
   cases ei
   have := Bn ec
   exact Xg.mpr ⟨_, _, rfl, Int.natCast_nonneg _, by exact ym this hgw hg2, ec, q⟩
 have K5 := keep K4 b5
 have s5 := K5.2 _ _ hs
 have h5 := K5.2 _ _ gh
 refine hk s5 <| iK (K5.2 _ _ gt) p0 ZS <| hk s5 <| hk h5 <| VY (K5.2 _ _ gb_) p1 ZU <| hk s5 <| hk h5 <| VY (K5.2 _ _ gg_) p2 ZT <| hk s5 <| hk s5 <| hk s5 <| hk s5 <| hk s5 <| hk s5 ⟨⟨1, _, _, by decide, .inl ⟨rfl, rfl⟩, ?_⟩, q H5 K5⟩
 exact Qf (l := [(tid : Int), (mid : Int), 0, 0, 0, 0])
end
section
set_option genInjectivity false
variable {T : Av} {H : Hp} {k : AV -> Hp -> Prop}
noncomputable def bg : VS := (AG (Iw (HF (BK (AL (AI 906 Cm (vL 1)) (Nc (AA (vL 25) AQ)) aG)) (HF (BK (AL (AI 906 BS (vL 1)) (Nc (AA (vC (.int 0)) AQ)) (IH false))) (HF (BK (AL (AI 906 EM (vL 1)) (Ih (Fp (vC (.int 1)) (Dh (.sdict [])) Na)) UI)) (HF (BK (AL (AI 906 Hk (vL 1)) (Nc AQ) (IH false))) (HF (BK (AL (AI 906 Dm (vL 1)) (vL 23) fC)) LZ))))) (AG (Hs (vC (.bool false))) AS) AS) (AG (Hs (Ov (AL (AI 446 Ip (AI 906 Pz (vL 1))) (vL 20) Qv) (Ai (AA (vL 0) (AA (vL 1) (AA (vL 3) (AA (AI 292 Cn (vL 13)) (AA (vL 11) (AA (vL 12) AQ)))))) DP))) AS))
noncomputable def oQ : VS := (AG (BM 25 (Dh (.sdict []))) (AG (Ng (ee (BR (vL 14) Hu)) (gN 22) (AG (Bs (AL (vL 21) (vL 22) AR) (vL 25) (AL (AL (vL 14) (vL 22) AR) (vC (.int 0)) AR)) AS)) bg))
noncomputable def pe : VS := (AG (BM 23 (AL (AI 292 CY (vL 13)) (vC (.int 2)) Yr)) (AG (BM 24 (Au (AA (AI 446 Ip (vL 16)) (AA (AI 446 Cn (vL 16)) (AA (AI 446 Lu (vL 16)) (AA (AI 446 Ap (vL 16)) (AA (AI 446 DU (vL 16)) (AA (AI 446 Bt (vL 16)) (AA (AI 446 Iq (vL 16)) (AA (AI 446 Yx (vL 16)) (AA (AI 446 E9 (vL 16)) (AA (AI 446 HP (vL 16)) (AA (AI 446 JS (vL 16)) AQ))))))))))))) (AG (Iw (BK (AL (vL 24) (Au (AA (vL 20) (AA (AI 292 Cn (vL 13)) (AA (vL 21) (AA (vL 21) (AA (Ky (BK (vL 23)) (Nb (vC (.int 1))) (vL 4)) (AA (vL 6) (AA (vC .none) (AA (vC (.int 0)) (AA (AL (vL 19) (vC (.int 0)) AR) (AA (AL (vL 19) (vC (.int 1)) AR) (AA (vL 17) AQ)))))))))))) (IH false))) (AG (Hs (vC (.bool false))) AS) AS) oQ)))
noncomputable def gD : VS := (AG (BM 20 (AL (BR (AL (vL 0) (vC (.str [109, 105, 100, 115])) AR) Hu) (vC (.int 1)) HK)) (AG (Bs (vL 20) (AL (vL 0) (vC (.str [109, 105, 100, 115])) AR) (AI 292 Cn (vL 13))) (AG (BM 21 (Ot AQ)) (AG (Ng (ee (BR (vL 14) Hu)) (gN 22) (AG (BE (Di (vL 21) (AL (BR (AL (vL 0) (vC (.str [118, 97, 114, 105, 97, 98, 108, 101, 115])) AR) Hu) (vC (.int 1)) HK))) (AG (BE (Di (AL (vL 0) (vC (.str [118, 97, 114, 105, 97, 98, 108, 101, 115])) AR) (AL (AL (vL 14) (vL 22) AR) (Au (AA (vL 20) (AA (vL 22) (AA (vC (.int 0)) AQ)))) M0))) AS))) pe))))
noncomputable def ph : VS := (AG (BM 17 (Ky (BK (vL 7)) (AI 355 JS (vL 15)) (vC (.int 0)))) (AG (BM 18 (bY (AL (vL 8) (vC (.int 4096)) Qv) (AL (vL 8) (AL (vC (.int 4096)) (vC (.int 16)) HK) Qv))) (AG (BM 19 (Ai (AA (vL 0) (AA (vL 13) (AA (vL 14) (AA (vL 18) (AA (Ov (vL 10) (AL (vL 7) (vC (.int 0)) fC)) (AA (vL 17) (AA (vL 4) AQ))))))) B0)) gD)))
noncomputable def pj : VS := (AG (BM 16 (Ai (AA (vL 1) (AA (AI 292 Cn (vL 13)) (AA (vL 15) AQ))) CS)) (AG (BE (Ai (AA (vL 1) (AA (vL 13) (AA (vL 16) (AA (vL 15) AQ)))) Cd)) (AG (BE (Ai (AA (vL 1) AQ) Bz)) (AG (BE (Ai (AA (vL 1) (AA (vL 13) (AA (vL 16) AQ))) Aq)) ph))))
noncomputable def pq : VS := (AG (BM 15 (Ky (BK (vL 7)) (Ai (AA (vL 0) (AA (vL 7) (AA (vL 8) (AA (vL 11) (AA (vL 9) AQ))))) Cu) (vC .none))) (AG (BE (Ai (AA (vL 0) (AA (vL 1) AQ)) CQ)) pj))
noncomputable def pv : VS := (AG (BM 12 (Ai (AA (vL 0) (AA (BR (vL 11) Hu) AQ)) Bo)) (AG (Ms (Ai (AA (vL 0) (AA (vL 1) (AA (vL 3) (AA (vL 6) (AA (vL 11) (AA (vL 12) AQ)))))) CP) (gT 2 (TZ (gN 13) (TZ (gN 14) du)))) pq))
noncomputable def pw : VS := (AG (BM 11 (Ky (BK (AL (vL 7) (vC (.int 91)) Qv)) (Uo vT (Uo vU (vC (.str [85, 86, 84, 85])) (Ai (AA (vL 0) (AA (vC (.int 3)) AQ)) Ad)) (Ai (AA (vL 0) (AA (vC (.int 3)) AQ)) Ad)) (vC (.str [])))) pv)
noncomputable def p3 : VS := (AG (Ms (Ai (AA (vL 0) AQ) DQ) (gT 2 (TZ (gN 9) (TZ (gN 10) du)))) (AG (Iw (BK (vL 2)) (AG (Ms (Au (AA (vC (.int 7)) (AA (vC (.int 91)) (AA (vC (.int 0)) (AA (vC (.bool false)) AQ))))) (gT 4 (TZ (gN 6) (TZ (gN 7) (TZ (gN 8) (TZ (gN 10) du)))))) (AG (BM 9 (Ai (AA (vL 0) (AA (vC (.int 50)) (AA (vC (.str [])) (AA (Nc (AA (Ai (AA (vL 0) (AA (Nc (AA (Ai (AA (vL 0) (AA (vC (.int 72)) (AA (vC (.str [])) (AA (Nc AQ) (AA (vC (.int 0)) AQ))))) Bk) AQ)) AQ)) CR) AQ)) (AA (vC (.int 0)) AQ))))) Bk)) AS)) AS) pw))
noncomputable def tu0 : VS := (AG (BM 3 (AL (vC (.int 64)) (Ai (AA (vL 0) (AA (vC (.int 2)) AQ)) Ad) HK)) (AG (BM 4 (AL (AL (vL 0) (vC (.str [115, 101, 108, 118, 101, 115])) AR) (vL 3) AR)) (AG (BM 5 (AL (AL (vL 0) (vC (.str [114, 101, 116, 115])) AR) (Au (AA (AL (AL (vL 0) (vC (.str [101, 97, 99, 104, 111, 102])) AR) (vL 4) AR) (AA (AL (AL (vL 0) (vC (.str [116, 97, 115, 107, 111, 102])) AR) (vL 4) AR) (AA (vL 4) AQ)))) M0)) (AG (BM 6 (AL (vL 5) (Ai (AA (vL 0) (AA (BR (vL 5) Hu) AQ)) Ad) AR)) (AG (BM 7 (AL (Au (AA (vC (.int 91)) (AA (vC (.int 91)) (AA (vC (.int 91)) (AA (vC (.int 99)) (AA (vC (.int 96)) (AA (vC (.int 0)) AQ))))))) (Ai (AA (vL 0) (AA (vC (.int 6)) AQ)) Ad) AR)) (AG (BM 8 (Ky (BK (AL (vL 7) (vC (.int 91)) Qv)) (AL (Au (AA (vC (.int 0)) (AA (vC (.int 4096)) (AA (vC (.int 16)) (AA (AL (vC (.int 4096)) (vC (.int 16)) HK) (AA (vC (.int 2048)) (AA (vC (.int 8192)) AQ))))))) (Ai (AA (vL 0) (AA (vC (.int 6)) AQ)) Ad) AR) (vC (.int 0)))) p3))))))
noncomputable def nI (n : Nat) : AV := .int (n : Int)
structure LC where
 gs : List Int
 R : List (List Nat × AV)
 Y : Nat -> Ty
 sl : List (Int × AV)
 tl : List (Int × AV)
 el : List (Int × AV)
 rets : List Nat
 tk : Nat -> Nat
 ea : Nat -> Nat
noncomputable def FF (tid : Nat) : Prop := tid = 64 \/ tid = 65
structure LC.Ok (C : LC) : Prop where
 gl : C.gs.length <= 40
 told : Ao C.R [116, 111, 108, 100] = some (.loc 12)
 vars : Ao C.R [118, 97, 114, 105, 97, 98, 108, 101, 115] = some (.loc 13)
 mids : Ao C.R [109, 105, 100, 115] = some (.loc 14)
 selves : Ao C.R [115, 101, 108, 118, 101, 115] = some (.loc 17)
 face : ∃ f : Int, Ao C.R [102, 97, 99, 101] = some (.int f)
 rs : Ao C.R [114, 101, 116, 115] = some (.tup (C.rets.map nI))
 taskof : Ao C.R [116, 97, 115, 107, 111, 102] = some (.loc 26)
 eachof : Ao C.R [101, 97, 99, 104, 111, 102] = some (.loc 27)
 task : ∃ t1 t4 : Int, Ao C.R [116, 97, 115, 107] = some (.int t1) /\ Ao C.R [116, 97, 115, 107, 52] = some (.int t4)
 each : ∃ t1 t4 : Int, Ao C.R [101, 97, 99, 104, 52] = some (.int t1) /\ Ao C.R [119, 97, 108, 107] = some (.int t4)
 lsl : ∀ tid, FF tid -> Dn C.sl (tid : Int) = some (nI (C.Y tid).own)
 ltl : ∀ tid, FF tid -> Dn C.tl ((C.Y tid).own : Int) = some (nI (C.tk tid))
 lel : ∀ tid, FF tid -> Dn C.el ((C.Y tid).own : Int) = some (nI (C.ea tid))
 rl : C.rets.length = 14
 r7 : 7 ∈ C.rets
noncomputable def LC.all (C : LC) (tid : Nat) : List Nat := C.rets ++ [C.ea tid, C.tk tid, (C.Y tid).own]
structure MQ (C : LC) (T : Av) (tid n : Nat) (r : AZ) : Prop where
 g : Mine.getL T.rows n = some r
 f : Ud r
 z : n = 0 -> Jr r = -1
 s : n < 1000
 aw : ∀ t1 t4 : Int, Ao C.R [116, 97, 115, 107] = some (.int t1) -> Ao C.R [116, 97, 115, 107, 52] = some (.int t4) -> (Dn (JN Hx [] [(t1, .int 0), (t4, .int 7), ((C.tk tid : Nat), nI (C.Y tid).own)]) (n : Int)).getD (.int (-1)) = .int (Jr r)
 it : ∀ t1 t4 : Int, Ao C.R [101, 97, 99, 104, 52] = some (.int t1) -> Ao C.R [119, 97, 108, 107] = some (.int t4) -> (Dn (JN Hx [] [(t1, .int 7), (t4, .int 13), ((C.ea tid : Nat), nI (C.Y tid).own)]) (n : Int)).getD (.int (-1)) = .int (XE r)
theorem MQ.ext {C : LC} {T' : Av} {tid n : Nat} {r : AZ} (x : MQ C T tid n r) (e : Eb T T') : MQ C T' tid n r := { x with g := e.get x.g }
structure Va where
 lid : AV
 s : List Nat
 b : Int
 c : Int
 d : Int
 e : Int
 f : Int
noncomputable def Va.L (v : Va) : List (Nat × AV) := Tw v.lid (.str v.s) (.int v.b) (.int v.c) (.int v.d) (.int v.e) (.int v.f)
noncomputable def Va.A (v : Va) : AV := .tup [.str v.s, .int v.b, .int v.c, .int v.d, .int v.e, .int v.f]
noncomputable def ML (j : Nat) : List (Int × AV) := (List.range j).map fun i => (((i + 1 : Nat) : Int), nI (i + 1))
theorem Vv {k : Int} {x : AV} {l : List (Int × AV)} (h : ∀ p ∈ l, p.1 ≠ k) : D5 l k x = l ++ [(k, x)] := by
 induction l with
 | nil => rfl
 | cons p r ih =>
  obtain ⟨a, y⟩ := p
  show (match Hx a k with | true => (a, x) :: r | false => (a, y) :: D5 r k x) = _
  rw [show Hx a k = false from decide_eq_false (h _ (.head _)), ih fun p hp => h p (.tail _ hp)]
  rfl
theorem YG {j : Nat} : D5 (ML j) ((j + 1 : Nat) : Int) (nI (j + 1)) = ML (j + 1) := by
 unfold ML
 rw [Vv (fun p hp => ?_), Dk]
 obtain ⟨i, hi, rfl⟩ := List.mem_map.mp hp
 have := List.mem_range.mp hi
 show ((i + 1 : Nat) : Int) ≠ _
 omega
structure TI (C : LC) (j : Nat) (T : Av) (D : List AV) (vars : List Va) (H : Hp) : Prop where
 w : WS 11 C.gs C.R H
 x : KT T H
 tl : T.rows.length <= 100 + 10 * j
 tyH : ∀ tid, FF tid -> Qq tid (C.Y tid) H
 tyK : ∀ tid, FF tid -> Um tid (C.Y tid) T
 s : ∃ s : Ae, AB H 46 = some (.inst 906 s.L)
 h : ∃ b g, AB H 37 = some (.inst 544 (UZ b g))
 g8 : ∃ ms, AB H 8 = some (.list ms) /\ ms.length = j + 1
 u : AB H 28 = some (.inst 467 bZ)
 f : ∃ fns, AB H 29 = some (.list fns) /\ fns.length = j + 1
 v : ∃ locs, AB H 30 = some (.list (.none :: locs)) /\ Hh H 63 locs (vars.map Va.L)
 vv : AB H 13 = some (.list (vars.map Va.A))
 vl : vars.length <= 3 * j
 m : AB H 14 = some (.idict (ML j))
 m' : AB H 31 = some (.idict (ML j))
 d : AB H 12 = some (.list D)
 d' : AB H 33 = some (.list D)
 dl : D.length <= 10 * j
 dg : AB H 32 = some (.inst 397 ou)
 dr : ∀ x ∈ D, MR x
 h17 : AB H 17 = some (.idict C.sl)
 z : ∀ tid, FF tid -> fQ tid (C.Y tid) C.R H
 h26 : AB H 26 = some (.idict C.tl)
 h27 : AB H 27 = some (.idict C.el)
 ro : ∀ tid, FF tid -> ∀ n ∈ C.all tid, ∃ r, MQ C T tid n r
 ko : ∀ tid, FF tid -> ∀ i : Int, i = 7 \/ i = 13 \/ i = ((C.Y tid).own : Int) -> bM T i
 n63 : 63 <= H.length
noncomputable def SM (so mods : Int) : Prop := (so = 91 \/ so = 99 \/ so = 96 \/ so = 0) /\ (so ≠ 91 -> mods = 0) /\ (mods = 0 \/ mods = 4096 \/ mods = 16 \/ mods = 4112 \/ mods = 2048 \/ mods = 8192)
theorem m9 {P : AV -> Prop} {x y z u v w : AV} (hx : P x) (hy : P y) (hz : P z) (hu : P u) (hv : P v) (hw : P w) : ∀ t ∈ [x, y, z, u, v, w], P t := fun t h => by
 cases h with
 | head => exact hx
 | tail _ h => cases h with
  | head => exact hy
  | tail _ h => exact eT hz hu hv hw t h
noncomputable def tF (f2 f3 f4 f5 f6 f7 f8 f9 f10 f11 f12 f13 f14 f15 f16 f17 f18 f19 f20 f21 f22 f23 f24 f25 : Option AV) : Ag := [some (.loc 11), some (.loc 46), f2, f3, f4, f5, f6, f7, f8, f9, f10, f11, f12, f13, f14, f15, f16, f17, f18, f19, f20, f21, f22, f23, f24, f25]
theorem qX {C : LC} {j : Nat} {D : List AV} {vars : List Va} {first : Bool} {K : Fl -> Ag -> Hp -> Prop} (c : C.Ok) (t : TI C j T D vars H)
  (hK : ∀ tid ret so mods f5 H', FF tid -> ret ∈ C.all tid -> SM so mods -> BA 11 H H' -> WS 11 C.gs C.R H' -> p3 (tF (some (.bool first)) (some (.int (tid : Int))) (some (nI (C.Y tid).own)) f5 (some (nI ret)) (some (.int so)) (some (.int mods)) none none none none none none none none none none none none none none none none none) H' K) :
  tu0 (tF (some (.bool first)) none none none none none none none none none none none none none none none none none none none none none none none) H K := by
 refine Hi (m := 2) t.w (by decide) (by decide) fun r1 H1 hr1 o1 w1 => ?_
 have htid : FF (64 + r1) := by unfold FF; exact xh hr1
 have h17 := o1.2 _ _ (by decide) t.h17
 have h27 := o1.2 _ _ (by decide) t.h27
 have h26 := o1.2 _ _ (by decide) t.h26
 have la : (C.all (64 + r1)).length = 17 := by unfold LC.all; rw [List.length_append, c.rl]; rfl
 refine Ak w1 (fun _ _ _ => rfl) c.selves <| hk h17 <| EL (c.lsl (64 + r1) htid) <| Ak w1 (fun _ _ _ => rfl) c.rs <| Ak w1 (fun _ _ _ => rfl) c.eachof <| hk h27 <| EL (c.lel (64 + r1) htid) <| Ak w1 (fun _ _ _ => rfl) c.taskof <| hk h26 <| EL (c.ltl (64 + r1) htid) ?_
 have ea : C.rets.map nI ++ [nI (C.ea (64 + r1)), nI (C.tk (64 + r1)), nI (C.Y (64 + r1)).own] = (C.all (64 + r1)).map nI := by unfold LC.all; rw [List.map_append]; rfl
 have lr := c.rl
 have la' : ((C.all (64 + r1)).map nI).length = 17 := (List.length_map ..).trans la
 refine Ei ?_ ?_
 ·show (Ii (C.rets.map nI).length && true) = true
  rw [Bool.and_true]; exact Nat.ble_eq_true_of_le (by rw [List.length_map, lr]; decide)
 rw [ea]
 refine AK (by exact nW la') ?_
 rw [la']
 refine Hi (m := 17) w1 (by decide) (by decide) fun r2 H2 hr2 o2 w2 => ?_
 obtain ⟨ret, er⟩ := Am (l := C.all (64 + r1)) (i := r2) (by omega)
 refine QC (by exact nW la) er <| Hi (m := 6) w2 (by decide) (by decide) fun r3 H3 hr3 o3 w3 => Ki (Int.natCast_nonneg _) (Int.ofNat_lt.mpr hr3) (by decide : 6 < 100000) fun sv hsv => ?_
 have o13 := (o1.trans o2).trans o3
 have hret := Mine.Dp er
 obtain ⟨so, rfl, hso⟩ := m9 (P := fun v => ∃ so : Int, v = .int so /\ (so = 91 \/ so = 99 \/ so = 96 \/ so = 0)) ⟨_, rfl, .inl rfl⟩ ⟨_, rfl, .inl rfl⟩ ⟨_, rfl, .inl rfl⟩ ⟨_, rfl, .inr (.inl rfl)⟩ ⟨_, rfl, .inr (.inr (.inl rfl))⟩ ⟨_, rfl, .inr (.inr (.inr rfl))⟩ sv hsv
 refine bI (fun z => Hi (m := 6) w3 (by decide) (by decide) fun r4 H4 hr4 o4 w4 => Ki (Int.natCast_nonneg _) (Int.ofNat_lt.mpr hr4) (by decide : 6 < 100000) fun mv hmv => ?_) fun z => hK (64 + r1) ret so 0 _ H3 htid hret ⟨hso, fun _ => rfl, .inl rfl⟩ o13 w3
 obtain ⟨mods, rfl, hmods⟩ := m9 (P := fun v => ∃ mods : Int, v = .int mods /\ (mods = 0 \/ mods = 4096 \/ mods = 16 \/ mods = 4112 \/ mods = 2048 \/ mods = 8192)) ⟨_, rfl, .inl rfl⟩ ⟨_, rfl, .inr (.inl rfl)⟩ ⟨_, rfl, .inr (.inr (.inl rfl))⟩ ⟨4112, rfl, .inr (.inr (.inr (.inl rfl)))⟩ ⟨_, rfl, .inr (.inr (.inr (.inr (.inl rfl))))⟩ ⟨_, rfl, .inr (.inr (.inr (.inr (.inr rfl))))⟩ mv hmv
 exact hK (64 + r1) ret so mods _ H4 htid hret ⟨hso, fun h => absurd (eq_of_beq z) h, hmods⟩ (o13.trans o4) w4
end
section
variable {T : Av} {H : Hp} {k : AV -> Hp -> Prop}
variable {C : LC} {f2 f3 f4 f5 f6 f7 f8 g9 g10 g11 g12 g13 g14 g15 g16 g17 g18 g19 g20 g21 g22 g23 g24 g25 : Option AV} {K : Fl -> Ag -> Hp -> Prop}
theorem iJ {tid ret : Nat} {first : Bool} {so mods : Int} (c : C.Ok) (w : WS 11 C.gs C.R H) (hr : ret ∈ C.all tid) (hm : SM so mods)
  (hK : ∀ ret so mods body b n H', ret ∈ C.all tid -> SM so mods -> Tr body b n -> n < 40000 -> BA 11 H H' -> WS 11 C.gs C.R H' -> pw (tF (some (.bool first)) f3 f4 f5 (some (nI ret)) (some (.int so)) (some (.int mods)) (some body) (some (.bool b)) g11 g12 g13 g14 g15 g16 g17 g18 g19 g20 g21 g22 g23 g24 g25) H' K) :
  p3 (tF (some (.bool first)) f3 f4 f5 (some (nI ret)) (some (.int so)) (some (.int mods)) g9 g10 g11 g12 g13 g14 g15 g16 g17 g18 g19 g20 g21 g22 g23 g24 g25) H K := by
 refine bV w fun x b n H1 tx hn o1 w1 => ?_
 cases first with
 | false => exact hK _ _ _ _ _ n _ hr hm tx (by omega) o1 w1
 | true => exact BN w1 fun a2 H2 o2 w2 => LM w2 (by decide : 1 < 1000) (.one (.node (i := 72) (by decide : 0 < 1000) .nil)) fun y H3 ty o3 w3 => BN w3 fun a4 H4 o4 w4 => hK 7 91 0 _ false _ H4 (List.mem_append_left _ c.r7) ⟨.inl rfl, fun h => absurd rfl h, .inl rfl⟩ (.node (i := 50) (by decide : 1 < 1000) (.one ty)) (by omega) (((o1.trans o2).trans o3).trans o4) w4
theorem oR {j : Int} {n : Nat} (h0 : 0 <= j) (h1 : j <= n) (h2 : n < 100000) : cF j n = true := by
 unfold cF Ii
 rw [decide_eq_true h0, Nat.ble_eq_true_of_le (show j.toNat <= n by exact xg h1), Nat.ble_eq_true_of_le (show n + 1 <= 100000 by omega)]
 rfl
theorem iI {so : Int} (w : WS 11 C.gs C.R H)
  (hK : ∀ ws H', ws.length <= 2 -> (so ≠ 91 -> ws = []) -> BA 11 H H' -> WS 11 C.gs C.R H' -> pv (tF f2 f3 f4 f5 f6 (some (.int so)) f8 g9 g10 (some (.str ws)) g12 g13 g14 g15 g16 g17 g18 g19 g20 g21 g22 g23 g24 g25) H' K) :
  pw (tF f2 f3 f4 f5 f6 (some (.int so)) f8 g9 g10 g11 g12 g13 g14 g15 g16 g17 g18 g19 g20 g21 g22 g23 g24 g25) H K := by
 refine bI (fun z => C8 w (by decide) (by decide) fun r1 H1 r10 r11 o1 w1 => Ei ?_ <| C8 w1 (by decide) (by decide) fun r2 H2 r20 r21 o2 w2 => Ei ?_ <| hK _ H2 ?_ (fun h => absurd (eq_of_beq z) h) (o1.trans o2) w2) fun z => hK [] H (Nat.zero_le _) (fun _ => rfl) .refl w
 ·exact oR r10 (show r1 <= (4 : Nat) by exact xe r11) (by decide)
 ·have e : ([85, 86, 84, 85].drop r1.toNat).length = 4 - r1.toNat := List.length_drop ..
  exact oR r20 (by exact xZ r21 r11 e) (by exact xX e)
 ·exact Nat.le_trans (List.length_take_le ..) (by exact xW r21)
theorem iH {j tid ret : Nat} {D : List AV} {vars : List Va} {H0 : Hp} {ws : List Nat} (c : C.Ok) (t : TI C j T D vars H0) (hj : j < 10) (htid : FF tid) (o : BA 11 H0 H) (w : WS 11 C.gs C.R H) (hw : ws.length <= 2)
  (hK : ∀ gb ms brief fl T' H1 H' ml rl L, gb.length = ws.length -> ms.length = j + 1 -> BA 11 H0 H1 -> Met tid (j + 1) ret brief C.gs C.R fl ws gb ms T T' H1 H' ml rl L -> pq (tF f2 (some (.int (tid : Int))) f4 f5 (some (nI ret)) f7 f8 g9 g10 (some (.str ws)) (some (.lst (gb.map bp))) (some (.loc ml)) (some (.loc rl)) g15 g16 g17 g18 g19 g20 g21 g22 g23 g24 g25) H' K) :
  pv (tF f2 (some (.int (tid : Int))) f4 f5 (some (nI ret)) f7 f8 g9 g10 (some (.str ws)) g12 g13 g14 g15 g16 g17 g18 g19 g20 g21 g22 g23 g24 g25) H K := by
 obtain ⟨f, hf⟩ := c.face
 obtain ⟨s, hs⟩ := t.s
 obtain ⟨ms, h8, hms⟩ := t.g8
 have tl := t.tl
 have n63 := t.n63
 refine AK (by exact Q2 hw) <| Ol w hf (by omega) fun gb H1 hgb o1 w1 _ => ?_
 have b1 := o.trans o1
 have l1 := b1.1
 have kk : ∀ {n o}, n ≠ 11 -> AB H0 n = some o -> AB H1 n = some o := fun h e => b1.2 _ _ h e
 refine Ux (sl := C.sl) (own := (C.Y tid).own) w1 ⟨kk (by decide) hs, c.selves, kk (by decide) t.h17, c.lsl tid htid, by exact Q87 n63 l1, t.ko tid htid, by omega⟩ (kk (by decide) (t.tyH tid htid).s) (kk (by decide) h8) (by omega) (t.x.keep fun n h1 h6 o e => kk (by exact Q6 h6) e) hw (by exact fU hgb hw) fun brief fl T' H' ml rl L d => ?_
 rw [hms] at d
 exact hK gb ms brief fl T' H1 H' ml rl L hgb hms b1 d
end
section
set_option genInjectivity false
variable {T : Av} {H : Hp} {k : AV -> Hp -> Prop}
structure Nd (so mods : Int) (ws : List Nat) (body node : AV) (at_ : Int) : Prop where
 i : Gg node (ws.map fun c => [c]) (.int at_)
 c : (so = 0 /\ node = .none /\ at_ = 0) \/ (so ≠ 0 /\ ∃ wd ks, node = nd (.int so) wd (.lst ks) (.int mods) (.int at_) /\ ks.length < 1000 /\ Mine.getL ks (Ob so) = some body)
section
variable {C : LC} {f2 f3 f4 f5 f6 f10 g12 g13 g14 g15 g16 g17 g18 g19 g20 g21 g22 g23 g24 g25 : Option AV} {K : Fl -> Ag -> Hp -> Prop}
theorem iG {so mods : Int} {ws : List Nat} {body : AV} {s : Ae} (w : WS 11 C.gs C.R H) (sm : SM so mods) (hw : ws.length <= 2) (h0 : so ≠ 91 -> ws = []) (hs : AB H 46 = some (.inst 906 s.L))
  (hK : ∀ node at_ s' H', Nd so mods ws body node at_ -> Ay [11, 46] H H' -> WS 11 C.gs C.R H' -> AB H' 46 = some (.inst 906 (Ae.L s')) -> pj (tF f2 f3 f4 f5 f6 (some (.int so)) (some (.int mods)) (some body) f10 (some (.str ws)) g12 g13 g14 (some node) g16 g17 g18 g19 g20 g21 g22 g23 g24 g25) H' K) :
  pq (tF f2 f3 f4 f5 f6 (some (.int so)) (some (.int mods)) (some body) f10 (some (.str ws)) g12 g13 g14 g15 g16 g17 g18 g19 g20 g21 g22 g23 g24 g25) H K := by
 have s1 := sm.1
 refine bI (fun z => YR w (by have := of_decide_eq_true z; exact nV s1 this) hw h0 fun wd ks at_ H1 hl e1 hn o1 w1 => Oj w1 (by decide) (o1.2 46 _ (by decide) hs) fun s' H2 b2 w2 g2 => hK _ at_ s' H2 ⟨hn, .inr ⟨of_decide_eq_true z, wd, ks, rfl, hl, e1⟩⟩ (o1.sub.trans b2) w2 g2) fun z => ?_
 have z : so = 0 := Decidable.byContradiction (of_decide_eq_false z)
 refine Oj w (by decide) hs fun s' H2 b2 w2 g2 => hK .none 0 s' H2 ⟨?_, .inl ⟨z, rfl, rfl⟩⟩ b2 w2 g2
 rw [h0 (by omega)]; exact .none
end
noncomputable def EO (mods : Int) : Bool := decide (mods = 4096 \/ mods = 4112)
noncomputable def sB (b : Bool) (so : Int) : Bool := b && (so != 0)
theorem Xn {s : Ae} {mloc f : Nat} {m : Me} {r : AZ} {F : Fn} {so mods at_ : Int} {ws : List Nat} {body node : AV} {n : Nat} {b : Bool} {D : List AV} (t : Tl s D H) (hD : D.length < 800) (y : Ss T m r mloc f H) (hf : AB H f = some (.inst 446 (F.L 0 (-1)))) (sm : SM so mods) (nd_ : Nd so mods ws body node at_) (tb : Tr body b n) (nb : n < 40000)
  (q : ∀ H', Ay [33, f] H H' -> AB H' 33 = some (.list (D ++ PG T m r (EO mods) (sB b so) (.int at_))) -> AB H' f = some (.inst 446 (F.L (UJ (EO mods) (sB b so)) (UK (EO mods) (sB b so) r))) -> k .none H') : Cd [.loc 46, .loc mloc, .loc f, node] H k := by
 rcases nd_.c with ⟨z, rfl, rfl⟩ | ⟨z, wd, ks, rfl, hl, e1⟩
 ·rw [z] at sm q
  rw [sm.2.1 (by decide), show EO 0 = false from rfl, show sB b 0 = false from Bool.and_false b] at q
  exact L2 (q H .refl (t.r.trans (congrArg (fun l => some (AO.list l)) (List.append_nil _).symm)) hf)
 ·have e2 : sB b so = b := by
   unfold sB
   rw [Xw z, Bool.and_true]
  rw [e2] at q
  have s1 := sm.1
  refine Ui t hD y hf (by exact nV s1 z) hl e1 tb nb (fun h => ?_) (fun h => ?_) q
  ·rcases sm.2.2 with rfl | rfl | rfl | rfl | rfl | rfl <;> rfl
  ·rw [sm.2.1 h]; rfl
noncomputable def gP (L : List Pr) (i : Nat) : Pr := match Mine.getL L i with
 | some x => x
 | none => ⟨0, 0, 0, 0, 0⟩
theorem aY {L : List Pr} {i : Nat} {x : Pr} (e : Mine.getL L i = some x) : gP L i = x := by unfold gP; rw [e]
theorem Ub {α : Type} {l : List α} {b i : Nat} (h : i < b) : Mine.getL (l.take b) i = Mine.getL l i := by
 rw [D7, D7, List.getElem?_take_of_lt h]
theorem V5 {L : List Pr} {brief i : Nat} {x : Pr} {b : Bool} (e : Mine.getL L i = some x) (m0 : 0 <= x.m) (m4 : x.m < 4) : Up ((L.map Pr.m).take brief) i b = ZQ b x.m i brief := by
 have e' : Mine.getL (L.map Pr.m) i = some x.m := by rw [Mine.Bb, e]; rfl
 unfold ZQ
 cases b with
 | false => rfl
 | true =>
  by_cases h : i < brief
  ·have e2 : Mine.getL ((L.map Pr.m).take brief) i = some x.m := (Ub h).trans e'
   rw [show cy (i : Int) (brief : Int) = true from decide_eq_true (Int.ofNat_lt.mpr h), Bool.and_true]
   generalize x.m = m at e2 m0 m4
   have : decide (Builtin.bitAnd m 1 ≠ 0) = decide (m % 2 ≠ 0) := by
    rcases (by exact xf m0 m4 : m = 0 \/ m = 1 \/ m = 2 \/ m = 3) with rfl | rfl | rfl | rfl <;> rfl
   cases d : decide (m % 2 ≠ 0) with
   | true => exact aE e2 (this.trans d)
   | false => exact aF e2 (this.trans d)
  ·rw [show cy (i : Int) (brief : Int) = false from decide_eq_false fun z => h (Int.ofNat_lt.mp z), Bool.and_false]
   exact aD (by rw [List.length_take]; omega)
theorem JU {α : Type} {x : α} {l : List α} (h : x ∈ l) : ∃ i, Mine.getL l i = some x := by
 obtain ⟨i, e⟩ := List.mem_iff_getElem?.mp h
 exact ⟨i, D7.trans e⟩
theorem MS.mem {brief : Nat} {L : List Pr} (h : MS T brief L) {x : Pr} (m : x ∈ L) : OkP T brief x := by
 obtain ⟨i, e⟩ := JU m
 exact (h i x e).2
theorem MS.ext {T' : Av} {brief : Nat} {L : List Pr} (h : MS T brief L) (e : Eb T T') : MS T' brief L := fun i x ex => by
 obtain ⟨h1, r, g, h2⟩ := h i x ex
 exact ⟨h1, r, e.get g, h2⟩
theorem Zl {α : Type} {p q : α -> Bool} {l : List α} (h : ∀ x ∈ l, p x = q x) : l.any p = l.any q := by
 induction l with
 | nil => rfl
 | cons x l ih => rw [List.any_cons, List.any_cons, h x (.head _), ih fun y hy => h y (.tail _ hy)]
theorem dw {b : Bool} {m : Int} {i brief : Nat} : (ZQ b m i brief != 1) = b := by
 unfold ZQ
 cases b with
 | false => rfl
 | true => cases decide (m % 2 ≠ 0) && cy (i : Int) (brief : Int) <;> rfl
theorem MS.any {brief : Nat} {L : List Pr} (h : MS T brief L) : (L.any fun x => x.f != 1) = (L.map Pr.pZ).any (N9 T) := by
 rw [List.any_map]
 refine Zl fun x hx => ?_
 obtain ⟨r, g, _, _, ef, _⟩ := h.mem hx
 show (x.f != 1) = N9 T (x.p : Int)
 rw [ef, dw, TX g]
theorem MS.kinds {brief : Nat} {L : List Pr} (h : MS T brief L) : ∀ p ∈ L.map Pr.pZ, N4 T p := fun p hp => by
 obtain ⟨x, hx, rfl⟩ := List.mem_map.mp hp
 obtain ⟨r, g, _⟩ := h.mem hx
 exact ⟨x.p, r, rfl, g⟩
theorem MS.decl {brief : Nat} {L : List Pr} (h : MS T brief L) : ∀ i p, Mine.getL (L.map Pr.pZ) i = some p -> ∃ (n : Nat) (r : AZ), p = (n : Int) /\ Mine.getL T.rows n = some r /\ (gP L i).v = (bif Ht r == 5 then r.b else p) /\ (r.a = 5 -> r.l = none) /\ (gP L i).f = Up ((L.map Pr.m).take brief) i (Ht r == 5) := fun i p hp => by
 rw [Mine.Bb] at hp
 cases e : Mine.getL L i with
 | none => rw [e] at hp; exact nomatch hp
 | some x =>
  rw [e] at hp
  cases hp
  obtain ⟨hi, r, g, ev, en, ef, m0, m4⟩ := h i x e
  rw [aY e]
  exact ⟨x.p, r, rfl, g, ev, en, by rw [V5 e m0 m4, ef, hi]⟩
theorem MS.names {brief : Nat} {L : List Pr} (h : MS T brief L) : ∀ i, i < L.length -> Mine.getL (L.map Pr.nm) i = some [120 + i] := fun i hi => by
 obtain ⟨x, e⟩ := Am hi
 rw [Mine.Bb, e, <- (h i x e).1]; rfl
end
section
set_option genInjectivity false
variable {T : Av} {H : Hp} {k : AV -> Hp -> Prop}
noncomputable def J1 (l0 j : Nat) (L : List Pr) : List Va := L.map fun x => ⟨.int ((l0 + x.i : Nat) : Int), [120 + x.i], x.v, x.f, j, x.i, 0⟩
theorem Yh {α β : Type} {f : Nat -> β} {g : α -> β} {L : List α} (h : ∀ i x, Mine.getL L i = some x -> f i = g x) : (List.range L.length).map f = L.map g := by
 refine List.ext_getElem? fun i => ?_
 rw [List.getElem?_map, List.getElem?_map]
 by_cases hi : i < L.length
 ·rw [List.getElem?_range hi]
  obtain ⟨x, e⟩ := Am hi
  rw [<- D7, e]
  exact congrArg some (h i x e)
 ·rw [List.getElem?_eq_none (by rw [List.length_range]; exact Q56 hi), List.getElem?_eq_none (by exact Q56 hi)]; rfl
theorem Yi {l0 j brief : Nat} {L : List Pr} (h : MS T brief L) : cP l0 j (fun i => (gP L i).v) (fun i => (gP L i).f) L.length = (J1 l0 j L).map Va.L := by
 unfold J1
 rw [List.map_map]
 refine Yh fun i x e => ?_
 show Tw (.int ((l0 + i : Nat) : Int)) (.str [120 + i]) (.int (gP L i).v) (.int (gP L i).f) (.int (j : Int)) (.int (i : Int)) (.int 0) = _
 rw [aY e]
 obtain rfl := (h i x e).1
 rfl
structure Mid (C : LC) (j : Nat) (T T2 : Av) (D : List AV) (vars : List Va) (tid ret : Nat) (r : AZ) (ws : List Nat) (gb : List (Int × List Int)) (mks : List Nat) (late st : Bool) (at_ fl : Int) (brief : Nat) (L : List Pr) (s : Ae) (ml rl tp bo sc hd : Nat) (H0 H : Hp) : Prop where
 b : Ay (11 :: 8 :: 46 :: 37 :: 29 :: 31 :: 33 :: 30 :: KL) H0 H
 w : WS 11 C.gs C.R H
 x : KT T2 H
 e : Eb T T2
 l : T2.rows.length <= T.rows.length + 5
 mn : mks.length = gb.length
 mp : ∀ i m, Mine.getL mks i = some m -> CH 0 T2.rows ⟨7, (i : Int), none⟩ = some m
 g8 : ∃ ms, AB H 8 = some (.list ms) /\ ms.length = j + 2
 g29 : ∃ fns, AB H 29 = some (.list fns) /\ fns.length = j + 2
 g31 : AB H 31 = some (.idict (ML (j + 1)))
 g33 : AB H 33 = some (.list (D ++ PG T2 (MY tid (j + 1) ret brief fl ws gb L) r late st (.int at_)))
 g30 : ∃ locs, AB H 30 = some (.list (.none :: locs)) /\ Hh H 63 locs ((vars ++ J1 (vars.length + 1) (j + 1) L).map Va.L)
 hm : AB H ml = some (.inst 292 (MY tid (j + 1) ret brief fl ws gb L).L)
 hr : AB H rl = some (.list (L.map Pr.row))
 lt : H0.length <= rl /\ rl < ml /\ ml < tp /\ tp < bo /\ bo + 1 < sc /\ sc + 5 < hd /\ hd + 1 < H.length
 c0 : AB H sc = some (.list [.loc hd])
 c1 : AB H (sc + 1) = some (.list [.int 0])
 c2 : AB H (sc + 2) = some (.idict [(1, .loc (hd + 1))])
 c3 : AB H hd = some (.sdict (Qw (vars.length + 1) L.length))
 c4 : AB H (hd + 1) = some (.sdict [])
 f0 : AB H (sc + 3) = some (.inst 446 (Fn.L ⟨j + 1, j + 1, sc + 3, IG (RJ fl) (C.Y tid).own, ret, .int at_⟩ (UJ late st) (UK late st r)))
 f1 : AB H (sc + 4) = some (.list (Fc (vars.length + 1) L.length))
 f2 : AB H (sc + 5) = some (.list (Fc (vars.length + 1) L.length))
 s : AB H 46 = some (.inst 906 (Ld s tid (j + 1) tp sc (sc + 3) (RJ fl)).L)
 t : AB H tp = some (.sdict (dS ((C.Y tid).words.zip (C.Y tid).vks ++ (ws.map fun c => [c]).zip mks)))
 h : AB H 37 = some (.inst 544 (UZ (.loc bo) (.loc (bo + 1))))
 hb : AB H bo = some (.idict (To ((C.Y tid).vks.zip (C.Y tid).bnd ++ mks.zip gb)))
 hg : AB H (bo + 1) = some (.idict (dG ((C.Y tid).vks.zip (C.Y tid).bnd ++ mks.zip gb)))
 m : MS T2 brief L
 n : L.length <= 3
 hfl : fl = 0 \/ fl = 1 \/ fl = 6 \/ fl = 129
theorem tB {n : Nat} (h : n ∉ 11 :: 8 :: 46 :: 37 :: 29 :: 31 :: 33 :: 30 :: KL) : n ≠ 11 /\ n ≠ 8 /\ n ≠ 46 /\ n ≠ 37 /\ n ≠ 29 /\ n ≠ 31 /\ n ≠ 33 /\ n ≠ 30 /\ (n < 2 \/ 6 < n) := by
 simp only [List.mem_cons, not_or] at h
 have : n < 2 \/ 6 < n := Classical.byContradiction fun z => h.2.2.2.2.2.2.2.2 (Qr z)
 exact zu this h.1 h.2.2.2.2.1 h.2.2.2.2.2.2.2.1 h.2.2.2.2.2.1 h.2.2.2.2.2.2.1 h.2.2.2.1 h.2.2.1 h.2.1
theorem oi {n : Nat} (h : n ≠ 11 /\ n ≠ 8 /\ n ≠ 46 /\ n ≠ 37 /\ n ≠ 29 /\ n ≠ 31 /\ n ≠ 33 /\ n ≠ 30 /\ (n < 2 \/ 6 < n)) : n ∉ 11 :: 8 :: 46 :: 37 :: 29 :: 31 :: 33 :: 30 :: KL := by
 simp only [List.mem_cons, not_or]
 exact ⟨h.1, h.2.1, h.2.2.1, h.2.2.2.1, h.2.2.2.2.1, h.2.2.2.2.2.1, h.2.2.2.2.2.2.1, h.2.2.2.2.2.2.2.1, Hv h.2.2.2.2.2.2.2.2⟩
theorem in8 {n a b c d : Nat} (h : n ≠ a) (h1 : n ≠ b) (h2 : n ≠ c) (h3 : n ≠ d) (h4 : n < 2 \/ 6 < n) : n ∉ a :: b :: c :: d :: KL := fun z => by cases z with
 | head => exact h rfl
 | tail _ z => cases z with
  | head => exact h1 rfl
  | tail _ z => exact YM h2 h3 h4 z
theorem in5 {n a b c : Nat} (h : n ≠ a) (h1 : n ≠ b) (h2 : n ≠ c) (h4 : n < 2 \/ 6 < n) : n ∉ a :: b :: c :: KL := fun z => by cases z with
 | head => exact h rfl
 | tail _ z => exact YM h1 h2 h4 z
section
variable {C : LC} {f2 f3 f4 f5 f6 f7 f8 f9 f10 f11 f12 g16 g17 g18 g19 g20 g21 g22 g23 g24 g25 : Option AV} {K : Fl -> Ag -> Hp -> Prop}
theorem iF {j tid ret brief n : Nat} {D : List AV} {vars : List Va} {H0 H1 H2 : Hp} {so mods at_ fl : Int} {ws : List Nat} {gb : List (Int × List Int)} {ms : List AV} {T' : Av} {ml rl : Nat} {L : List Pr} {s' : Ae} {body node : AV} {b : Bool} {r : AZ} (t : TI C j T D vars H0) (hj : j < 8) (htid : FF tid) (o1 : BA 11 H0 H1) (d : Met tid (j + 1) ret brief C.gs C.R fl ws gb ms T T' H1 H2 ml rl L) (hgb : gb.length = ws.length) (hw : ws.length <= 2) (hms : ms.length = j + 1)
  (b3 : Ay [11, 46] H2 H) (w : WS 11 C.gs C.R H) (hs : AB H 46 = some (.inst 906 s'.L)) (nd_ : Nd so mods ws body node at_) (sm : SM so mods) (tb : Tr body b n) (nb : n < 40000) (ro : MQ C T tid ret r)
  (hK : ∀ T2 mks tp bo sc hd H', Mid C j T T2 D vars tid ret r ws gb mks (EO mods) (sB b so) at_ fl brief L s' ml rl tp bo sc hd H0 H' -> ph (tF f2 f3 f4 f5 f6 f7 f8 f9 f10 f11 f12 (some (.loc ml)) (some (.loc rl)) (some node) (some (.loc (sc + 3))) g17 g18 g19 g20 g21 g22 g23 g24 g25) H' K) :
  pj (tF f2 f3 f4 f5 f6 f7 f8 f9 f10 f11 f12 (some (.loc ml)) (some (.loc rl)) (some node) g16 g17 g18 g19 g20 g21 g22 g23 g24 g25) H K := by
 obtain ⟨b0, g0, h37⟩ := t.h
 obtain ⟨fns, h29, hfns⟩ := t.f
 obtain ⟨locs, h30, hlocs⟩ := t.v
 have n63 := t.n63
 have dl := d.lt
 have tl := t.tl
 have dl' := d.l
 have o1l := o1.1
 have b3l := b3.1
 have pn := d.n
 have B : ∀ {n o}, n ≠ 11 -> n ≠ 8 -> n ≠ 46 -> n < 2 \/ 6 < n -> AB H0 n = some o -> AB H n = some o := fun h h1 h2 h3 e => b3.2 _ _ (HQ h h2) (d.b.2 _ _ (YM h h1 h3) (o1.2 _ _ h e))
 have hm := b3.2 ml _ (HQ (by omega) (by exact Q65 n63 dl.2.1 o1l dl.1)) d.g
 have un : Un fns (ML j) H := ⟨B (by decide) (by decide) (by decide) (by decide) t.u, B (by decide) (by decide) (by decide) (by decide) h29, B (by decide) (by decide) (by decide) (by decide) t.m', by exact zh hj hfns, by unfold ML; rw [Ef]; omega⟩
 have en : En T' s' tid (C.Y tid) b0 g0 (ms ++ [.loc ml]) (MY tid (j + 1) ret brief fl ws gb L) ml H := ⟨hs, (t.tyH tid htid).keep fun n o hn => B (by omega) (by omega) (by exact nN hn) (by exact vz hn), d.x.but b3 fun n h1 h6 => HQ (by exact Q6 h6) (by exact fV h6), (t.tyK tid htid).ext d.e, B (by decide) (by decide) (by decide) (by decide) h37, b3.2 _ _ (HQ (by decide) (by decide)) d.g8, hms ▸ Dq, Nat.succ_pos _, by rw [List.length_append, List.length_singleton]; exact Q76 hj hms, hm, show gb.length <= 2 by exact fU hgb hw, by exact zY n63 dl.2.1 dl.2.2 dl.1 b3l o1l, by exact Q79 n63 dl.2.1 o1l dl.1, by exact zR hj tl dl'⟩
 refine hk hm <| Xr en (gw := ws.map fun c => [c]) ((List.length_map ..).trans hgb.symm) nd_.i un fun H3 T2 mks tp bo sc E => ?_
 have elt := E.lt
 have eb : ∀ {n o}, n ≠ 46 -> n ≠ 37 -> n ≠ 29 -> n ≠ 31 -> n < 2 \/ 6 < n -> AB H n = some o -> AB H3 n = some o := fun h h1 h2 h3 h4 e => E.b.2 _ _ (in8 h h1 h2 h3 h4) e
 have hm3 := eb (by exact Q65 n63 dl.2.1 o1l dl.1) (by omega) (by exact zG n63 dl.2.1 o1l dl.1) (by omega) (by omega) hm
 have m3 := d.m.ext E.mx.e
 have rs := ro.s
 have lD := t.dl
 refine Xn (ws := ws) (F := ⟨fns.length, j + 1, sc + 3, IG (RJ fl) (C.Y tid).own, ret, .int at_⟩) (m := MY tid (j + 1) ret brief fl ws gb L) ⟨E.s, eb (by decide) (by decide) (by decide) (by decide) (by decide) (B (by decide) (by decide) (by decide) (by decide) t.dg), eb (by decide) (by decide) (by decide) (by decide) (by decide) (B (by decide) (by decide) (by decide) (by decide) t.d')⟩ (by exact Q85 hj lD) ⟨E.x, hm3, m3.kinds, (d.e.trans E.mx.e).get ro.g, ro.f, ro.z, sb (show ret < 100000 by exact Q0 rs), by exact y7 n63 elt.2.2.1 dl.2.2 dl.2.1 elt.2.1 dl.1 b3l elt.1 o1l, by exact Q79 n63 dl.2.1 o1l dl.1, by exact y2 elt.2.2.1 dl.2.2 elt.2.1 b3l elt.1⟩ E.f0 sm nd_ tb nb fun H4 b4 g33 gf => ?_
 have b4l := b4.1
 have s4 := b4.2 46 _ (HQ (by decide) (by exact y0 n63 elt.2.2.1 dl.2.2 dl.2.1 elt.2.1 dl.1 b3l elt.1 o1l)) E.s
 refine eE s4 (by exact yy n63 elt.2.2.1 dl.2.2 dl.2.1 elt.2.1 dl.1 b3l elt.1 o1l) (b4.2 _ _ (HQ (by exact yu n63 elt.2.2.1 dl.2.2 dl.2.1 elt.2.1 dl.1 b3l elt.1 o1l) (by omega)) E.q0) (b4.2 _ _ (HQ (by exact yr n63 elt.2.2.1 dl.2.2 dl.2.1 elt.2.1 dl.1 b3l elt.1 o1l) (by omega)) E.q1) (b4.2 _ _ (HQ (by exact yq n63 elt.2.2.1 dl.2.2 dl.2.1 elt.2.1 dl.1 b3l elt.1 o1l) (by omega)) E.q2) fun H5 l5 b5 c0 c1 c2 c3 c4 => ?_
 have k5 : ∀ {n o}, n ≠ 33 -> (n < sc \/ sc + 3 < n) -> AB H3 n = some o -> AB H5 n = some o := fun h h1 e => b5.2 _ _ (L0 (by omega) (by omega) (by omega)) (b4.2 _ _ (HQ h (by omega)) e)
 have ll : locs.length = vars.length := hlocs.length.trans (List.length_map ..)
 have e4 : (AV.none :: locs).length = vars.length + 1 := congrArg Nat.succ ll
 have lvars := t.vl
 have x5 : KT T2 H5 := E.x.keep fun n h1 h6 o e => k5 (by exact Q94 h6) (by exact yn n63 elt.2.2.1 dl.2.2 dl.2.1 elt.2.1 h6 b3l elt.1 dl.1 o1l) e
 have g29 := k5 (by decide) (by exact yk n63 elt.2.2.1 dl.2.2 dl.2.1 elt.2.1 dl.1 b3l elt.1 o1l) E.g29
 have gf5 := b5.2 (sc + 3) _ (L0 (by omega) (by omega) (by omega)) gf
 refine Za (a := UJ (EO mods) (sB b so)) (b := UK (EO mods) (sB b so) r) (F := ⟨fns.length, j + 1, sc + 3, IG (RJ fl) (C.Y tid).own, ret, .int at_⟩) (vs0 := .none :: locs) (vk := fun i => (gP L i).v) (fl := fun i => (gP L i).f) (by exact yh hj e4 lvars) ⟨x5, k5 (by exact oB n63 dl.2.1 o1l dl.1) (by exact yf elt.2.2.1 dl.2.2 elt.2.1 b3l elt.1) hm3, m3.decl, (show ∀ i, i < (L.map Pr.pZ).length -> _ from (List.length_map (as := L) Pr.pZ).symm ▸ m3.names), show (L.map Pr.pZ).length < 100 by rw [List.length_map]; omega, show ((L.map Pr.m).take brief).length < 1000 by rw [List.length_take, List.length_map]; omega, show (L.map Pr.nm).length < 1000 by rw [List.length_map]; exact vm pn, by exact yW n63 elt.2.2.1 dl.2.2 dl.2.1 elt.2.1 dl.1 b3l elt.1 o1l⟩ ⟨b5.2 46 _ (L0 (by exact n9 n63 elt.2.2.1 dl.2.2 dl.2.1 elt.2.1 dl.1 b3l elt.1 o1l) (by exact nu n63 elt.2.2.1 dl.2.2 dl.2.1 elt.2.1 dl.1 b3l elt.1 o1l) (by exact nq n63 elt.2.2.1 dl.2.2 dl.2.1 elt.2.1 dl.1 b3l elt.1 o1l)) s4, c0, c1, c2, c4, k5 (by decide) (by exact yH n63 elt.2.2.1 dl.2.2 dl.2.1 elt.2.1 dl.1 b3l elt.1 o1l) (eb (by decide) (by decide) (by decide) (by decide) (by decide) un.u), g29, Dq, gf5, show 0 < fns.length by omega, by rw [List.length_append, List.length_singleton]; exact Q76 hj hfns, show 63 <= sc /\ sc + 3 = sc + 3 /\ sc + 3 + 2 < H4.length /\ H4.length < H4.length + 1 by exact yG n63 elt.2.2.1 elt.2.2.2 elt.2.1 dl.2.2 dl.2.1 b4l elt.1 dl.1 o1l b3l⟩ c3 (k5 (n := sc + 4) (by exact yD n63 elt.2.2.1 dl.2.2 dl.2.1 elt.2.1 dl.1 b3l elt.1 o1l) (by omega) E.f1) (k5 (n := sc + 5) (by exact yA n63 elt.2.2.1 dl.2.2 dl.2.1 elt.2.1 dl.1 b3l elt.1 o1l) (by omega) E.f2) (k5 (by decide) (by exact xy n63 elt.2.2.1 dl.2.2 dl.2.1 elt.2.1 dl.1 b3l elt.1 o1l) (eb (by decide) (by decide) (by decide) (by decide) (by decide) (B (by decide) (by decide) (by decide) (by decide) h30))) fun H6 ds => ?_
 have d6l := ds.b.1
 have dN : (L.map Pr.pZ).length = L.length := List.length_map ..
 have k6 : ∀ {n o}, n ≠ 30 -> n ≠ sc + 4 -> n ≠ sc + 5 -> n ≠ H4.length -> AB H5 n = some o -> AB H6 n = some o := fun h h1 h2 h3 e => ds.b.2 _ _ (oj h h1 h2 h3) e
 have k36 : ∀ {n o}, n ≠ 33 -> n ≠ 30 -> (n < sc \/ sc + 5 < n) -> n ≠ H4.length -> AB H3 n = some o -> AB H6 n = some o := fun h h1 h2 h3 e => k6 h1 (by omega) (by exact xv h2) h3 (k5 h (by omega) e)
 have kw : ∀ {n o}, n = 11 \/ n = 8 -> AB H n = some o -> AB H6 n = some o := fun hn e => k36 (by omega) (by omega) (by exact xt n63 elt.2.2.1 dl.2.2 dl.2.1 elt.2.1 hn b3l elt.1 dl.1 o1l) (by exact xm n63 elt.2.2.1 elt.2.2.2 elt.2.1 dl.2.2 dl.2.1 hn elt.1 dl.1 o1l b3l b4l) (eb (by omega) (by omega) (by omega) (by omega) (by omega) e)
 have kA : ∀ {n o}, (n ≠ 11 /\ n ≠ 8 /\ n ≠ 46 /\ n ≠ 37 /\ n ≠ 29 /\ n ≠ 31 /\ n ≠ 33 /\ n ≠ 30 /\ (n < 2 \/ 6 < n)) -> AB H0 n = some o -> AB H6 n = some o := fun h e => by
  have := AX e
  exact k36 (by omega) (by omega) (by exact xY elt.2.2.1 dl.2.2 dl.2.1 elt.2.1 this dl.1 elt.1 o1l b3l) (by exact xU elt.2.2.1 elt.2.2.2 elt.2.1 dl.2.2 this dl.2.1 dl.1 o1l b3l elt.1 b4l) (eb (by exact nS h.2.2.1) (by omega) (by omega) (by omega) (by exact nR h.2.2.2.2.2.2.2.2) (B (by omega) (by omega) (by exact nS h.2.2.1) (by exact nR h.2.2.2.2.2.2.2.2) e))
 have mxl := E.mx.l
 rw [List.length_map] at mxl
 obtain ⟨l2, g30, v2⟩ := ds.v
 have dv := ds.l
 have dp := ds.p
 have dn := ds.n
 have lmd : (MY tid (j + 1) ret brief fl ws gb L).ps.length = L.length := dN
 rw [lmd] at v2 dv dp dn
 rw [e4] at v2 dv dp dn
 rw [hfns] at v2 gf5
 refine hK T2 mks tp bo sc H4.length H6 ⟨?_, w.keep fun o e => kw (.inl rfl) e, x5.keep fun n h1 h6 o e => k6 (by exact Q66 h6) (by exact xS elt.2.2.1 elt.2.1 h6) (by exact xR elt.2.2.1 h6) (by exact xQ elt.2.2.1 elt.2.2.2 h6 b4l) e, d.e.trans E.mx.e, by exact xM hw dl' mxl, E.mx.n.trans ((List.length_map ..).trans hgb.symm), E.mx.p, ⟨_, kw (.inr rfl) (b3.2 8 _ (HQ (by decide) (by decide)) d.g8), by rw [List.length_append, hms]; rfl⟩, ⟨_, k6 (by decide) (by exact xK n63 elt.2.2.1 dl.2.2 dl.2.1 elt.2.1 dl.1 b3l elt.1 o1l) (by exact xF n63 elt.2.2.1 dl.2.2 dl.2.1 elt.2.1 dl.1 b3l elt.1 o1l) (by exact xA n63 elt.2.2.1 elt.2.2.2 elt.2.1 dl.2.2 dl.2.1 b4l elt.1 dl.1 o1l b3l) g29, by rw [List.length_append, hfns]; rfl⟩, ?_, k6 (by decide) (by exact w9 n63 elt.2.2.1 dl.2.2 dl.2.1 elt.2.1 dl.1 b3l elt.1 o1l) (by omega) (by exact wz n63 elt.2.2.1 elt.2.2.2 elt.2.1 dl.2.2 dl.2.1 b4l elt.1 dl.1 o1l b3l) (b5.2 33 _ (L0 (by omega) (by omega) (by omega)) g33), ⟨locs ++ l2, g30, ?_⟩, k36 (by exact oB n63 dl.2.1 o1l dl.1) (by omega) (by exact wy elt.2.2.1 dl.2.2 elt.2.1 b3l elt.1) (by exact wx elt.2.2.1 elt.2.2.2 elt.2.1 dl.2.2 elt.1 b4l b3l) hm3, k36 (by omega) (by omega) (by exact wu elt.2.2.1 dl.2.1 elt.2.1 dl.2.2 b3l elt.1) (by exact wt elt.2.2.1 elt.2.2.2 elt.2.1 dl.2.2 dl.2.1 b4l elt.1 b3l) (eb (by exact nP n63 o1l dl.1) (by omega) (by omega) (by omega) (by exact wq n63 o1l dl.1) (b3.2 rl _ (HQ (by omega) (by exact nP n63 o1l dl.1)) d.r)), ⟨by omega, by exact vu dl.2.1, by omega, by exact vu elt.2.1, by exact nk elt.2.2.1, by omega, by omega⟩, k6 (by exact wo n63 elt.2.2.1 dl.2.2 dl.2.1 elt.2.1 dl.1 b3l elt.1 o1l) (by omega) (by omega) (by omega) c0, k6 (by exact wm n63 elt.2.2.1 dl.2.2 dl.2.1 elt.2.1 dl.1 b3l elt.1 o1l) (by omega) (by omega) (by exact wj elt.2.2.2 b4l) c1, k6 (by exact wi n63 elt.2.2.1 dl.2.2 dl.2.1 elt.2.1 dl.1 b3l elt.1 o1l) (by omega) (by omega) (by omega) c2, dn, k6 (by exact wg n63 elt.2.2.1 elt.2.2.2 elt.2.1 dl.2.2 dl.2.1 b4l elt.1 dl.1 o1l b3l) (by omega) (by omega) (by exact bH) c4, k6 (by exact wb n63 elt.2.2.1 dl.2.2 dl.2.1 elt.2.1 dl.1 b3l elt.1 o1l) (by omega) (by omega) (by omega) gf5, dv, dp, k6 (by decide) (by exact wZ n63 elt.2.2.1 dl.2.2 dl.2.1 elt.2.1 dl.1 b3l elt.1 o1l) (by exact wY n63 elt.2.2.1 dl.2.2 dl.2.1 elt.2.1 dl.1 b3l elt.1 o1l) (by exact wX n63 elt.2.2.1 elt.2.2.2 elt.2.1 dl.2.2 dl.2.1 b4l elt.1 dl.1 o1l b3l) (b5.2 46 _ (L0 (by exact n9 n63 elt.2.2.1 dl.2.2 dl.2.1 elt.2.1 dl.1 b3l elt.1 o1l) (by exact nu n63 elt.2.2.1 dl.2.2 dl.2.1 elt.2.1 dl.1 b3l elt.1 o1l) (by exact nq n63 elt.2.2.1 dl.2.2 dl.2.1 elt.2.1 dl.1 b3l elt.1 o1l)) s4), k36 (by exact wW n63 dl.2.2 dl.2.1 dl.1 elt.1 o1l b3l) (by exact wV n63 dl.2.2 dl.2.1 dl.1 elt.1 o1l b3l) (by omega) (by omega) E.t, k36 (by decide) (by decide) (by exact wU n63 elt.2.2.1 dl.2.2 dl.2.1 elt.2.1 dl.1 b3l elt.1 o1l) (by exact wR n63 elt.2.2.1 elt.2.2.2 elt.2.1 dl.2.2 dl.2.1 b4l elt.1 dl.1 o1l b3l) E.h, k36 (by exact wQ n63 elt.2.1 dl.2.2 dl.2.1 dl.1 o1l b3l elt.1) (by exact wO n63 elt.2.1 dl.2.2 dl.2.1 dl.1 o1l b3l elt.1) (by omega) (by exact wN elt.2.2.1 elt.2.2.2 b4l) E.hb, k36 (by exact wM n63 elt.2.1 dl.2.2 dl.2.1 dl.1 o1l b3l elt.1) (by exact wL n63 elt.2.1 dl.2.2 dl.2.1 dl.1 o1l b3l elt.1) (by omega) (by omega) E.hg, m3, pn, d.hf⟩
 ·exact ⟨by exact wK elt.2.2.1 elt.2.2.2 dl.2.1 elt.2.1 dl.2.2 l5 d6l dl.1 o1l b3l b4l elt.1, fun n o hn e => kA (tB hn) e⟩
 ·have := k6 (n := 31) (by decide) (by exact wJ n63 elt.2.2.1 dl.2.2 dl.2.1 elt.2.1 dl.1 b3l elt.1 o1l) (by exact wI n63 elt.2.2.1 dl.2.2 dl.2.1 elt.2.1 dl.1 b3l elt.1 o1l) (by exact wH n63 elt.2.2.1 elt.2.2.2 elt.2.1 dl.2.2 dl.2.1 b4l elt.1 dl.1 o1l b3l) (k5 (by decide) (by exact wG n63 elt.2.2.1 dl.2.2 dl.2.1 elt.2.1 dl.1 b3l elt.1 o1l) E.g31)
  rw [hfns] at this
  exact YG ▸ this
 ·rw [List.map_append]
  exact An.append (hlocs.keep fun m o hm_ g => kA (by exact wF hm_) g) (by rw [<- Yi m3]; exact An.imp (fun _ _ ⟨n, e, h, g⟩ => ⟨n, e, by exact wD n63 h elt.2.2.1 elt.2.2.2 elt.2.1 dl.2.2 dl.2.1 dl.1 o1l b3l elt.1 b4l, g⟩) v2)
end
end
section
variable {T : Av} {H : Hp} {k : AV -> Hp -> Prop}
theorem Wz {mods : Int} (h : (mods == 4096) = true) : (mods == 4096) = EO mods := h.trans (decide_eq_true (.inl (eq_of_beq h))).symm
theorem Wy {mods : Int} (h : (mods == 4096) = false) : (mods == 4112) = EO mods := by
 have h := Az h
 unfold EO
 by_cases q : mods = 4112
 ·rw [decide_eq_true (.inr q)]; exact beq_iff_eq.mpr q
 ·rw [decide_eq_false fun z => z.elim h q]; exact SR q
noncomputable def pg : VS := (AG (BM 19 (Ai (AA (vL 0) (AA (vL 13) (AA (vL 14) (AA (vL 18) (AA (Ov (vL 10) (AL (vL 7) (vC (.int 0)) fC)) (AA (vL 17) (AA (vL 4) AQ))))))) B0)) gD)
section
variable {C : LC} {f1 f2 f3 f4 f5 f6 f7 f8 f9 f10 f11 f12 f13 f14 f15 f16 f17 f18 f19 f20 f21 f22 f23 f24 f25 g17 g18 g19 g20 g21 g22 g23 g24 g25 : Option AV} {K : Fl -> Ag -> Hp -> Prop}
theorem iE {j : Nat} {T2 : Av} {D : List AV} {vars : List Va} {tid ret : Nat} {so mods at_ fl : Int} {r : AZ} {ws : List Nat} {gb : List (Int × List Int)} {mks : List Nat} {b : Bool} {body node : AV} {brief : Nat} {L : List Pr} {s : Ae} {ml rl tp bo sc hd : Nat} {H0 : Hp} (c : C.Ok) (t : TI C j T D vars H0) (hj : j < 8) (htid : FF tid) (nd_ : Nd so mods ws body node at_) (ro : MQ C T tid ret r)
  (M : Mid C j T T2 D vars tid ret r ws gb mks (EO mods) (sB b so) at_ fl brief L s ml rl tp bo sc hd H0 H)
  (hK : ∀ f18 H', Ay [12] H H' -> AB H' 12 = some (.list (D ++ PG T2 (MY tid (j + 1) ret brief fl ws gb L) r (EO mods) (sB b so) (.int at_))) -> gD (tF f2 f3 (some (nI (C.Y tid).own)) f5 f6 (some (.int so)) (some (.int mods)) f9 (some (.bool b)) f11 f12 (some (.loc ml)) (some (.loc rl)) (some node) f16 (some (.int at_)) f18 (some (.tup [.int (UJ (EO mods) (sB b so)), .int (UK (EO mods) (sB b so) r)])) g20 g21 g22 g23 g24 g25) H' K) :
  ph (tF f2 f3 (some (nI (C.Y tid).own)) f5 f6 (some (.int so)) (some (.int mods)) f9 (some (.bool b)) f11 f12 (some (.loc ml)) (some (.loc rl)) (some node) f16 g17 g18 g19 g20 g21 g22 g23 g24 g25) H K := by
 have lt := M.lt
 have n63 := t.n63
 have rs := ro.s
 have lD := t.dl
 have hb : ∀ {n o}, 12 <= n -> n <= 27 -> AB H0 n = some o -> AB H n = some o := fun h h1 e => M.b.2 _ _ (oi (by exact xd h h1)) e
 have hl : Zt C.gs C.R ml (MY tid (j + 1) ret brief fl ws gb L) r (C.Y tid).own H := by
  obtain ⟨t1, t4, h1, h2⟩ := c.task
  obtain ⟨u1, u4, h3, h4⟩ := c.each
  exact ⟨M.w, M.hm, by exact Q84 n63 lt.2.1 lt.1, sb (show ret < 100000 by exact Q0 rs), c.told, ⟨t1, t4, C.tk tid, C.tl, h1, h2, c.taskof, hb (by decide) (by decide) t.h26, c.ltl tid htid, ro.aw t1 t4 h1 h2⟩, ⟨u1, u4, C.ea tid, C.el, h3, h4, c.eachof, hb (by decide) (by decide) t.h27, c.lel tid htid, ro.it u1 u4 h3 h4⟩⟩
 have Et : ∀ (lv sv : Bool), lv = EO mods -> sv = sB b so -> B0 [.loc 11, .loc ml, .loc rl, .bool lv, .bool sv, .int at_, nI (C.Y tid).own] H (US 19 (tF f2 f3 (some (nI (C.Y tid).own)) f5 f6 (some (.int so)) (some (.int mods)) f9 (some (.bool b)) f11 f12 (some (.loc ml)) (some (.loc rl)) (some node) f16 (some (.int at_)) (some (.bool lv)) g19 g20 g21 g22 g23 g24 g25) (Ro gD K)) := fun lv sv e1 e2 => by
  rw [e1, e2]
  exact bR hl (hb (by decide) (by decide) t.d) (by exact Q85 hj lD) M.hr M.n M.m.any fun H' b' g' => hK _ H' b' g'
 have and_ : ∀ lv, lv = EO mods -> pg (tF f2 f3 (some (nI (C.Y tid).own)) f5 f6 (some (.int so)) (some (.int mods)) f9 (some (.bool b)) f11 f12 (some (.loc ml)) (some (.loc rl)) (some node) f16 (some (.int at_)) (some (.bool lv)) g19 g20 g21 g22 g23 g24 g25) H K := fun lv e => by
  cases b with
  | true => exact Et lv _ e (Bool.true_and _).symm
  | false => exact Et lv _ e (Bool.false_and _).symm
 rcases nd_.c with ⟨z, rfl, rfl⟩ | ⟨z, wd, ks, rfl, _, _⟩
 ·exact bF (decide_eq_false fun h => h z) (bI (fun z => and_ _ (Wz z)) fun z => and_ _ (Wy z))
 ·exact bT (decide_eq_true z) (bI (fun z => and_ _ (Wz z)) fun z => and_ _ (Wy z))
end
end
section
variable {T : Av} {H : Hp} {k : AV -> Hp -> Prop}
noncomputable def lb1 : VS := (AG (BE (Di (vL 21) (AL (BR (AL (vL 0) (vC (.str [118, 97, 114, 105, 97, 98, 108, 101, 115])) AR) Hu) (vC (.int 1)) HK))) (AG (BE (Di (AL (vL 0) (vC (.str [118, 97, 114, 105, 97, 98, 108, 101, 115])) AR) (AL (AL (vL 14) (vL 22) AR) (Au (AA (vL 20) (AA (vL 22) (AA (vC (.int 0)) AQ)))) M0))) AS))
noncomputable def lFr (rl q nn : Nat) (f1 f2 f3 f4 f5 f6 f7 f8 f9 f10 f11 f12 f13 f15 f16 f17 f18 f19 f22 f23 f24 f25 : Option AV) : Ag := [some (.loc 11), f1, f2, f3, f4, f5, f6, f7, f8, f9, f10, f11, f12, f13, some (.loc rl), f15, f16, f17, f18, f19, some (.int (nn : Int)), some (.loc q), f22, f23, f24, f25]
section
variable {C : LC} {f1 f2 f3 f4 f5 f6 f7 f8 f9 f10 f11 f12 f13 f14 f15 f16 f17 f18 f19 f20 f21 f22 f23 f24 f25 g17 g18 g19 g20 g21 g22 g23 g24 g25 : Option AV} {K : Fl -> Ag -> Hp -> Prop}
theorem UL {rl q nn n l0 brief : Nat} {vars : List Va} {L : List Pr} (c : C.Ok) (w : WS 11 C.gs C.R H) (hr : AB H rl = some (.list (L.map Pr.row))) (hm : MS T brief L) (ln : L.length <= 3) (el0 : l0 = vars.length + 1) (lv : vars.length < 100) (q63 : 63 <= q) (rq : rl ≠ q) (r63 : 63 <= rl)
  (hK : ∀ f22 H', Ay [13, q] H H' -> AB H' 13 = some (.list ((vars ++ J1 l0 nn L).map Va.A)) -> AB H' q = some (.list (Fc l0 L.length)) -> K .next (lFr rl q nn f1 f2 f3 f4 f5 f6 f7 f8 f9 f10 f11 f12 f13 f15 f16 f17 f18 f19 f22 f23 f24 f25) H') {cc : Nat} :
  ∀ {i : Nat} {H1 : Hp} {f22 : Option AV}, i + cc = L.length -> Ay [13, q] H H1 -> AB H1 13 = some (.list ((vars ++ (J1 l0 nn L).take i).map Va.A)) -> AB H1 q = some (.list (Fc l0 i)) ->
   CN (.rg n) (gN 22) lb1 (Mine.EK n) K (Mu i cc) (lFr rl q nn f1 f2 f3 f4 f5 f6 f7 f8 f9 f10 f11 f12 f13 f15 f16 f17 f18 f19 f22 f23 f24 f25) H1 := by
 have lN : (J1 l0 nn L).length = L.length := List.length_map ..
 induction cc with
 | zero =>
  intro i H1 f22 hc b g13 gq
  have e : i = L.length := hc
  rw [List.take_of_length_le (by exact wC hc lN)] at g13
  exact hK _ _ b g13 (e ▸ gq)
 | succ cc ih =>
  intro i H1 f22 hc b g13 gq
  obtain ⟨x, ex⟩ := Am (l := L) (i := i) (by exact Q3 hc)
  have xi := (hm i x ex).1
  have ev : Mine.getL (J1 l0 nn L) i = some ⟨.int ((l0 + x.i : Nat) : Int), [120 + x.i], x.v, x.f, nn, x.i, 0⟩ := by unfold J1; rw [Mine.Bb, ex]; rfl
  have w1 : ∀ {o}, WS 11 C.gs C.R (Ab H1 q o) := (w.keep fun o e => b.2 _ _ (HQ (by decide) (by exact nL q63)) e).keep fun o e => sn (by exact nL q63) e
  have len : ((vars ++ (J1 l0 nn L).take i).map Va.A).length = vars.length + i := by rw [List.length_map, List.length_append, List.length_take]; omega
  have ll : (Fc l0 i).length = i := Ef
  have el : (((vars ++ (J1 l0 nn L).take i).map Va.A).length : Int) + 1 = ((l0 + i : Nat) : Int) := by rw [len]; exact xV el0
  have g13' : ∀ {o}, AB (Ab H1 q o) 13 = _ := sn (by omega) g13
  refine hk gq <| Ak (w.keep fun o e => b.2 _ _ (HQ (by decide) (by exact nL q63)) e) (fun _ _ _ => rfl) c.vars <| hk g13 <| AK (by exact nU hc lv el0 ln el) <| hk gq <| AK (by exact fT hc ll ln) <| Ak w1 (fun _ _ _ => rfl) c.vars <| hk g13' <| hk (sn rq (b.2 _ _ (HQ (by exact vY r63) rq) hr)) <| QC (by exact Q9 ln) ex <| hk g13' <| AK (by exact nU hc lv el0 ln el) <| ih (by exact Q4 hc) ((b.put (.tail _ (.head _))).put (.head _)) ?_ ?_
  ·rw [C4 g13', D3 ev, <- List.append_assoc, List.map_append (l₁ := vars ++ _), <- xi]
   rfl
  ·unfold Fc
   rw [Dk, <- el]
   exact sn (by exact vY q63) (C4 gq)
theorem iD {j ml rl brief : Nat} {vars : List Va} {m : Me} {L : List Pr} (c : C.Ok) (w : WS 11 C.gs C.R H) (h14 : AB H 14 = some (.idict (ML j))) (h13 : AB H 13 = some (.list (vars.map Va.A))) (hm : AB H ml = some (.inst 292 m.L)) (em : m.mid = j + 1) (hr : AB H rl = some (.list (L.map Pr.row))) (ms : MS T brief L) (ln : L.length <= 3) (lv : vars.length < 100) (hj : j < 10) (n63 : 63 <= H.length) (r63 : 63 <= rl)
  (hK : ∀ q f22 H', Ay [14, 13] H H' -> H.length <= q -> q < H'.length -> AB H' 14 = some (.idict (ML (j + 1))) -> AB H' 13 = some (.list ((vars ++ J1 (vars.length + 1) (j + 1) L).map Va.A)) -> AB H' q = some (.list (Fc (vars.length + 1) L.length)) -> pe (tF f2 f3 f4 f5 f6 f7 f8 f9 f10 f11 f12 (some (.loc ml)) (some (.loc rl)) f15 f16 f17 f18 f19 (some (nI (j + 1))) (some (.loc q)) f22 f23 f24 f25) H' K) :
  gD (tF f2 f3 f4 f5 f6 f7 f8 f9 f10 f11 f12 (some (.loc ml)) (some (.loc rl)) f15 f16 f17 f18 f19 f20 f21 f22 f23 f24 f25) H K := by
 have mr := AX hr
 have lML : (ML j).length = j := Ef
 have b2 : ∀ {o x}, Ay [14, 13] H (Af (Ab H 14 o) x) := (Ay.set (.head _)).trans AY.add.but
 have l1 : ∀ {o}, (Ab H 14 o).length = H.length := AF
 refine Ak w (fun _ _ _ => rfl) c.mids <| hk h14 <| AK (by exact nT hj lML) ?_
 rw [lML]
 refine Ak w (fun _ _ _ => rfl) c.mids <| hk hm <| hk h14 <| AK (by exact nT hj lML) ?_
 rw [em, show D5 (ML j) ((j + 1 : Nat) : Int) (.int ((j : Int) + 1)) = ML (j + 1) from YG]
 have r2 : ∀ {o x}, AB (Af (Ab H 14 o) x) rl = _ := b2.2 rl _ (HQ (by omega) (by exact vY r63)) hr
 refine hk r2 <| AK (by rw [List.length_map]; exact Q9 ln) <| HT (List.length_map ..) (by exact Q9 ln) ?_
 rw [l1]
 refine UL (nn := j + 1) (f1 := some (.loc 46)) c (w.keep fun o e => b2.2 _ _ (HQ (by decide) (by decide)) e) r2 ms ln rfl lv n63 (by exact Q1 mr) r63 (fun f22 H3 b3 g13 gq => ?_) (Nat.zero_add _) .refl (AY.add.2 _ _ (sn (by decide) (h13.trans (congrArg (fun l => some (AO.list (l.map Va.A))) (List.append_nil _).symm)))) (l1 ▸ Ah)
 have la := AX gq
 refine hK H.length f22 H3 ⟨Nat.le_trans b2.1 b3.1, fun n o hn e => b3.2 n o (HQ (fun z => hn (z ▸ .tail _ (.head _))) (by have := AX e; exact Q1 this)) (b2.2 n o hn e)⟩ (Nat.le_refl _) la (b3.2 14 _ (HQ (by decide) (by omega)) (AY.add.2 _ _ (C4 h14))) g13 gq
end
end
section
variable {T : Av} {H : Hp} {k : AV -> Hp -> Prop}
theorem Ti {n : Nat} {g : Nat -> Int} {l : List Nat} : YK H n (l.map fun i => .int (g i)) (l.map fun i => .int (g i)) := by
 induction l with
 | nil => exact .nil
 | cons i l ih => exact .cons (.int _) ih
theorem DW {n : Nat} {l : List AV} (h : AB H n = some (.list l)) : Co (.loc n) H = some l := by
 show (match AB H n with | some (.list l) => some l | _ => none) = some l
 rw [h]
theorem bh {fl : Int} {own : Nat} (h : fl = 0 \/ fl = 1 \/ fl = 6 \/ fl = 129) (z : decide (fl % 2 ≠ 0) = true) : IG (RJ fl) own = -1 := by
 rcases h with rfl | rfl | rfl | rfl
 ·exact nomatch z
 ·rfl
 ·exact nomatch z
 ·rfl
theorem bj {fl : Int} {own : Nat} (h : fl = 0 \/ fl = 1 \/ fl = 6 \/ fl = 129) (z : decide (fl % 2 ≠ 0) = false) : IG (RJ fl) own = own := by
 rcases h with rfl | rfl | rfl | rfl
 ·rfl
 ·exact nomatch z
 ·rfl
 ·exact nomatch z
noncomputable def ABj : VS := (AG (Iw (BK (AL (vL 24) (Au (AA (vL 20) (AA (AI 292 Cn (vL 13)) (AA (vL 21) (AA (vL 21) (AA (Ky (BK (vL 23)) (Nb (vC (.int 1))) (vL 4)) (AA (vL 6) (AA (vC .none) (AA (vC (.int 0)) (AA (AL (vL 19) (vC (.int 0)) AR) (AA (AL (vL 19) (vC (.int 1)) AR) (AA (vL 17) AQ)))))))))))) (IH false))) (AG (Hs (vC (.bool false))) AS) AS) oQ)
section
variable {f2 f3 f4 f5 f6 f7 f8 f9 f10 f11 f12 f13 f14 f15 f16 f17 f18 f19 f20 f21 f22 f23 f24 f25 g17 g18 g19 g20 g21 g22 g23 g24 g25 : Option AV} {K : Fl -> Ag -> Hp -> Prop}
theorem iC {nn f own ml q l0 n : Nat} {m : Me} {at_ sv ev : Int} (hm : AB H ml = some (.inst 292 m.L)) (hfl : m.fl = 0 \/ m.fl = 1 \/ m.fl = 6 \/ m.fl = 129)
  (hf : AB H f = some (.inst 446 (Fn.L ⟨nn, m.mid, f, IG (RJ m.fl) own, m.ret, .int at_⟩ sv ev))) (h1 : AB H (f + 1) = some (.list (Fc l0 n))) (h2 : AB H (f + 2) = some (.list (Fc l0 n))) (hq : AB H q = some (.list (Fc l0 n)))
  (hK : ∀ f24, oQ (tF f2 f3 (some (nI own)) f5 (some (nI m.ret)) f7 f8 f9 f10 f11 f12 (some (.loc ml)) f14 f15 (some (.loc f)) (some (.int at_)) f18 (some (.tup [.int sv, .int ev])) (some (nI nn)) (some (.loc q)) f22 (some (.int (m.fl % 2))) f24 f25) H K) :
  pe (tF f2 f3 (some (nI own)) f5 (some (nI m.ret)) f7 f8 f9 f10 f11 f12 (some (.loc ml)) f14 f15 (some (.loc f)) (some (.int at_)) f18 (some (.tup [.int sv, .int ev])) (some (nI nn)) (some (.loc q)) f22 f23 f24 f25) H K := by
 have same : ∀ {th : Int} {k}, th = IG (RJ m.fl) own -> k (.bool false) H -> IH false (.tup [nI nn, nI m.mid, .loc (f + 1), .loc (f + 2), .int (IG (RJ m.fl) own), nI m.ret, .none, .int 0, .int sv, .int ev, .int at_]) (.tup [nI nn, nI m.mid, .loc q, .loc q, .int th, nI m.ret, .none, .int 0, .int sv, .int ev, .int at_]) H k := fun e q => by
  rw [e]
  exact ⟨⟨2, _, _, by decide, .inl ⟨rfl, rfl⟩, .cons (.int _) (.cons (.int _) (.cons (.list (DW h1) (DW hq) Ti) (.cons (.list (DW h2) (DW hq) Ti) (.cons (.int _) (.cons (.int _) (.cons .none (.cons (.int _) (.cons (.int _) (.cons (.int _) (.cons (.int _) .nil))))))))))⟩, q⟩
 refine hk hm <| hk hf <| hk hf <| hk hf <| hk hf <| hk hf <| hk hf <| hk hf <| hk hf <| hk hf <| hk hf <| hk hf <| hk hm <| bI (fun z => same (bh hfl z).symm (hK _)) fun z => same (bj hfl z).symm (hK _)
noncomputable def lb2 : VS := (AG (Bs (AL (vL 21) (vL 22) AR) (vL 25) (AL (AL (vL 14) (vL 22) AR) (vC (.int 0)) AR)) AS)
theorem Rj {rl q q2 n l0 brief : Nat} {L : List Pr} (hr : AB H rl = some (.list (L.map Pr.row))) (ms : MS T brief L) (ln : L.length <= 3) (hq : AB H q = some (.list (Fc l0 L.length))) (rq : rl ≠ q2) (qq : q ≠ q2)
  (hK : ∀ f22 H', Ay [q2] H H' -> AB H' q2 = some (.sdict (Qw l0 L.length)) -> K .next (tF f2 f3 f4 f5 f6 f7 f8 f9 f10 f11 f12 f13 (some (.loc rl)) f15 f16 f17 f18 f19 f20 (some (.loc q)) f22 f23 f24 (some (.loc q2))) H') {cc : Nat} :
  ∀ {i : Nat} {H1 : Hp} {f22 : Option AV}, i + cc = L.length -> Ay [q2] H H1 -> AB H1 q2 = some (.sdict (Qw l0 i)) ->
   CN (.rg n) (gN 22) lb2 (Mine.EK n) K (Mu i cc) (tF f2 f3 f4 f5 f6 f7 f8 f9 f10 f11 f12 f13 (some (.loc rl)) f15 f16 f17 f18 f19 f20 (some (.loc q)) f22 f23 f24 (some (.loc q2))) H1 := by
 induction cc with
 | zero =>
  intro i H1 f22 hc b g
  exact hK _ _ b ((show i = L.length from hc) ▸ g)
 | succ cc ih =>
  intro i H1 f22 hc b g
  obtain ⟨x, ex⟩ := Am (l := L) (i := i) (by exact Q3 hc)
  have xi := (ms i x ex).1
  have ll : (Fc l0 L.length).length = L.length := Ef
  have ln' : (Qw l0 i).length = i := Ef
  have el : Mine.getL (Fc l0 L.length) i = some (.int ((l0 + i : Nat) : Int)) := by
   unfold Fc
   rw [Mine.Bb, D7, List.getElem?_range (by exact Q3 hc)]; rfl
  refine hk (b.2 q _ (n1 qq) hq) <| QD rfl (by omega) el <| hk (b.2 rl _ (n1 rq) hr) <| QC (by exact Q9 ln) ex <| hk g <| AK (by exact fT hc ln' ln) <| ih (by exact Q4 hc) (b.put (.head _)) ?_
  rw [C4 g, xi, FC (Ln (Nat.le_refl _))]
  unfold Qw
  rw [Dk]
theorem iB {rl q l0 brief : Nat} {L : List Pr} (hr : AB H rl = some (.list (L.map Pr.row))) (ms : MS T brief L) (ln : L.length <= 3) (hq : AB H q = some (.list (Fc l0 L.length)))
  (hK : ∀ q2 f22 H', AY H H' -> AB H' q2 = some (.sdict (Qw l0 L.length)) -> bg (tF f2 f3 f4 f5 f6 f7 f8 f9 f10 f11 f12 f13 (some (.loc rl)) f15 f16 f17 f18 f19 f20 (some (.loc q)) f22 f23 f24 (some (.loc q2))) H' K) :
  oQ (tF f2 f3 f4 f5 f6 f7 f8 f9 f10 f11 f12 f13 (some (.loc rl)) f15 f16 f17 f18 f19 f20 (some (.loc q)) f22 f23 f24 f25) H K := by
 have mr := AX hr
 have mq := AX hq
 have r1 := (AY.add (o := .sdict [])).2 _ _ hr
 refine hk r1 <| AK (by rw [List.length_map]; exact Q9 ln) <| HT (List.length_map ..) (by exact Q9 ln) <| Rj (q2 := H.length) r1 ms ln (AY.add.2 _ _ hq) (by exact Q1 mr) (by exact Q1 mq) (fun f22 H2 b2 g2 => hK H.length f22 H2 ⟨Nat.le_trans AY.add.1 b2.1, fun n o e => b2.2 n o (n1 (by have := AX e; exact Q1 this)) (AY.add.2 _ _ e)⟩ g2) (Nat.zero_add _) .refl Ah
end
end
section
variable {T : Av} {H : Hp} {k : AV -> Hp -> Prop}
theorem Yw {l0 i : Nat} : Cq (Qw l0 i) := by
 induction i with
 | zero => exact .nil
 | succ i ih =>
  rw [show Qw l0 (i + 1) = O8 (Qw l0 i) [120 + i] (.int ((l0 + i : Nat) : Int)) by rw [FC (Ln (Nat.le_refl _))]; unfold Qw; rw [Dk]]
  exact ih.put (fun a b => GB) JM
theorem Yj (q : ∀ H', AY H H' -> AB H' H.length = some (.idict [(1, .loc (H.length + 1))]) -> AB H' (H.length + 1) = some (.sdict []) -> k (.loc H.length) H') : Ih (Fp (vC (.int 1)) (Dh (.sdict [])) Na) [] H k := by
 have la : (Af H (.idict [])).length = H.length + 1 := List.length_append ..
 have g := (AY.add (o := .sdict [])).2 _ _ (Ah (H := H) (o := .idict []))
 refine hk g ?_
 rw [la]
 exact q _ ((AY.add.trans AY.add).fresh (Nat.le_refl _)) (C4 g) (sn (by exact bH) (la ▸ Ah))
theorem gW {fl : Int} (h : fl = 0 \/ fl = 1 \/ fl = 6 \/ fl = 129) : RJ fl = fl % 2 := by rcases h with rfl | rfl | rfl | rfl <;> rfl
section
variable {C : LC} {f2 f3 f4 f5 f6 f7 f8 f9 f10 f11 f12 f13 f14 f15 f16 f17 f18 f19 f20 f21 f22 f23 f24 f25 g17 g18 g19 g20 g21 g22 g23 g24 g25 : Option AV} {K : Fl -> Ag -> Hp -> Prop}
theorem iA {j : Nat} {T2 : Av} {D : List AV} {vars : List Va} {tid ret : Nat} {at_ fl : Int} {r : AZ} {ws : List Nat} {gb : List (Int × List Int)} {mks : List Nat} {late st : Bool} {brief : Nat} {L : List Pr} {s : Ae} {ml rl tp bo sc hd q2 : Nat} {H0 H7 : Hp} (t : TI C j T D vars H0) (htid : FF tid)
  (M : Mid C j T T2 D vars tid ret r ws gb mks late st at_ fl brief L s ml rl tp bo sc hd H0 H7) (hgw : ws.length = gb.length) (hg2 : gb.length <= 2) (b : Ay [12, 14, 13] H7 H) (g2 : AB H q2 = some (.sdict (Qw (vars.length + 1) L.length)))
  (hK : ∀ F H', AY H H' -> K (.ret (.bool true)) F H') :
  bg (tF f2 (some (.int (tid : Int))) f4 f5 f6 f7 f8 f9 f10 (some (.str ws)) (some (.lst (gb.map bp))) (some (.loc ml)) f14 f15 (some (.loc (sc + 3))) f17 f18 f19 (some (nI (j + 1))) f21 f22 (some (.int (fl % 2))) f24 (some (.loc q2))) H K := by
 have lt := M.lt
 have n63 := t.n63
 have bl := b.1
 have bb : ∀ {n o}, 15 <= n -> AB H7 n = some o -> AB H n = some o := fun h e => b.2 _ _ (L0 (by exact Q57 h) (by exact Q58 h) (by exact Q59 h)) e
 have hs := bb (by decide) M.s
 have ty := t.tyH tid htid
 refine hk hs <| hk (bb (by exact zw n63 lt.2.2.2.2.1 lt.2.2.1 lt.2.1 lt.2.2.2.1 lt.1) M.c0) <| hk (bb (by exact zt n63 lt.2.2.2.2.1 lt.2.2.2.2.2.1 lt.2.2.2.1 lt.2.2.1 lt.2.1 lt.1) M.c3) <| hk g2 ⟨Yw.hit fun a b => GB, ?_⟩
 refine hk hs ⟨⟨1, _, _, by decide, .inr ⟨DW (bb (by exact zp n63 lt.2.2.2.2.1 lt.2.2.1 lt.2.1 lt.2.2.2.1 lt.1) M.c1), rfl⟩, .cons (.int 0) .nil⟩, ?_⟩
 refine hk hs <| Yj fun H8 k8 e0 e1 => ?_
 have B8 : ∀ {n o}, 15 <= n -> AB H7 n = some o -> AB H8 n = some o := fun h e => k8.2 _ _ (bb h e)
 have hB : ∀ {n o}, (n ≠ 11 /\ n ≠ 8 /\ n ≠ 46 /\ n ≠ 37 /\ n ≠ 29 /\ n ≠ 31 /\ n ≠ 33 /\ n ≠ 30 /\ (n < 2 \/ 6 < n)) -> n ≠ 12 -> n ≠ 14 -> n ≠ 13 -> AB H0 n = some o -> AB H8 n = some o := fun h h1 h2 h3 e => k8.2 _ _ (b.2 _ _ (L0 h1 h2 h3) (M.b.2 _ _ (oi h) e))
 have hs8 := B8 (by decide) M.s
 have b8 := b.trans k8.but
 have l8 := k8.1
 refine hk (B8 (by exact zl n63 lt.2.2.2.2.1 lt.2.2.1 lt.2.1 lt.2.2.2.1 lt.1) M.c2) <| hk e0 ⟨⟨rfl, fun p hp => ?_⟩, ?_⟩
 ·rw [List.mem_singleton.mp hp]
  exact ⟨_, rfl, 1, by decide, .emp (n := 0) ⟨_, rfl, .inr (B8 (by exact zj n63 lt.2.2.2.2.1 lt.2.2.2.2.2.1 lt.2.2.2.1 lt.2.2.1 lt.2.1 lt.1) M.c4)⟩ ⟨_, rfl, .inr e1⟩⟩
 refine hk hs8 ⟨⟨0, [], [], by decide, .inr ⟨rfl, rfl⟩, .nil⟩, ?_⟩
 refine hk hs8 <| bF (mu (gW M.hfl)) <| hk hs8 <| hk (B8 (by exact Q70 n63 lt.2.2.2.2.1 lt.2.2.1 lt.2.1 lt.2.2.2.1 lt.1) M.f0) <| bT (beq_self_eq_true _) <| hk (B8 (by exact Q71 n63 lt.2.1 lt.1) M.hm) <| bU (M.w.keep fun o e => k8.2 _ _ (b.2 _ _ (by decide) e)) (M.x.but b8 fun n h1 h6 => L0 (by exact Q72 h6) (by exact Q73 h6) (by exact Q74 h6)) ((t.tyK tid htid).ext M.e) (ty.keep fun n o hn => hB (by exact Q75 hn) (by omega) (by omega) (by omega)) ((t.z tid htid).keep fun n o hn => hB (by exact Q78 hn) (by omega) (by omega) (by omega)) hs8 hgw hg2 M.mn M.mp (B8 (by exact zU n63 lt.2.1 lt.2.2.1 lt.1) M.t) (B8 (by decide) M.h) (B8 (by exact zO n63 lt.2.2.1 lt.2.1 lt.2.2.2.1 lt.1) M.hb) (B8 (by exact zL n63 lt.2.2.1 lt.2.1 lt.2.2.2.1 lt.1) M.hg) (by exact zJ n63 lt.2.2.2.2.2.2 lt.2.2.2.2.1 lt.2.2.2.2.2.1 lt.2.2.2.1 lt.2.1 lt.2.2.1 l8 lt.1 bl) fun H9 k9 => ?_
 exact hK _ H9 (k8.trans k9)
end
noncomputable def Hy (l : List AV) : Prop := ∀ x ∈ l, MR x
theorem Hy.nil : Hy [] := fun x h => nomatch h
theorem Hy.one {x : AV} (h : MR x) : Hy [x] := fun y hy => List.mem_singleton.mp hy ▸ h
theorem Hy.app {a b : List AV} (h : Hy a) (h' : Hy b) : Hy (a ++ b) := fun x hx => (List.mem_append.mp hx).elim (h x) (h' x)
theorem Hy.ite {b : Bool} {l l' : List AV} (h : Hy l) (h' : Hy l') : Hy (bif b then l else l') := by cases b; exact h'; exact h
theorem JL {c at_ : Int} {ws : List (List Nat)} : MR (Wj c (.int at_) (ws.map .str)) := fun H => by
 have : YK H 0 (ws.map AV.str) (ws.map .str) := by
  induction ws with
  | nil => exact .nil
  | cons w ws ih => exact .cons (.str w) ih
 exact ⟨2, by decide, .tup (.cons (.int c) (.cons (.int at_) (.cons (.tup this) .nil)))⟩
theorem WI {m : Me} {r : AZ} {late st : Bool} {at_ : Int} : Hy (PG T m r late st (.int at_)) := by
 have a : Hy (RA r m.ret (.int at_)) := by
  unfold RA
  split
  ·exact .one (JL (ws := [GY m.ret]))
  ·exact .nil
 exact .app (.ite (.app a (.ite (.one (JL (ws := [m.nm]))) .nil)) .nil) (.ite (.app (.ite (.one (JL (ws := [m.nm]))) .nil) (.ite (.one (JL (ws := [m.nm, GY m.ret]))) .nil)) .nil)
theorem WH {m : Me} {r : AZ} {late st : Bool} {at_ : AV} : (PG T m r late st at_).length <= 4 := by
 have la : (RA r m.ret at_).length <= 1 := by unfold RA; split; exact Nat.le_refl _; exact Nat.zero_le _
 have l1 := Er (T := T) (ps := m.ps) (c := 1988) (at_ := at_) (nm_ := .str m.nm)
 have l2 := Er (T := T) (ps := m.ps) (c := 1623) (at_ := at_) (nm_ := .str m.nm)
 have l3 : (lY (Rp late r) m.ret at_ (.str m.nm)).length <= 1 := by unfold lY; cases Rp late r; exact Nat.zero_le _; exact Nat.le_refl _
 have l4 : ∀ {b : Bool} {l l' : List AV}, l.length <= 1 -> l'.length <= 1 -> (bif b then l ++ l' else []).length <= 2 := fun {b l l'} h h' => by
  cases b
  ·exact Nat.zero_le _
  ·show (l ++ l').length <= 2
   rw [List.length_append]; omega
 unfold PG
 rw [List.length_append]
 exact Nat.add_le_add (l4 la l1) (l4 l2 l3)
theorem bQ {C : LC} {j : Nat} {D : List AV} {vars : List Va} {first : Bool} (c : C.Ok) (t : TI C j T D vars H) (hj : j < 8) (q : ∀ H' T' D' vars', TI C (j + 1) T' D' vars' H' -> k (.bool true) H') : Cg [.loc 11, .loc 46, .bool first] H k := by
 refine Rv <| qX c t fun tid ret so mods f5 H1 htid hret sm o1 w1 => iJ c w1 hret sm fun ret so mods body b n H2 hret sm tb nb o2 w2 => iI w2 fun ws H3 hw h0 o3 w3 => iH c t (by exact Q82 hj) htid ((o1.trans o2).trans o3) w3 hw fun gb ms brief fl T' H4 H5 ml rl L hgb hms o4 d => ?_
 obtain ⟨r, ro⟩ := t.ro tid htid ret hret
 obtain ⟨s, hs⟩ := t.s
 refine iG d.w sm hw h0 (d.b.2 46 _ (YM (by decide) (by decide) (by decide)) (o4.2 46 _ (by decide) hs)) fun node at_ s' H6 nd_ b6 w6 g6 => iF t hj htid o4 d hgb hw hms b6 w6 g6 nd_ sm tb nb ro fun T2 mks tp bo sc hd H7 M => ?_
 have lt := M.lt
 have n63 := t.n63
 have pn := M.n
 have vl := t.vl
 have tl := t.tl
 have ml_ := M.l
 have dl := t.dl
 have hB : ∀ {n o}, 12 <= n -> n <= 28 \/ n = 32 -> AB H n = some o -> AB H7 n = some o := fun h h1 e => M.b.2 _ _ (oi (by exact zH h h1)) e
 refine iE c t hj htid nd_ ro M fun f18 H8 b8 g12 => ?_
 have l8 := b8.1
 have k8 : ∀ {n o}, n ≠ 12 -> AB H7 n = some o -> AB H8 n = some o := fun h e => b8.2 _ _ (n1 h) e
 refine iD c (M.w.keep fun o e => k8 (by decide) e) (k8 (by decide) (hB (by decide) (by decide) t.m)) (k8 (by decide) (hB (by decide) (by decide) t.vv)) (k8 (by exact Q84 n63 lt.2.1 lt.1) M.hm) rfl (k8 (by omega) M.hr) M.m pn (by omega) (by exact Q82 hj) (by exact Q86 n63 lt.2.2.2.2.2.2 lt.2.2.2.2.1 lt.2.2.2.2.2.1 lt.2.2.2.1 lt.2.1 lt.2.2.1 l8 lt.1) (by exact Q87 n63 lt.1) fun q' f22 H9 b9 hq1 hq2 g14 g13 gq => ?_
 have b79 : Ay [12, 14, 13] H7 H9 := (b8.mono fun n hn => List.mem_singleton.mp hn ▸ .head _).trans (b9.mono fun n hn => .tail _ hn)
 have k79 : ∀ {n o}, 15 <= n -> AB H7 n = some o -> AB H9 n = some o := fun h e => b79.2 _ _ (L0 (by exact Q57 h) (by exact Q58 h) (by exact Q59 h)) e
 refine iC (m := MY tid (j + 1) ret brief fl ws gb L) (nn := j + 1) (own := (C.Y tid).own) (f := sc + 3) (l0 := vars.length + 1) (n := L.length) (k79 (by exact Q71 n63 lt.2.1 lt.1) M.hm) M.hfl (k79 (by exact Q70 n63 lt.2.2.2.2.1 lt.2.2.1 lt.2.1 lt.2.2.2.1 lt.1) M.f0) (k79 (by exact yz n63 lt.2.2.2.2.1 lt.2.2.1 lt.2.1 lt.2.2.2.1 lt.1) M.f1) (k79 (by exact yw n63 lt.2.2.2.2.1 lt.2.2.1 lt.2.1 lt.2.2.2.1 lt.1) M.f2) gq fun f24 => iB (k79 (by omega) M.hr) M.m pn gq fun q2 f22' H10 k10 gq2 => ?_
 have b7 := b79.trans k10.but
 refine iA t htid M (hgb.symm) (by exact fU hgb hw) b7 gq2 fun F H11 k11 => ?_
 have b711 := b7.trans k11.but
 have kk : ∀ {n o}, n < 12 \/ 15 <= n -> AB H7 n = some o -> AB H11 n = some o := fun h e => b711.2 _ _ (L0 (by omega) (by omega) (by omega)) e
 have kA : ∀ {n o}, (n ≠ 11 /\ n ≠ 8 /\ n ≠ 46 /\ n ≠ 37 /\ n ≠ 29 /\ n ≠ 31 /\ n ≠ 33 /\ n ≠ 30 /\ (n < 2 \/ 6 < n)) -> (n < 12 \/ 15 <= n) -> AB H n = some o -> AB H11 n = some o := fun h h1 e => kk h1 (M.b.2 _ _ (oi h) e)
 have ol := WH (T := T2) (m := MY tid (j + 1) ret brief fl ws gb L) (r := r) (late := EO mods) (st := sB b so) (at_ := .int at_)
 obtain ⟨ms', g8, hms'⟩ := M.g8
 obtain ⟨fns', g29, hfns'⟩ := M.g29
 obtain ⟨locs', g30, hlocs'⟩ := M.g30
 have l711 := b711.1
 refine q H11 T2 _ (vars ++ J1 (vars.length + 1) (j + 1) L) ⟨M.w.keep fun o e => kk (by decide) e, M.x.but b711 fun n h1 h6 => L0 (by exact Q72 h6) (by exact Q73 h6) (by exact Q74 h6), by exact yo tl ml_, fun tid h => (t.tyH tid h).keep fun n o hn => kA (by exact Q75 hn) (by omega), fun tid h => (t.tyK tid h).ext M.e, ⟨_, kk (by decide) M.s⟩, ⟨_, _, kk (by decide) M.h⟩, ⟨ms', kk (by decide) g8, hms'⟩, kA (by decide) (by decide) t.u, ⟨fns', kk (by decide) g29, hfns'⟩, ⟨locs', kk (by decide) g30, hlocs'.keep fun m o hm e => kk (by omega) e⟩, k11.2 _ _ (k10.2 _ _ g13), ?_, k11.2 _ _ (k10.2 _ _ g14), kk (by decide) M.g31, k11.2 _ _ (k10.2 _ _ (b9.2 12 _ (HQ (by decide) (by decide)) g12)), kk (by decide) M.g33, ?_, kA (by decide) (by decide) t.dg, Hy.app t.dr WI, kA (by decide) (by decide) t.h17, fun tid h => (t.z tid h).keep fun n o hn => kA (by exact Q78 hn) (by omega), kA (by decide) (by decide) t.h26, kA (by decide) (by decide) t.h27, fun tid h ret hr => (t.ro tid h ret hr).imp fun r x => x.ext M.e, fun tid h i hi => (t.ko tid h i hi).ext M.e, by exact Q86 n63 lt.2.2.2.2.2.2 lt.2.2.2.2.1 lt.2.2.2.2.2.1 lt.2.2.2.1 lt.2.1 lt.2.2.1 l711 lt.1⟩
 ·rw [List.length_append, show (J1 (vars.length + 1) (j + 1) L).length = L.length from List.length_map ..]; exact yj pn vl
 ·rw [List.length_append]; exact yg dl ol
end
section
variable {T : Av} {H : Hp} {k : AV -> Hp -> Prop}
noncomputable def PT : Av := ⟨(List.range 16).map fun i : Nat => ⟨1, (i : Int), none⟩, List.replicate 16 1, List.replicate 16 1, List.replicate 16 0⟩
noncomputable def hL (s : List (Nat × AV)) (T : Av) (r : Hp) : Hp := some (.inst 313 s) :: some (.inst 110 [(BS, .loc 2), (Gb, .loc 3), (DK, .loc 4), (DT, .loc 5), (FK, .loc 6)]) :: some (.list (T.rows.map D4)) :: some (.tdict (Qx 0 T.rows)) :: some (.list (T.ds.map .int)) :: some (.list (T.ws.map .int)) :: some (.list (T.os.map .int)) :: r
theorem Gs {p q : Prop} (h : q) (e : p = q) : p := e ▸ h
theorem vF {s : List (Nat × AV)} (q : k (.loc 1) (hL s PT [])) : Cz [] [some (.inst 313 s)] k := by
 refine QT (KC ?_)
 apply Gs q
 kernel_rfl
noncomputable def st7 : List (Nat × AV) := [(BW, .loc 1), (DL, .loc 7), (J2, .lst [.none]), (C2, .loc 8), (Nx, .loc 9), (Ra, .lst []), (Nz, .int 0)]
theorem Zg (q : k (.loc 0) (hL st7 PT [some (.list [.none]), some (.list [.none]), some (.sdict [])])) : Fh [] [] k := by
 refine ZI (ON (vF ?_))
 apply Gs q
 kernel_rfl
theorem stC {C a : Nat} {H r ex : Hp} {l : List (Nat × AV)} {k : Hp -> Prop} (hl : Nat.ble l.length 499 = true) (h : k (H ++ some (.inst C (Im l a (.loc (H.length + (r.length + 1))))) :: (r ++ ex))) : hK (AB ((H ++ some (.inst C l) :: r) ++ ex) H.length) (fA C a H.length (.loc (H ++ some (.inst C l) :: r).length) ((H ++ some (.inst C l) :: r) ++ ex) k) := by
 rw [show (H ++ some (.inst C l) :: r) ++ ex = H ++ some (.inst C l) :: (r ++ ex) from List.append_assoc .., List.length_append]
 exact C1 hl h
theorem Zi (q : k (.loc H.length) (H ++ [some (.inst 397 [(BS, .loc (H.length + 1))]), some (.list [])])) : Fi [] H k := ZJ <| OP <| HG rfl q
theorem Xv {H : Hp} (q : ∀ l, k (.loc H.length) (H ++ [some (.inst 677 l), some (.idict []), some (.idict []), some (.idict []), some (.idict [])])) : Ep [] H k := XO <| Mf <| HG rfl <| HG rfl <| HG rfl <| HG rfl (q _)
theorem eM (q : k (.loc H.length) (H ++ [some (.inst 544 [(BW, .loc 1), (N0, .loc (H.length + 1)), (HM, .loc (H.length + 2)), (Nw, .loc (H.length + 3)), (CA, .loc (H.length + 4)), (JQ, .loc (H.length + 5)), (BH, .loc (H.length + 6)), (DJ, .loc (H.length + 7)), (RY, .loc (H.length + 8))]), some (.idict []), some (.idict []), some (.idict []), some (.idict []), some (.idict []), some (.idict []), some (.idict []), some (.idict [])])) : B1 [.loc 1] H k :=
 R4 <| K6 <| C1 rfl <| HG rfl <| HG rfl <| HG rfl <| HG rfl <| HG rfl <| HG rfl <| HG rfl <| HG rfl q
theorem eK (q : k (.loc H.length) (H ++ [some (.inst 467 [(CX, .loc 0), (Lx, .int 1), (II, .loc (H.length + 1)), (E7, .loc (H.length + 2)), (Fx, .loc (H.length + 3)), (Eg, .loc (H.length + 4)), (Ny, .loc (H.length + 6)), (Lp, .loc (H.length + 7)), (Lv, .loc (H.length + 8))]), some (.list [.none]), some (.list [.none]), some (.idict []), some (.inst 397 [(BS, .loc (H.length + 5))]), some (.list []), some (.idict []), some (.idict []), some (.idict [])])) : FH [.loc 0, .int 1] H k := by
 have la : ∀ {x : Option AO} {r : Hp}, (H ++ x :: r).length = H.length + (r.length + 1) := List.length_append ..
 refine df <| QP <| C1 rfl <| C1 rfl <| HG rfl <| HG rfl <| HG rfl <| Zi <| stC rfl <| HG rfl <| HG rfl <| HG rfl ?_
 rw [la]
 exact q
theorem eL (hu : AB H 28 = some (.inst 467 bZ)) (h0 : AB H 0 = some (.inst 313 Yb)) (q : ∀ s l, l.length = 16 -> k (.loc H.length) (H ++ some (.inst 906 (Ae.L s)) :: l)) : GX [.loc 28, .int 1, .loc 37] H k := by
 refine dh <| QQ <| C1 (by kernel_rfl) <| hk (Aj.2 _ _ hu) <| C1 (by kernel_rfl) <| hk (Aj.2 _ _ hu) <| hk (Aj.2 _ _ h0) <| C1 (by kernel_rfl) <| C1 (by kernel_rfl) <| C1 (by kernel_rfl) <| HG (by kernel_rfl) <| HG (by kernel_rfl) <| C1 (by kernel_rfl) <| hk (Aj.2 _ _ hu) <| C1 (by kernel_rfl) <| HG (by kernel_rfl) <| HG (by kernel_rfl) <| HG (by kernel_rfl) <| C1 (by kernel_rfl) <| C1 (by kernel_rfl) <| HG (by kernel_rfl) <| C1 (by kernel_rfl) <| C1 (by kernel_rfl) <| C1 (by kernel_rfl) <| C1 (by kernel_rfl) <| C1 (by kernel_rfl) <| C1 (by kernel_rfl) <| C1 (by kernel_rfl) <| C1 (by kernel_rfl) <| C1 (by kernel_rfl) <| HG (by kernel_rfl) <| C1 (by kernel_rfl) <| HG (by kernel_rfl) <| Xv fun l => stC (by kernel_rfl) <| HG (by kernel_rfl) <| HG (by kernel_rfl) <| C1 (by kernel_rfl) <| C1 (by kernel_rfl) <| C1 (by kernel_rfl) <| HG (by kernel_rfl) ?_
 apply Gs (q ⟨.int 1, .loc (H.length + 1), .loc (H.length + 2), .lst [], .loc (H.length + 3), .loc (H.length + 4), .loc (H.length + 5), .lst [], .lst [], .loc (H.length + 6), .none, .int 0, .int 0, .int 0, .int 0, .int 0, .int 0, .lst [], .int 0, .loc (H.length + 7), .lst [], .loc (H.length + 8), .loc (H.length + 9), .loc (H.length + 14), .loc (H.length + 15), .int 0, .int 0, .int 0, .loc (H.length + 16)⟩
  [some (.idict []), some (.idict []), some (.idict []), some (.idict []), some (.idict []), some (.idict []), some (.sdict []), some (.inst 579 []), some (.inst 677 l), some (.idict []), some (.idict []), some (.idict []), some (.idict []), some (.inst 698 []), some (.inst 719 []), some (.idict [])] rfl)
 kernel_rfl
end
section
variable {T : Av} {H : Hp} {k : AV -> Hp -> Prop}
noncomputable def FG (T : Av) (r : AZ) : Av × Nat := match CH 0 T.rows r with
 | some n => (T, n)
 | none => (T.add r, T.rows.length)
noncomputable def oM (T : Av) : AZ -> Bool
 | ⟨a, b, some l⟩ => decide (a = 2 \/ a = 3) && (decide (0 < b) && (!IJ Ed b && (l.all (stands T) && decide (l.length < 100))))
 | ⟨a, b, none⟩ => (decide (a = 4 \/ a = 5) && stands T b) || (decide (a = 6 \/ a = 7) && decide (0 <= b))
noncomputable def Ck (T : Av) (r : AZ) : Bool := oM T r && (decide ((Kz T r).1 <= 24) && (decide ((Kz T r).2.1 <= 4096) && decide (T.rows.length < 900)))
theorem bW {r : AZ} (h : oM T r = true) : K8 T r := by
 obtain ⟨a, b, l⟩ := r
 cases l with
 | none =>
  simp only [oM, Bool.or_eq_true, Bool.and_eq_true, decide_eq_true_eq] at h
  rcases h with h | h
  ·exact .one h.1 h.2
  ·exact .var h.1 h.2
 | some l =>
  simp only [oM, Bool.and_eq_true, decide_eq_true_eq, Bool.not_eq_true', List.all_eq_true] at h
  exact .cls h.1 h.2.1 h.2.2.1 h.2.2.2.1 h.2.2.2.2
theorem DO {r : AZ} (x : KT T H) (ok : Ck T r = true) (q : ∀ H', H'.length = H.length -> KT (FG T r).1 H' -> Ay KL H H' -> k (.int ((FG T r).2 : Int)) H') : AN [.loc 1, D4 r] H k := by
 simp only [Ck, Bool.and_eq_true, decide_eq_true_eq] at ok
 unfold FG at q
 cases e : CH 0 T.rows r with
 | some n => rw [e] at q; exact D8 x e (q H rfl x .refl)
 | none => rw [e] at q; exact NO x (bW ok.1) e ok.2.1 ok.2.2.1 (q _ JO (S4 x ok.2.2.2) ⟨Nat.le_of_eq JO.symm, fun n o h => Lf h⟩)
theorem dt {H l : Hp} {n : Nat} {o : AO} : Ab (H ++ l) (H.length + n) o = H ++ Ab l n o := by
 unfold Ab
 induction H with
 | nil => rw [List.nil_append, List.length_nil, Nat.zero_add]; rfl
 | cons x H ih => rw [List.cons_append, List.length_cons, Nat.add_right_comm]; exact congrArg (x :: ·) ih
theorem Y1 {l : List (Nat × AV)} {ws all : List AV} {f1 f2 f3 f4 f5 f6 f7 : Option AV} {K : Fl -> Ag -> Hp -> Prop} (l1 : Dt l Ap = some (.loc (H.length + 1))) (l2 : Dt l CA = some (.loc (H.length + 2))) (l3 : Dt l BH = some (.loc (H.length + 3))) (lw : ws.length < 100)
  (hK : ∀ f8 b c, K .next [some (.loc H.length), f1, f2, f3, f4, f5, f6, f7, f8] (H ++ [some (.inst 271 l), some (.list ws), some b, some c])) {r : List AV} : ∀ {pre b c : List AV} {f8 : Option AV}, pre ++ r = ws -> b.length = pre.length -> c.length = pre.length ->
  CN (.ft all) (gN 8) (AG (BE (Di (AI 271 Ap (vL 0)) (vL 8))) (AG (BE (Di (AI 271 CA (vL 0)) (vC (.int 0)))) (AG (BE (Di (AI 271 BH (vL 0)) (Au (AA (vC (.int 0)) (AA (Au AQ) AQ))))) AS))) all K r [some (.loc H.length), f1, f2, f3, f4, f5, f6, f7, f8] (H ++ [some (.inst 271 l), some (.list pre), some (.list b), some (.list c)]) := by
 induction r with
 | nil =>
  intro pre b c f8 e hb hc
  rw [List.append_nil] at e
  exact e ▸ hK _ _ _
 | cons y r ih =>
  intro pre b c f8 e hb hc
  have hp : pre.length + (r.length + 1) = ws.length := by rw [<- e, List.length_append, List.length_cons]
  refine hk Kl <| EL l1 <| hk (K7 (n := 1)) <| hk (K7 (n := 1)) <| AK (by exact Q83 hp lw) ?_
  rw [dt]
  refine hk Kl <| EL l2 <| hk (K7 (n := 2)) <| hk (K7 (n := 2)) <| AK (by exact nQ hp lw hb) ?_
  rw [dt]
  refine hk Kl <| EL l3 <| hk (K7 (n := 3)) <| hk (K7 (n := 3)) <| AK (by exact nQ hp lw hc) ?_
  rw [dt]
  exact ih (pre := pre ++ [y]) (b := b ++ [.int 0]) (c := c ++ [.tup [.int 0, .tup []]]) ((List.append_assoc ..).trans e) (by rw [List.length_append, List.length_append, hb]; rfl) (by rw [List.length_append, List.length_append, hc]; rfl)
theorem vD {tid : Nat} {nm_ : AV} {so : Int} {ws : List AV} (lw : ws.length < 100) (q : ∀ b c, k (.loc H.length) (H ++ [some (.inst 271 (bk tid nm_ so H.length (.loc (H.length + 3)))), some (.list ws), some b, some c])) : D2 [.int (tid : Int), nm_, .int so, .int 0, .int 12, .tup ws, .int 1] H k := by
 refine UX <| L9 <| C1 rfl <| C1 rfl <| C1 rfl <| C1 rfl <| C1 rfl <| C1 rfl <| HG (by kernel_rfl) <| HG (by kernel_rfl) <| HG (by kernel_rfl) <| Y1 (pre := []) (by kernel_rfl) (by kernel_rfl) (by kernel_rfl) lw (fun f8 b c => ?_) (List.nil_append _) rfl rfl
 refine C1 (by kernel_rfl) <| C1 (by kernel_rfl) <| C1 (by kernel_rfl) <| C1 (by kernel_rfl) <| C1 (by kernel_rfl) <| C1 (by kernel_rfl) <| C1 (by kernel_rfl) <| C1 (by kernel_rfl) <| C1 (by kernel_rfl) <| C1 (by kernel_rfl) ?_
 apply Gs (q b c)
 kernel_rfl
end
section
set_option genInjectivity false
variable {T : Av} {H : Hp} {k : AV -> Hp -> Prop}
variable {gs : List Int} {R : List (List Nat × AV)}
noncomputable def Iv (T : Av) : Nat -> Av × List Nat
 | 0 => (T, [])
 | n + 1 => ((FG (Iv T n).1 ⟨6, (n : Int), none⟩).1, (Iv T n).2 ++ [(FG (Iv T n).1 ⟨6, (n : Int), none⟩).2])
noncomputable def SH (kd : Int) (tid : Nat) (l : List Nat) : AZ := ⟨kd, (tid : Int), some (l.map N6)⟩
noncomputable def Z4 (T : Av) (kd : Int) (tid n : Nat) : Av × Nat := FG (Iv T n).1 (SH kd tid (Iv T n).2)
theorem NY {n : Nat} : (Iv T n).2.length = n := by
 induction n with
 | zero => rfl
 | succ n ih => show ((Iv T n).2 ++ [_]).length = n + 1; rw [List.length_append, ih]; rfl
noncomputable def gA (T : Av) (kd : Int) (tid n : Nat) : Prop := (∀ i, i < n -> Ck (Iv T i).1 ⟨6, (i : Int), none⟩ = true) /\ Ck (Iv T n).1 (SH kd tid (Iv T n).2) = true
theorem Y4 {n nn : Nat} {all : List AV} {K : List AV -> Hp -> Prop} (h0 : AB H 0 = some (.inst 313 Yb)) (ok : ∀ i, i < n -> Ck (Iv T i).1 ⟨6, (i : Int), none⟩ = true)
  (q : ∀ H', KT (Iv T n).1 H' -> Ay KL H H' -> H'.length = H.length -> K ((Iv T n).2.map nI) H') {c : Nat} : ∀ {i : Nat} {H1 : Hp}, i + c = n -> KT (Iv T i).1 H1 -> Ay KL H H1 -> H1.length = H.length ->
  FL (.rg nn) U5 (DH 110 BO (AI 313 BW (vL 1)) (AA (Au (AA (vC (.int 6)) (AA (vL 0) AQ))) AQ) AN) all [some (.loc 0)] K (Mu i c) ((Iv T i).2.map nI) H1 := by
 induction c with
 | zero =>
  intro i H1 hc x b hl
  have e : i = n := hc
  rw [e] at x ⊢
  exact q _ x b hl
 | succ c ih =>
  intro i H1 hc x b hl
  refine hk (b.2 0 _ (Hv (by decide)) h0) <| hk x.q <| DO (r := ⟨6, (i : Int), none⟩) x (ok i (by exact Q3 hc)) fun H2 l2 x2 b2 => ?_
  have e : ((Iv T i).2.map nI) ++ [.int ((FG (Iv T i).1 ⟨6, (i : Int), none⟩).2 : Int)] = (Iv T (i + 1)).2.map nI := by show _ = ((Iv T i).2 ++ [_]).map nI; rw [List.map_append]; rfl
  have z := ih (i := i + 1) (by exact Q4 hc) x2 (b.trans b2) (l2.trans hl)
  rw [<- e] at z
  exact z
theorem Wu {κ : Type} {eq : κ -> κ -> Bool} (he : ∀ a, eq a a = true) {l : List (κ × AV)} {i : κ} {x : AV} : EN eq (Ft eq l i x) i = some x := by
 induction l with
 | nil => show (match eq i i with | true => some x | false => none) = some x; rw [he]
 | cons p r ih =>
  obtain ⟨a, y⟩ := p
  show EN eq (match eq a i with | true => (a, x) :: r | false => (a, y) :: Ft eq r i x) i = some x
  cases h : eq a i with
  | true => show (match eq a i with | true => some x | false => _) = some x; rw [h]
  | false => show (match eq a i with | true => some y | false => EN eq (Ft eq r i x) i) = some x; rw [h]; exact ih
theorem J6 {l : List (Int × AV)} {i : Int} {x : AV} : Dn (D5 l i x) i = some x := Wu (eq := Hx) fun a => decide_eq_true rfl
noncomputable def ty2 : VS := (AG (Bs (vL 4) (AL (vL 0) (vC (.str [119, 111, 114, 100, 115])) AR) (vL 2)) (AG (Bs (Ai (AA (vL 0) (AA (BR (vL 4) Hu) AQ)) Bo) (AL (vL 0) (vC (.str [98, 111, 117, 110, 100, 115])) AR) (vL 2)) (AG (C7 271 BH (BR (AL (AL (vL 0) (vC (.str [98, 111, 117, 110, 100, 115])) AR) (vL 2) AR) RU) (vL 5)) (AG (BE (Di (AI 313 DL (vL 1)) (vL 5))) (AG (BM 6 (BR (oO [("store", 1)] (ee (BR (vL 4) Hu)) U5 (DH 110 BO (AI 313 BW (vL 1)) (AA (Au (AA (vC (.int 6)) (AA (vL 0) AQ))) AQ) AN)) Nu)) (AG (Bs (DH 110 BO (AI 313 BW (vL 1)) (AA (Au (AA (Ky (BK (AL (vL 3) (vC (.int 1)) Qv)) (vC (.int 2)) (vC (.int 3))) (AA (vL 2) (AA (vL 6) AQ)))) AQ) AN) (AL (vL 0) (vC (.str [115, 101, 108, 118, 101, 115])) AR) (vL 2)) AS))))))
structure TyN (gs : List Int) (R : List (List Nat × AV)) (T : Av) (tid : Nat) (so : Int) (wl_ bl sl : List (Int × AV)) (tys : List AV) (H : Hp) : Prop where
 w : WS 11 gs R H
 x : KT T H
 h0 : AB H 0 = some (.inst 313 Yb)
 i : tid = 64 /\ so = 1 \/ tid = 65 /\ so = 2
 r1 : Ao R [119, 111, 114, 100, 115] = some (.loc 15)
 r2 : Ao R [98, 111, 117, 110, 100, 115] = some (.loc 16)
 r3 : Ao R [115, 101, 108, 118, 101, 115] = some (.loc 17)
 r4 : ∃ f : Int, Ao R [102, 97, 99, 101] = some (.int f)
 h15 : AB H 15 = some (.idict wl_)
 h16 : AB H 16 = some (.idict bl)
 h17 : AB H 17 = some (.idict sl)
 h10 : AB H 10 = some (.list tys)
 lw : wl_.length < 100
 lb : bl.length < 100
 ls : sl.length < 100
 lt : tys.length < 1000
theorem fj {tid h n : Nat} {so : Int} {nm_ : AV} {words : List (List Nat)} {wl_ bl sl : List (Int × AV)} {tys : List AV} (y : TyN gs R T tid so wl_ bl sl tys H) (g : AB H h = some (.inst 271 (bk tid nm_ so h (.loc (h + 3))))) (p : AB H (h + 1) = some (.list (words.map .str))) (h18 : 18 <= h) (hn : words.length = n) (n2 : n <= 2) (ok : gA T (so + 1) tid n)
  (q : ∀ (gb : List (Int × List Int)) (H' : Hp), gb.length = n -> H'.length = H.length -> Ay (10 :: 11 :: 15 :: 16 :: 17 :: h :: KL) H H' -> WS 11 gs R H' -> KT (Z4 T (so + 1) tid n).1 H' -> AB H' 15 = some (.idict (D5 wl_ (tid : Int) (.tup (words.map .str)))) -> AB H' 16 = some (.idict (D5 bl (tid : Int) (.lst (gb.map bp)))) -> AB H' 17 = some (.idict (D5 sl (tid : Int) (nI (Z4 T (so + 1) tid n).2))) -> AB H' 10 = some (.list (tys ++ [.loc h])) -> AB H' h = some (.inst 271 (bk tid nm_ so h (.lst (gb.map bp)))) -> k .none H') :
  ty2 [some (.loc 11), some (.loc 0), some (.int (tid : Int)), some (.int so), some (.tup (words.map .str)), some (.loc h), none] H (EP k) := by
 obtain ⟨f, r4⟩ := y.r4
 have lw := y.lw
 have lb := y.lb
 have ls := y.ls
 have lt := y.lt
 have i := y.i
 have lm : (words.map AV.str).length = n := (List.length_map ..).trans hn
 refine Ak y.w (fun _ _ _ => rfl) y.r1 <| hk y.h15 <| AK (by exact bE lw) <| AK (by exact Q7 lm n2) <| Ol (y.w.keep fun o e => sn (by decide) e) r4 (by omega) fun gb H3 hgb o3 w3 l3 => ?_
 have k3 : ∀ {m o}, m ≠ 15 -> m ≠ 11 -> AB H m = some o -> AB H3 m = some o := fun a b e => o3.2 _ _ b (sn a e)
 refine Ak w3 (fun _ _ _ => rfl) y.r2 <| hk (k3 (by decide) (by decide) y.h16) <| AK (by exact bE lb) <| Ak (w3.keep fun o e => sn (by decide) e) (fun _ _ _ => rfl) y.r2 <| hk (C4 (k3 (by decide) (by decide) y.h16)) <| EL J6 <| AK (by rw [List.length_map]; exact zo hgb lm n2) <| hk (sn (by exact Q64 h18) (k3 (by exact Q67 h18) (by exact Q68 h18) g)) ?_
 have l16 := AX y.h16
 have k5 : ∀ {m o a b}, m ≠ 15 -> m ≠ 11 -> m ≠ 16 -> m ≠ h -> AB H m = some o -> AB (Ab (Ab H3 16 a) h b) m = some o := fun a b c d e => sn d (sn c (k3 a b e))
 refine hk (k5 (by decide) (by decide) (by decide) (by exact v7 h18) y.h0) <| hk (k5 (by decide) (by decide) (by decide) (by exact v3 h18) y.h10) <| hk (k5 (by decide) (by decide) (by decide) (by exact v3 h18) y.h10) <| AK (by exact Q0 lt) <| AK (by exact Q7 lm n2) <| AK (by omega) <| AK (by rw [Dj]; show (words.map AV.str).length < _; exact Q7 lm n2) ?_
 have k6 : ∀ {m o a b c}, m ≠ 15 -> m ≠ 11 -> m ≠ 16 -> m ≠ h -> m ≠ 10 -> AB H m = some o -> AB (Ab (Ab (Ab H3 16 a) h b) 10 c) m = some o := fun a b c d e f => sn e (k5 a b c d f)
 have et : Mine.EK (words.map AV.str).length = Mu 0 n := Ow.trans (congrArg (Mu 0) lm)
 show FL (.rg (words.map AV.str).length) _ _ _ _ _ (Mine.EK (words.map AV.str).length) [] _
 rw [et]
 refine Y4 (T := T) (n := n) (i := 0) (k6 (by decide) (by decide) (by decide) (by exact v7 h18) (by decide) y.h0) ok.1 (fun H7 x7 b7 l7 => ?_) (Nat.zero_add _) (y.x.keep fun m h1 h6 o e => k6 (by omega) (by exact Q6 h6) (by omega) (by omega) (by omega) e) .refl rfl
 have lv := NY (T := T) (n := n)
 have em : (Iv T n).2.map nI = ((Iv T n).2.map N6).map AV.int := by rw [List.map_map]; rfl
 have k7 : ∀ {m o}, m ≠ 15 -> m ≠ 11 -> m ≠ 16 -> m ≠ h -> m ≠ 10 -> (m < 2 \/ 6 < m) -> AB H m = some o -> AB H7 m = some o := fun a b c d e f g => b7.2 _ _ (Hv f) (k6 a b c d e g)
 refine AK (by rw [List.length_map]; exact Q7 lv n2) ?_
 rw [em]
 refine hk (k7 (by decide) (by decide) (by decide) (by exact v7 h18) (by decide) (by decide) y.h0) <| hk x7.q ?_
 have w8 : ∀ {H8}, Ay KL H7 H8 -> WS 11 gs R H8 := fun b => w3.keep fun o e => b.2 _ _ (Hv (by decide)) (b7.2 _ _ (Hv (by decide)) (sn (by decide) (sn (by omega) (sn (by decide) e))))
 have l16' := k3 (by decide) (by decide) y.h16
 have Et : ∀ H8, H8.length = H7.length -> KT (Z4 T (so + 1) tid n).1 H8 -> Ay KL H7 H8 -> k .none (Ab H8 17 (.idict (D5 sl (tid : Int) (nI (Z4 T (so + 1) tid n).2)))) := fun H8 l8 x8 b8 => by
  have b78 : ∀ {m o}, m < 2 \/ 6 < m -> AB H7 m = some o -> AB H8 m = some o := fun h e => b8.2 _ _ (Hv h) e
  have b68 : ∀ {m o}, m < 2 \/ 6 < m -> AB _ m = some o -> AB H8 m = some o := fun h e => b78 h (b7.2 _ _ (Hv h) e)
  refine q gb _ (hgb.trans lm) (AF.trans (l8.trans (l7.trans (AF.trans (AF.trans (AF.trans (l3.trans AF))))))) ⟨?_, fun m o hm e => ?_⟩ ((w8 b8).keep fun o e => sn (by decide) e) (x8.but (Ay.set (.head _)) fun n h1 h6 => n1 (by omega)) (sn (by decide) (b68 (by decide) (sn (by decide) (sn (by omega) (sn (by decide) (o3.2 15 _ (by decide) (C4 y.h15))))))) (sn (by decide) (b68 (by decide) (sn (by decide) (sn (by omega) (C4 l16'))))) (C4 (b78 (by decide) (k7 (by decide) (by decide) (by decide) (by exact Q80 h18) (by decide) (by decide) y.h17))) (sn (by decide) (b68 (by decide) (C4 (k5 (by decide) (by decide) (by decide) (by exact v3 h18) y.h10)))) (sn (by omega) (b68 (by omega) (sn (by omega) (C4 (sn (by exact Q64 h18) (k3 (by exact Q67 h18) (by exact Q68 h18) g))))))
  ·exact Nat.le_of_eq (AF.trans (l8.trans (l7.trans (AF.trans (AF.trans (AF.trans (l3.trans AF))))))).symm
  ·simp only [List.mem_cons, not_or] at hm
   have : m < 2 \/ 6 < m := Classical.byContradiction fun z => hm.2.2.2.2.2.2 (Qr z)
   exact sn (by omega) (b78 this (k7 (by omega) (by exact zK hm.2.1) (by omega) (by omega) (by omega) this e))
 rcases i with ⟨_, e⟩ | ⟨_, e⟩ <;> subst e <;> exact DO (r := SH _ tid (Iv T n).2) x7 ok.2 fun H8 l8 x8 b8 => Ak (w8 b8) (fun _ _ _ => rfl) y.r3 <| hk (b8.2 _ _ (Hv (by decide)) (k7 (by decide) (by decide) (by decide) (by exact Q80 h18) (by decide) (by decide) y.h17)) <| AK (by exact bE ls) <| Et H8 l8 x8 b8
theorem Uw {tid h n : Nat} {so : Int} {words : List (List Nat)} {wl_ bl sl : List (Int × AV)} {tys : List AV} (y : TyN gs R T tid so wl_ bl sl tys H) (hl : H.length = h) (h18 : 18 <= h) (hn : words.length = n) (n2 : n <= 2) (ok : gA T (so + 1) tid n)
  (q : ∀ (gb : List (Int × List Int)) (H' : Hp), gb.length = n -> H'.length = h + 4 -> Ay (10 :: 11 :: 15 :: 16 :: 17 :: KL) H H' -> WS 11 gs R H' -> KT (Z4 T (so + 1) tid n).1 H' -> AB H' 15 = some (.idict (D5 wl_ (tid : Int) (.tup (words.map .str)))) -> AB H' 16 = some (.idict (D5 bl (tid : Int) (.lst (gb.map bp)))) -> AB H' 17 = some (.idict (D5 sl (tid : Int) (nI (Z4 T (so + 1) tid n).2))) -> AB H' 10 = some (.list (tys ++ [.loc h])) -> AB H' h = some (.inst 271 (bk tid (.str (116 :: GY (tid : Int))) so h (.lst (gb.map bp)))) -> AB H' (h + 1) = some (.list (words.map .str)) -> k .none H') : Bj [.loc 11, .loc 0, .int (tid : Int), .int so, .tup (words.map .str)] H k := by
 have i := y.i
 have ls : (GY (tid : Int)).length < 100 := by rcases i with ⟨e, _⟩ | ⟨e, _⟩ <;> rw [e] <;> decide +kernel
 subst hl
 refine Ru <| Ei (sb (by exact zE i)) <| AK (by exact bE ls) <| vD (by rw [List.length_map]; omega) fun b c => ?_
 have kk : ∀ {m o l}, AB H m = some o -> AB (H ++ l) m = some o := Aj.2 _ _
 refine fj (h := H.length) ⟨y.w.keep fun o e => kk e, y.x.keepK Aj, kk y.h0, i, y.r1, y.r2, y.r3, y.r4, kk y.h15, kk y.h16, kk y.h17, kk y.h10, y.lw, y.lb, y.ls, y.lt⟩ Kl (K7 (n := 1)) h18 hn n2 ok fun gb H' hg l' b' w' x' q15 q16 q17 q10 qh => ?_
 refine q gb H' hg (l'.trans (List.length_append ..)) ⟨?_, fun m o hm e => ?_⟩ w' x' q15 q16 q17 q10 qh (b'.2 _ _ ?_ (K7 (n := 1)))
 ·rw [l', List.length_append]; exact Nat.le_add_right ..
 ·refine b'.2 m o (fun z => hm ?_) (kk e)
  have := AX e
  have ek : m ∈ KL ↔ 2 <= m /\ m <= 6 := ⟨YH, fun h => Qr (by omega)⟩
  simp only [List.mem_cons] at z ⊢
  rw [ek] at z ⊢
  exact y9 this z
 ·simp only [List.mem_cons, not_or]
  exact ⟨by omega, by omega, by omega, by omega, by omega, by omega, Hv (by omega)⟩
end
section
variable {T : Av} {H : Hp} {k : AV -> Hp -> Prop}
noncomputable def A0 : Av × Nat := FG PT ⟨2, 34, some []⟩
noncomputable def vS (p : Nat) : Av × List Nat := Iv A0.1 p
noncomputable def K9 (p : Nat) : Av × Nat := Z4 A0.1 2 64 p
noncomputable def vR (p q : Nat) : Av × List Nat := Iv (K9 p).1 q
noncomputable def NU (p q : Nat) : Av × Nat := Z4 (K9 p).1 3 65 q
noncomputable def A1 (p q : Nat) : Av × Nat := FG (NU p q).1 ⟨2, 38, some []⟩
noncomputable def A2 (p q : Nat) : Av × Nat := FG (A1 p q).1 ⟨2, 39, some [7]⟩
noncomputable def A3 (p q : Nat) : Av × Nat := FG (A2 p q).1 ⟨2, 35, some [7]⟩
noncomputable def A4 (p q : Nat) : Av × Nat := FG (A3 p q).1 ⟨2, 36, some [13]⟩
noncomputable def A5 (p q : Nat) : Av × Nat := FG (A4 p q).1 ⟨2, 39, some [((K9 p).2 : Int)]⟩
noncomputable def A6 (p q : Nat) : Av × Nat := FG (A5 p q).1 ⟨2, 35, some [((K9 p).2 : Int)]⟩
noncomputable def A7 (p q : Nat) : Av × Nat := FG (A6 p q).1 ⟨2, 39, some [((NU p q).2 : Int)]⟩
noncomputable def A8 (p q : Nat) : Av × Nat := FG (A7 p q).1 ⟨2, 36, some [((NU p q).2 : Int)]⟩
noncomputable def A9 (p q : Nat) : Av × Nat := FG (A8 p q).1 ⟨3, 35, some [7]⟩
noncomputable def A10 (p q : Nat) : Av × Nat := FG (A9 p q).1 ⟨3, 39, some [9]⟩
noncomputable def A11 (p q : Nat) : Av × Nat := FG (A10 p q).1 ⟨2, 37, some [7]⟩
noncomputable def SV (p q : Nat) : Av × Nat := FG (A11 p q).1 ⟨4, ((A3 p q).2 : Int), none⟩
noncomputable def WD (p q tid : Nat) : Nat := if tid = 64 then (K9 p).2 else (NU p q).2
noncomputable def eg (p q tid : Nat) : Nat := if tid = 64 then (A5 p q).2 else (A7 p q).2
noncomputable def fK (p q tid : Nat) : Nat := if tid = 64 then (A6 p q).2 else (A8 p q).2
noncomputable def Sx (p q : Nat) : List Nat := [0, 7, 13, A0.2, (SV p q).2, (A9 p q).2, (A10 p q).2, (A11 p q).2, (A3 p q).2, (A4 p q).2, (A1 p q).2, (A2 p q).2, (A3 p q).2, (A4 p q).2]
theorem ok0 : Ck PT ⟨2, 34, some []⟩ = true := by decide +kernel
theorem okT (p : Nat) : p <= 2 -> (∀ i, i < p -> Ck (Iv A0.1 i).1 ⟨6, (i : Int), none⟩ = true) /\ Ck (Iv A0.1 p).1 (SH 2 64 (Iv A0.1 p).2) = true := by
 revert p; decide +kernel
theorem okU (p : Nat) : p <= 2 -> ∀ q, q <= 1 -> (∀ i, i < q -> Ck (Iv (K9 p).1 i).1 ⟨6, (i : Int), none⟩ = true) /\ Ck (Iv (K9 p).1 q).1 (SH 3 65 (Iv (K9 p).1 q).2) = true := by
 revert p; decide +kernel
theorem ok1 : ∀ p, p <= 2 -> ∀ q, q <= 1 -> Ck (NU p q).1 ⟨2, 38, some []⟩ = true := by decide +kernel
theorem ok2 : ∀ p, p <= 2 -> ∀ q, q <= 1 -> Ck (A1 p q).1 ⟨2, 39, some [7]⟩ = true := by decide +kernel
theorem ok3 : ∀ p, p <= 2 -> ∀ q, q <= 1 -> Ck (A2 p q).1 ⟨2, 35, some [7]⟩ = true := by decide +kernel
theorem ok4 : ∀ p, p <= 2 -> ∀ q, q <= 1 -> Ck (A3 p q).1 ⟨2, 36, some [13]⟩ = true := by decide +kernel
theorem ok5 : ∀ p, p <= 2 -> ∀ q, q <= 1 -> Ck (A4 p q).1 ⟨2, 39, some [((K9 p).2 : Int)]⟩ = true := by decide +kernel
theorem ok6 : ∀ p, p <= 2 -> ∀ q, q <= 1 -> Ck (A5 p q).1 ⟨2, 35, some [((K9 p).2 : Int)]⟩ = true := by decide +kernel
theorem ok7 : ∀ p, p <= 2 -> ∀ q, q <= 1 -> Ck (A6 p q).1 ⟨2, 39, some [((NU p q).2 : Int)]⟩ = true := by decide +kernel
theorem ok8 : ∀ p, p <= 2 -> ∀ q, q <= 1 -> Ck (A7 p q).1 ⟨2, 36, some [((NU p q).2 : Int)]⟩ = true := by decide +kernel
theorem ok9 : ∀ p, p <= 2 -> ∀ q, q <= 1 -> Ck (A8 p q).1 ⟨3, 35, some [7]⟩ = true := by decide +kernel
theorem tE : ∀ p, p <= 2 -> ∀ q, q <= 1 -> Ck (A9 p q).1 ⟨3, 39, some [9]⟩ = true := by decide +kernel
theorem tD : ∀ p, p <= 2 -> ∀ q, q <= 1 -> Ck (A10 p q).1 ⟨2, 37, some [7]⟩ = true := by decide +kernel
theorem tC : ∀ p, p <= 2 -> ∀ q, q <= 1 -> Ck (A11 p q).1 ⟨4, ((A3 p q).2 : Int), none⟩ = true := by decide +kernel
noncomputable def vB (T : Av) : Nat -> List Nat -> Bool
 | _, [] => true
 | i, n :: r => decide (CH 0 T.rows ⟨6, (i : Int), none⟩ = some n) && vB T (i + 1) r
theorem Z2 {T : Av} {l : List Nat} : ∀ {j i n : Nat}, vB T j l = true -> Mine.getL l i = some n -> CH 0 T.rows ⟨6, ((j + i : Nat) : Int), none⟩ = some n := by
 induction l with
 | nil => exact fun _ e => nomatch e
 | cons m l ih =>
  intro j i n h e
  have h := Bool.and_eq_true_iff.mp h
  cases i with
  | zero => cases e; exact of_decide_eq_true h.1
  | succ i =>
   have := ih (j := j + 1) h.2 e
   rwa [Nat.add_right_comm] at this
noncomputable def uK (T : Av) (n : Nat) : Bool := match Mine.getL T.rows n with
 | some r => decide (r.a ≠ 5) && (stands T (n : Int) && (match Mine.getL T.ds n with
  | some d => decide (d <= 20) && (match Mine.getL T.ws n with
   | some w => decide (w <= 1000)
   | none => false)
  | none => false))
 | none => false
theorem Rn {T : Av} {n : Nat} (h : uK T n = true) : bM T (n : Int) := by
 unfold uK at h
 cases e1 : Mine.getL T.rows n with
 | none => rw [e1] at h; exact nomatch h
 | some r =>
  rw [e1] at h
  obtain ⟨h1, h⟩ := Bool.and_eq_true_iff.mp h
  obtain ⟨h2, h⟩ := Bool.and_eq_true_iff.mp h
  cases e2 : Mine.getL T.ds n with
  | none => rw [e2] at h; exact nomatch h
  | some d =>
   rw [e2] at h
   obtain ⟨h3, h⟩ := Bool.and_eq_true_iff.mp h
   cases e3 : Mine.getL T.ws n with
   | none => rw [e3] at h; exact nomatch h
   | some w =>
    rw [e3] at h
    exact ⟨n, r, rfl, e1, of_decide_eq_true h1, h2, d, w, e2, of_decide_eq_true h3, e3, of_decide_eq_true h⟩
noncomputable def aZ (r : AZ) : Bool := match r.l with
 | some (x :: t) => decide (0 <= x) && decide (t.length < 900)
 | some [] => decide (r.b ≠ 35 /\ r.b ≠ 36 /\ r.b ≠ 39)
 | none => decide (r.a ≠ 2)
theorem XT {r : AZ} (h : aZ r = true) : Ud r := fun ha => by
 obtain ⟨a, b, l⟩ := r
 cases l with
 | none => exact absurd ha (of_decide_eq_true h)
 | some l => cases l with
  | nil =>
   have := of_decide_eq_true h
   exact ⟨[], rfl, fun z => absurd z fun z => by rcases z with z | z | z; exact this.1 z; exact this.2.1 z; exact this.2.2 z⟩
  | cons x t =>
   obtain ⟨h1, h2⟩ := Bool.and_eq_true_iff.mp h
   exact ⟨x :: t, rfl, fun _ => ⟨x, t, rfl, of_decide_eq_true h1, by have := of_decide_eq_true h2; rw [List.length_cons]; exact vf this⟩⟩
noncomputable def Ym (t1 t4 tk x y z ret : Int) : Int := bif Hx t1 ret then x else bif Hx t4 ret then y else bif Hx tk ret then z else -1
theorem aq {t1 t4 tk x y z ret : Int} (h1 : t1 ≠ t4) (h2 : t1 ≠ tk) (h3 : t4 ≠ tk) : (Dn (JN Hx [] [(t1, .int x), (t4, .int y), (tk, .int z)]) ret).getD (.int (-1)) = .int (Ym t1 t4 tk x y z ret) := by
 have p : JN Hx [] [(t1, AV.int x), (t4, .int y), (tk, .int z)] = [(t1, .int x), (t4, .int y), (tk, .int z)] := by
  show Ft Hx (match Hx t1 t4 with | true => [(t1, AV.int y)] | false => [(t1, .int x), (t4, .int y)]) tk (.int z) = _
  rw [show Hx t1 t4 = false from decide_eq_false h1]
  show (match Hx t1 tk with | true => [(t1, AV.int z), (t4, .int y)] | false => (t1, .int x) :: (match Hx t4 tk with | true => [(t4, .int z)] | false => [(t4, .int y), (tk, .int z)])) = _
  rw [show Hx t1 tk = false from decide_eq_false h2, show Hx t4 tk = false from decide_eq_false h3]
 rw [p]
 unfold Ym
 show (match Hx t1 ret with | true => some (AV.int x) | false => match Hx t4 ret with | true => some (.int y) | false => match Hx tk ret with | true => some (.int z) | false => none).getD _ = _
 cases Hx t1 ret <;> cases Hx t4 ret <;> cases Hx tk ret <;> rfl
noncomputable def hY (T : Av) (t1 t4 tk u1 u4 ea own : Int) (n : Nat) : Bool := match Mine.getL T.rows n with
 | some r => aZ r && (decide (n = 0 -> Jr r = -1) && (decide (n < 1000) && (decide (Jr r = Ym t1 t4 tk 0 7 own n) && decide (XE r = Ym u1 u4 ea 7 13 own n))))
 | none => false
noncomputable def u7 (p q tid : Nat) : Bool := (Sx p q ++ [fK p q tid, eg p q tid, WD p q tid]).all (hY (SV p q).1 (A1 p q).2 (A2 p q).2 (eg p q tid) (A3 p q).2 (A4 p q).2 (fK p q tid) (WD p q tid)) && ([7, 13, WD p q tid].all (uK (SV p q).1) &&
 (decide ((A1 p q).2 ≠ (A2 p q).2 /\ (A1 p q).2 ≠ eg p q tid /\ (A2 p q).2 ≠ eg p q tid /\ (A3 p q).2 ≠ (A4 p q).2 /\ (A3 p q).2 ≠ fK p q tid /\ (A4 p q).2 ≠ fK p q tid)))
theorem Xf : ∀ p, p <= 2 -> ∀ q, q <= 1 -> u7 p q 64 = true /\ u7 p q 65 = true := by decide +kernel
theorem pd : ∀ p, p <= 2 -> ∀ q, q <= 1 -> vB (SV p q).1 0 (vS p).2 = true /\ vB (SV p q).1 0 (vR p q).2 = true /\ CH 0 (SV p q).1.rows (SH 2 64 (vS p).2) = some (K9 p).2 /\ CH 0 (SV p q).1.rows (SH 3 65 (vR p q).2) = some (NU p q).2 /\ (K9 p).2 ≠ (NU p q).2 /\ (SV p q).1.rows.length <= 100 := by decide +kernel
end
section
set_option genInjectivity false
variable {T : Av} {H : Hp} {k : AV -> Hp -> Prop}
noncomputable def D9 (p : Nat) : List (List Nat) := [[84], [85]].take p
noncomputable def Ec (q : Nat) : List (List Nat) := [[85]].take q
noncomputable def oV (tid : Nat) : AV := .str (116 :: GY (tid : Int))
noncomputable def mkY (p q : Nat) (g64 g65 : List (Int × List Int)) (tid : Nat) : Ty := bif tid == 64 then ⟨18, oV 64, 1, D9 p, g64, (vS p).2, (K9 p).2⟩ else ⟨22, oV 65, 2, Ec q, g65, (vR p q).2, (NU p q).2⟩
noncomputable def R1 : List (List Nat × AV) := [([116, 111, 108, 100], .loc 12), ([118, 97, 114, 105, 97, 98, 108, 101, 115], .loc 13), ([109, 105, 100, 115], .loc 14), ([119, 111, 114, 100, 115], .loc 15), ([98, 111, 117, 110, 100, 115], .loc 16), ([115, 101, 108, 118, 101, 115], .loc 17), ([102, 97, 99, 101], nI A0.2)]
noncomputable def R2 (p q : Nat) : List (List Nat × AV) := [([116, 97, 115, 107], nI (A1 p q).2), ([116, 97, 115, 107, 52], nI (A2 p q).2), ([101, 97, 99, 104, 52], nI (A3 p q).2), ([119, 97, 108, 107], nI (A4 p q).2), ([116, 97, 115, 107, 111, 102], .loc 26), ([101, 97, 99, 104, 111, 102], .loc 27), ([114, 101, 116, 115], .tup ((Sx p q).map nI))]
noncomputable def RL (p q n : Nat) : List (List Nat × AV) := R1 ++ (R2 p q).take n
noncomputable def PA (p q : Nat) (x y : Nat) : List (Int × AV) := D5 (D5 [] ((K9 p).2 : Int) (nI x)) ((NU p q).2 : Int) (nI y)
noncomputable def Uq (gs : List Int) (p q : Nat) (g64 g65 : List (Int × List Int)) : LC where
 gs := gs
 R := RL p q 7
 Y := mkY p q g64 g65
 sl := [(64, nI (K9 p).2), (65, nI (NU p q).2)]
 tl := PA p q (A5 p q).2 (A7 p q).2
 el := PA p q (A6 p q).2 (A8 p q).2
 rets := Sx p q
 tk := eg p q
 ea := fK p q
variable {gs : List Int} {p q : Nat} {g64 g65 : List (Int × List Int)}
theorem Si {a b : Int} {x y : AV} (h : a ≠ b) : Dn (D5 (D5 [] a x) b y) a = some x := by
 show Dn (match Hx a b with | true => [(a, y)] | false => [(a, x), (b, y)]) a = some x
 rw [show Hx a b = false from decide_eq_false h]
 show (match Hx a a with | true => some x | false => _) = some x
 rw [show Hx a a = true from decide_eq_true rfl]
theorem cu (hp : p <= 2) (hq : q <= 1) (hg : gs.length <= 40) : (Uq gs p q g64 g65).Ok := by
 have ne : ((K9 p).2 : Int) ≠ ((NU p q).2 : Int) := fun h => (pd p hp q hq).2.2.2.2.1 (Int.ofNat.inj h)
 refine ⟨hg, rfl, rfl, rfl, rfl, ⟨_, rfl⟩, rfl, rfl, rfl, ⟨_, _, rfl, rfl⟩, ⟨_, _, rfl, rfl⟩, ?_, ?_, ?_, rfl, ?_⟩
 ·intro tid h
  rcases h with rfl | rfl <;> rfl
 ·intro tid h
  rcases h with rfl | rfl
  ·apply Gs (Si (x := nI (A5 p q).2) (y := nI (A7 p q).2) ne)
   kernel_rfl
  ·apply Gs (J6 (l := D5 [] ((K9 p).2 : Int) (nI (A5 p q).2)) (i := ((NU p q).2 : Int)) (x := nI (A7 p q).2))
   kernel_rfl
 ·intro tid h
  rcases h with rfl | rfl
  ·apply Gs (Si (x := nI (A6 p q).2) (y := nI (A8 p q).2) ne)
   kernel_rfl
  ·apply Gs (J6 (l := D5 [] ((K9 p).2 : Int) (nI (A6 p q).2)) (i := ((NU p q).2 : Int)) (x := nI (A8 p q).2))
   kernel_rfl
 ·exact .tail _ (.head _)
theorem LG {tid : Nat} (h : FF tid) : ((Uq gs p q g64 g65).Y tid).own = WD p q tid := by rcases h with rfl | rfl <;> rfl
theorem TO {tid : Nat} (hp : p <= 2) (hq : q <= 1) (h : FF tid) : u7 p q tid = true := by
 rcases h with rfl | rfl
 ·exact (Xf p hp q hq).1
 ·exact (Xf p hp q hq).2
theorem cq (hp : p <= 2) (hq : q <= 1) : ∀ tid, FF tid -> ∀ n ∈ (Uq gs p q g64 g65).all tid, ∃ r, MQ (Uq gs p q g64 g65) (SV p q).1 tid n r := fun tid h n hn => by
 have hn : n ∈ Sx p q ++ [fK p q tid, eg p q tid, WD p q tid] := LG (gs := gs) (g64 := g64) (g65 := g65) h ▸ hn
 obtain ⟨c1, c⟩ := Bool.and_eq_true_iff.mp (TO hp hq h)
 obtain ⟨_, c3⟩ := Bool.and_eq_true_iff.mp c
 have c1 := List.all_eq_true.mp c1 n hn
 obtain ⟨d1, d2, d3, d4, d5, d6⟩ := of_decide_eq_true c3
 unfold hY at c1
 have ne : ∀ {a b : Nat}, a ≠ b -> (a : Int) ≠ (b : Int) := fun h z => h (Int.ofNat.inj z)
 cases er : Mine.getL (SV p q).1.rows n with
 | none => rw [er] at c1; exact nomatch c1
 | some r =>
  rw [er] at c1
  obtain ⟨e1, c1⟩ := Bool.and_eq_true_iff.mp c1
  obtain ⟨e2, c1⟩ := Bool.and_eq_true_iff.mp c1
  obtain ⟨e3, c1⟩ := Bool.and_eq_true_iff.mp c1
  obtain ⟨e4, e5⟩ := Bool.and_eq_true_iff.mp c1
  refine ⟨r, er, XT e1, of_decide_eq_true e2, of_decide_eq_true e3, fun t1 t4 h1 h4 => ?_, fun t1 t4 h1 h4 => ?_⟩
  ·have h1' : some (AV.int ((A1 p q).2 : Int)) = some (.int t1) := h1
   have h4' : some (AV.int ((A2 p q).2 : Int)) = some (.int t4) := h4
   cases h1'; cases h4'
   rw [LG h, of_decide_eq_true e4]
   exact aq (ne d1) (ne d2) (ne d3)
  ·have h1' : some (AV.int ((A3 p q).2 : Int)) = some (.int t1) := h1
   have h4' : some (AV.int ((A4 p q).2 : Int)) = some (.int t4) := h4
   cases h1'; cases h4'
   rw [LG h, of_decide_eq_true e5]
   exact aq (ne d4) (ne d5) (ne d6)
theorem cv (hp : p <= 2) (hq : q <= 1) : ∀ tid, FF tid -> ∀ i : Int, i = 7 \/ i = 13 \/ i = (((Uq gs p q g64 g65).Y tid).own : Int) -> bM (SV p q).1 i := fun tid h i hi => by
 obtain ⟨_, c⟩ := Bool.and_eq_true_iff.mp (TO hp hq h)
 have c2 := List.all_eq_true.mp (Bool.and_eq_true_iff.mp c).1
 rw [LG h] at hi
 rcases hi with rfl | rfl | rfl
 ·exact Rn (c2 7 (.head _))
 ·exact Rn (c2 13 (.tail _ (.head _)))
 ·exact Rn (c2 _ (.tail _ (.tail _ (.head _))))
theorem Yz (hp : p <= 2) (hq : q <= 1) : ∀ tid, FF tid -> Um tid ((Uq gs p q g64 g65).Y tid) (SV p q).1 := fun tid h => by
 obtain ⟨h1, h2, h3, h4, _⟩ := pd p hp q hq
 rcases h with rfl | rfl
 ·exact ⟨fun i n e => Nat.zero_add i ▸ Z2 h1 e, by apply Gs h3; kernel_rfl⟩
 ·exact ⟨fun i n e => Nat.zero_add i ▸ Z2 h2 e, by apply Gs h4; kernel_rfl⟩
structure Zo (p q : Nat) (g64 g65 : List (Int × List Int)) (H : Hp) : Prop where
 h0 : AB H 0 = some (.inst 313 Yb)
 h10 : AB H 10 = some (.list oP)
 h15 : AB H 15 = some (.idict [(64, .tup ((D9 p).map .str)), (65, .tup ((Ec q).map .str))])
 h16 : AB H 16 = some (.idict [(64, .lst (g64.map bp)), (65, .lst (g65.map bp))])
 h17 : AB H 17 = some (.idict [(64, nI (K9 p).2), (65, nI (NU p q).2)])
 a1 : AB H 18 = some (.inst 271 (bk 64 (oV 64) 1 18 (.lst (g64.map bp))))
 a2 : AB H 19 = some (.list ((D9 p).map .str))
 a6 : g64.length = p
 b1 : AB H 22 = some (.inst 271 (bk 65 (oV 65) 2 22 (.lst (g65.map bp))))
 b2 : AB H 23 = some (.list ((Ec q).map .str))
 b6 : g65.length = q
theorem Zo.keep {H' : Hp} (x : Zo p q g64 g65 H) (h : ∀ n o, n = 0 \/ n = 10 \/ (15 <= n /\ n <= 23) -> AB H n = some o -> AB H' n = some o) : Zo p q g64 g65 H' :=
 { x with h0 := h _ _ (by decide) x.h0, h10 := h _ _ (by decide) x.h10, h15 := h _ _ (by decide) x.h15, h16 := h _ _ (by decide) x.h16, h17 := h _ _ (by decide) x.h17, a1 := h _ _ (by decide) x.a1, a2 := h _ _ (by decide) x.a2, b1 := h _ _ (by decide) x.b1, b2 := h _ _ (by decide) x.b2 }
theorem Zo.tyH (hp : p <= 2) (hq : q <= 1) (x : Zo p q g64 g65 H) : ∀ tid, FF tid -> Qq tid ((Uq gs p q g64 g65).Y tid) H := fun tid h => by
 have w4 : (D9 p).length = p := by unfold D9; rw [List.length_take]; show min p 2 = p; omega
 have w5 : (Ec q).length = q := by unfold Ec; rw [List.length_take]; show min q 1 = q; omega
 rcases h with rfl | rfl
 ·exact ⟨.inl ⟨rfl, rfl, rfl⟩, x.h0, x.h10, x.a1, x.a2, by show (D9 p).length <= 2; exact fU w4 hp, x.a6.trans w4.symm, NY.trans w4.symm⟩
 ·exact ⟨.inr ⟨rfl, rfl, rfl⟩, x.h0, x.h10, x.b1, x.b2, by show (Ec q).length <= 2; exact xT w5 hq, x.b6.trans w5.symm, NY.trans w5.symm⟩
theorem Zo.tyW (x : Zo p q g64 g65 H) : ∀ tid, FF tid -> fQ tid ((Uq gs p q g64 g65).Y tid) (Uq gs p q g64 g65).R H := fun tid h => by
 rcases h with rfl | rfl <;> exact ⟨rfl, ⟨_, x.h15, rfl⟩, rfl, ⟨_, x.h16, rfl⟩⟩
end
section
variable {T : Av} {H : Hp} {k : AV -> Hp -> Prop}
noncomputable def lw7 : VS := (AG (RD 12 [] (vX (Uo vV (AI 467 E7 (vL 9)) (vC (.int 1)))) U5 (Au (AA (AI 425 Ba (vL 0)) (AA (AI 425 DA (vL 0)) (AA (AI 425 CY (vL 0)) (AA (AI 425 Bc (vL 0)) (AA (AI 425 Kg (vL 0)) (AA (AI 425 Hl (vL 0)) AQ)))))))) (AG (Iw (HF (BK (AL (vL 12) (AL (vL 4) (vC (.str [118, 97, 114, 105, 97, 98, 108, 101, 115])) AR) (IH false))) (HF (BK (AL (AI 467 Fx (vL 9)) (AL (vL 4) (vC (.str [109, 105, 100, 115])) AR) UI)) (HF (BK (AL (BR (AI 467 II (vL 9)) Hu) (AL (BR (AL (vL 4) (vC (.str [109, 105, 100, 115])) AR) Hu) (vC (.int 1)) HK) fC)) LZ))) (AG (Hs (vC (.bool false))) AS) AS) (AG (Hs (AL (AI 397 BS (AI 467 Eg (vL 9))) (AL (vL 4) (vC (.str [116, 111, 108, 100])) AR) (IH true))) AS)))
noncomputable def t7 : VS := (AG (Ng (ee (AL (vC (.int 3)) (AL (BR (vL 1) Hu) (vC (.int 12)) cW) HK)) (gN 11) (AG (Iw (Mr (BK (Ai (AA (vL 4) (AA (vL 10) (AA (AL (vL 11) (vC (.int 0)) Qv) AQ))) Cg))) (AG (Hs (vC (.bool false))) AS) AS) AS)) lw7)
noncomputable def uA : VS := (AG (BM 9 (Ai (AA (vL 2) (AA (vC (.int 1)) AQ)) FH)) (AG (BM 10 (Ai (AA (vL 9) (AA (vC (.int 1)) (AA (Ai (AA (vL 3) AQ) B1) AQ))) GX)) t7))
noncomputable def uB : VS := (AG (Ng (vX (Au (AA (vC (.int 64)) (AA (vC (.int 65)) AQ)))) (gN 5) (AG (BM 6 (AL (AL (vL 4) (vC (.str [115, 101, 108, 118, 101, 115])) AR) (vL 5) AR)) (AG (Bs (DH 110 BO (vL 3) (AA (Au (AA (vC (.int 2)) (AA (vC (.int 39)) (AA (Au (AA (vL 6) AQ)) AQ)))) AQ) AN) (AL (vL 4) (vC (.str [116, 97, 115, 107, 111, 102])) AR) (vL 6)) (AG (Bs (DH 110 BO (vL 3) (AA (Au (AA (vC (.int 2)) (AA (AL (Au (AA (vC (.int 35)) (AA (vC (.int 36)) AQ))) (AL (vL 5) (vC (.int 64)) jx) AR) (AA (Au (AA (vL 6) AQ)) AQ)))) AQ) AN) (AL (vL 4) (vC (.str [101, 97, 99, 104, 111, 102])) AR) (vL 6)) AS)))) (AG (BM 7 (Au (AA (DH 110 BO (vL 3) (AA (Au (AA (vC (.int 3)) (AA (vC (.int 35)) (AA (Au (AA (vC (.int 7)) AQ)) AQ)))) AQ) AN) (AA (DH 110 BO (vL 3) (AA (Au (AA (vC (.int 3)) (AA (vC (.int 39)) (AA (Au (AA (vC (.int 9)) AQ)) AQ)))) AQ) AN) (AA (DH 110 BO (vL 3) (AA (Au (AA (vC (.int 2)) (AA (vC (.int 37)) (AA (Au (AA (vC (.int 7)) AQ)) AQ)))) AQ) AN) AQ))))) (AG (BM 8 (AL (Au (AA (vC (.int 0)) (AA (vC (.int 7)) (AA (vC (.int 13)) (AA (AL (vL 4) (vC (.str [102, 97, 99, 101])) AR) (AA (Ai (AA (vL 3) (AA (AL (vL 4) (vC (.str [101, 97, 99, 104, 52])) AR) AQ)) CU) AQ)))))) (vL 7) M0)) (AG (Bs (AL (vL 8) (Au (AA (AL (vL 4) (vC (.str [101, 97, 99, 104, 52])) AR) (AA (AL (vL 4) (vC (.str [119, 97, 108, 107])) AR) (AA (AL (vL 4) (vC (.str [116, 97, 115, 107])) AR) (AA (AL (vL 4) (vC (.str [116, 97, 115, 107, 52])) AR) (AA (AL (vL 4) (vC (.str [101, 97, 99, 104, 52])) AR) (AA (AL (vL 4) (vC (.str [119, 97, 108, 107])) AR) AQ))))))) M0) (vL 4) (vC (.str [114, 101, 116, 115]))) uA))))
noncomputable def uC : VS := (AG (Bs (DH 110 BO (vL 3) (AA (Au (AA (vC (.int 2)) (AA (vC (.int 38)) (AA (Au AQ) AQ)))) AQ) AN) (vL 4) (vC (.str [116, 97, 115, 107]))) (AG (Bs (DH 110 BO (vL 3) (AA (Au (AA (vC (.int 2)) (AA (vC (.int 39)) (AA (Au (AA (vC (.int 7)) AQ)) AQ)))) AQ) AN) (vL 4) (vC (.str [116, 97, 115, 107, 52]))) (AG (Bs (DH 110 BO (vL 3) (AA (Au (AA (vC (.int 2)) (AA (vC (.int 35)) (AA (Au (AA (vC (.int 7)) AQ)) AQ)))) AQ) AN) (vL 4) (vC (.str [101, 97, 99, 104, 52]))) (AG (Bs (DH 110 BO (vL 3) (AA (Au (AA (vC (.int 2)) (AA (vC (.int 36)) (AA (Au (AA (vC (.int 13)) AQ)) AQ)))) AQ) AN) (vL 4) (vC (.str [119, 97, 108, 107]))) (AG (Bs (Dh (.idict [])) (vL 4) (vC (.str [116, 97, 115, 107, 111, 102]))) (AG (Bs (Dh (.idict [])) (vL 4) (vC (.str [101, 97, 99, 104, 111, 102]))) uB))))))
noncomputable def oY : VS := (AG (BE (Ai (AA (vL 4) (AA (vL 2) (AA (vC (.int 64)) (AA (vC (.int 1)) (AA (Uo pA (Au (AA (vC (.str [84])) (AA (vC (.str [85])) AQ))) (Ai (AA (vL 4) (AA (vC (.int 3)) AQ)) Ad)) AQ))))) Bj)) (AG (BE (Ai (AA (vL 4) (AA (vL 2) (AA (vC (.int 65)) (AA (vC (.int 2)) (AA (Uo pA (Au (AA (vC (.str [85])) AQ)) (Ai (AA (vL 4) (AA (vC (.int 2)) AQ)) Ad)) AQ))))) Bj)) uC))
noncomputable def tw : VS := (AG (Bs (DH 110 BO (vL 3) (AA (Au (AA (vC (.int 2)) (AA (vC (.int 34)) (AA (Au AQ) AQ)))) AQ) AN) (vL 4) (vC (.str [102, 97, 99, 101]))) oY)
noncomputable def uD : VS := (AG (BM 4 (Nh (Fp (vC (.str [103, 105, 118, 101, 110])) (vL 1) (Fp (vC (.str [112, 108, 97, 99, 101])) (vC (.int 0)) (Fp (vC (.str [115, 101, 101, 100])) (AL (AL (BR (vL 1) cS) (BR (vL 1) Hu) HK) (vC (.int 1009)) Yr) (Fp (vC (.str [110, 111, 100, 101, 115])) (vC (.int 0)) (Fp (vC (.str [116, 111, 108, 100])) (Ot AQ) (Fp (vC (.str [118, 97, 114, 105, 97, 98, 108, 101, 115])) (Ot AQ) Na)))))))) (AG (Bs (Dh (.idict [])) (vL 4) (vC (.str [109, 105, 100, 115]))) (AG (Bs (Dh (.idict [])) (vL 4) (vC (.str [119, 111, 114, 100, 115]))) (AG (Bs (Dh (.idict [])) (vL 4) (vC (.str [98, 111, 117, 110, 100, 115]))) (AG (Bs (Dh (.idict [])) (vL 4) (vC (.str [115, 101, 108, 118, 101, 115]))) tw)))))
theorem dc {l : List Int} : Lz (l.map AV.int) = some l := by
 induction l with
 | nil => rfl
 | cons x l ih => show (match Lz (l.map AV.int) with | some r => some (x :: r) | none => none) = _; rw [ih]
noncomputable def md6 (x : AV) : AV := match x with
 | .int i => .int (i % 1000003)
 | _ => .none
noncomputable def ZK (R : Hp) (T : Av) : Hp := hL Yb T (some (.list [.none]) :: some (.list [.none]) :: some (.sdict []) :: some (.list (List.replicate 64 .none)) :: R)
noncomputable def Ur (script : List Int) (gs : List Int) (a : Option AV) : Ag := [some (.lst (script.map .int)), some (.lst (gs.map .int)), some (.loc 0), some (.loc 1), a, none, none, none, none, none, none, none, none]
theorem qk {script : List Int} (hl : script.length <= 63) (q : ∀ gs : List Int, gs.length <= 40 -> uD (Ur script gs none) (ZK [] PT) (EP k)) : Ig [.lst (script.map .int)] [] k := by
 have et : ((script.map AV.int).take 40).map md6 = ((script.take 40).map (· % 1000003)).map .int := by rw [<- List.map_take, List.map_map, List.map_map]; rfl
 refine mG <| AK (by rw [List.length_map]; omega) <| AK (show (List.take 40 (script.map AV.int)).length < 100000 by rw [List.length_take, List.length_map]; omega) <| Wx (ex := md6) (fun p h => h) (fun x hx K h => ?_) et <| Zg ?_
 ·obtain ⟨i, _, rfl⟩ := List.mem_map.mp (List.mem_of_mem_take hx)
  exact h
 ·apply Gs (q ((script.take 40).map (· % 1000003)) (by rw [List.length_map, List.length_take]; omega))
  kernel_rfl
noncomputable def YN (s : Int) (gs : List Int) : Hp := ZK [some (.sdict (wl gs 0 s 0 (R1.take 6))), some (.list []), some (.list []), some (.idict []), some (.idict []), some (.idict []), some (.idict [])] PT
theorem qb {script gs : List Int} (lg : gs.length <= 40) (q : ∀ s, 0 <= s -> s < 1009 -> tw (Ur script gs (some (.loc 11))) (YN s gs) (EP k)) : uD (Ur script gs none) (ZK [] PT) (EP k) := by
 refine EL dc <| AK (by rw [List.length_map]; omega) ?_
 apply Gs (q ((gs.sum + ((gs.map AV.int).length : Int)) % 1009) (Int.emod_nonneg _ (by decide)) (Int.emod_lt_of_pos _ (by decide)))
 kernel_rfl
theorem dj {s : Int} {gs : List Int} : KT PT (YN s gs) := ⟨rfl, rfl, rfl, rfl, rfl, rfl, by decide +kernel, by decide +kernel, by decide +kernel, by decide +kernel⟩
variable {a : Nat} {gs : List Int} {R R' : List (List Nat × AV)}
theorem KN {key : List Nat} {v : AV} {kk : Hp -> Prop} (w : WS a gs R H) (hq : ∀ p s n, O8 (wl gs p s n R) key v = wl gs p s n R') (hr : Nat.ble R'.length 900 = true) (q : ∀ H', BA a H H' -> WS a gs R' H' -> H'.length = H.length -> kk H') : PE (.loc a) (.str key) v H kk := by
 obtain ⟨⟨p, s, n, g, h⟩, r1, r2⟩ := w
 have hr := Nat.le_of_ble_eq_true hr
 refine hk g <| AK (show R.length + 4 < 100000 by omega) ?_
 rw [hq p s n]
 exact q _ .set ⟨⟨p, s, n, AD g, h⟩, r1, by omega⟩ AF
theorem cQ {script gs : List Int} {s : Int} (hl : H.length = 18) (x : KT PT H) (b : Ay (11 :: KL) (YN s gs) H) (w : WS 11 gs (R1.take 6) H) (q : ∀ H', H'.length = 18 -> Ay (11 :: KL) (YN s gs) H' -> WS 11 gs R1 H' -> KT A0.1 H' -> oY (Ur script gs (some (.loc 11))) H' (EP k)) : tw (Ur script gs (some (.loc 11))) H (EP k) :=
 hk x.q <| DO (r := ⟨2, 34, some []⟩) x ok0 fun H1 l1 x1 b1 => KN (R' := R1) (w.keep fun o e => b1.2 _ _ (Hv (by decide)) e) (fun _ _ _ => rfl) rfl fun H2 o2 w2 l2 => q H2 (l2.trans (l1.trans hl)) (b.trans ((b1.mono fun n h => .tail _ h).trans (o2.but (.head _)))) w2 (x1.keep fun n h1 h6 o e => o2.2 _ _ (by exact Q6 h6) e)
theorem qj {script gs : List Int} (lg : gs.length <= 40) (q : ∀ s H', H'.length = 18 -> Ay (11 :: KL) (YN s gs) H' -> WS 11 gs R1 H' -> KT A0.1 H' -> oY (Ur script gs (some (.loc 11))) H' (EP k)) : uD (Ur script gs none) (ZK [] PT) (EP k) :=
 qb lg fun s s0 s1 => cQ rfl dj .refl ⟨⟨_, _, _, rfl, Int.le_refl _, s0, s1⟩, by omega, by decide⟩ (q s)
end
section
variable {T : Av} {H : Hp} {k : AV -> Hp -> Prop}
variable {script gs : List Int} {R : List (List Nat × AV)}
theorem qi {s : Int} (lw0 : H.length = 18) (b0 : Ay (11 :: KL) (YN s gs) H) (w : WS 11 gs R1 H) (x : KT A0.1 H)
  (q : ∀ p r g64 g65 H', p <= 2 -> r <= 1 -> H'.length = 26 -> Ay (10 :: 11 :: 15 :: 16 :: 17 :: KL) (YN s gs) H' -> WS 11 gs R1 H' -> KT (NU p r).1 H' -> Zo p r g64 g65 H' -> uC (Ur script gs (some (.loc 11))) H' (EP k)) :
  oY (Ur script gs (some (.loc 11))) H (EP k) := by
 have e1 : ∀ p : Nat, List.take (p : Int).toNat [AV.str [84], AV.str [85]] = (D9 p).map .str := fun p => (List.map_take (l := [[84], [85]]) (f := AV.str) (i := p)).symm
 have e2 : ∀ p : Nat, List.take (p : Int).toNat [AV.str [85]] = (Ec p).map .str := fun p => (List.map_take (l := [[85]]) (f := AV.str) (i := p)).symm
 refine LA w (by decide) (by decide) fun r1 H1 r10 r11 o1 w1 l1 => Ei (oR r10 (show r1 <= (2 : Nat) by omega) (by decide)) ?_
 obtain ⟨p, rfl⟩ : ∃ p : Nat, r1 = (p : Int) := ⟨r1.toNat, (Int.toNat_of_nonneg r10).symm⟩
 have hp : p <= 2 := by omega
 have w4 : (D9 p).length = p := by unfold D9; rw [List.length_take]; show min p 2 = p; omega
 have f1 : ∀ {n o}, n ∉ 11 :: KL -> AB (YN s gs) n = some o -> AB H1 n = some o := fun h e => o1.2 _ _ (fun z => h (z ▸ .head _)) (b0.2 _ _ h e)
 have h0 : AB H1 0 = some (.inst 313 Yb) := f1 (by decide) rfl
 show Bj [.loc 11, .loc 0, .int 64, .int 1, .tup (List.take (p : Int).toNat [AV.str [84], AV.str [85]])] H1 _
 rw [e1]
 refine Uw (T := A0.1) (tid := 64) (h := 18) (so := 1) (wl_ := []) (bl := []) (sl := []) (tys := List.replicate 64 .none) ⟨w1, x.keep fun n h1 h6 o e => o1.2 _ _ (by exact Q6 h6) e, h0, .inl ⟨rfl, rfl⟩, rfl, rfl, rfl, ⟨_, rfl⟩, f1 (by decide) rfl, f1 (by decide) rfl, f1 (by decide) rfl, f1 (by decide) rfl, by decide, by decide, by decide, by decide⟩ (l1.trans lw0) (by decide) w4 hp (okT p hp) fun g64 H2 hg l2 b2 w2 x2 q15 q16 q17 q10 qt qp => ?_
 refine LA w2 (by decide) (by decide) fun r2 H3 r20 r21 o3 w3 l3 => Ei (oR r20 (show r2 <= (1 : Nat) by omega) (by decide)) ?_
 obtain ⟨r, rfl⟩ : ∃ p : Nat, r2 = (p : Int) := ⟨r2.toNat, (Int.toNat_of_nonneg r20).symm⟩
 have hr : r <= 1 := by omega
 have w5 : (Ec r).length = r := by unfold Ec; rw [List.length_take]; show min r 1 = r; omega
 have b3 : Ay (10 :: 11 :: 15 :: 16 :: 17 :: KL) H2 H3 := o3.but (.tail _ (.head _))
 have h0' : AB H3 0 = some (.inst 313 Yb) := b3.2 _ _ (by decide) (b2.2 _ _ (by decide) h0)
 show Bj [.loc 11, .loc 0, .int 65, .int 2, .tup (List.take (r : Int).toNat [AV.str [85]])] H3 _
 rw [e2]
 refine Uw (T := (K9 p).1) (tid := 65) (h := 22) (so := 2) (wl_ := [(64, .tup ((D9 p).map .str))]) (bl := [(64, .lst (g64.map bp))]) (sl := [(64, nI (K9 p).2)]) (tys := List.replicate 64 .none ++ [.loc 18]) ⟨w3, x2.keep fun n h1 h6 o e => o3.2 _ _ (by exact Q6 h6) e, h0', .inr ⟨rfl, rfl⟩, rfl, rfl, rfl, ⟨_, rfl⟩, o3.2 _ _ (by decide) q15, o3.2 _ _ (by decide) q16, o3.2 _ _ (by decide) q17, o3.2 _ _ (by decide) q10, show 1 < 100 by decide, show 1 < 100 by decide, show 1 < 100 by decide, by decide⟩ (l3.trans l2) (by decide) w5 (by omega) (okU p hp r hr) fun g65 H4 hg' l4 b4 w4' x4 s15 s16 s17 s10 st_ sp => ?_
 refine q p r g64 g65 H4 hp hr l4 ((((b0.mono fun n h => ?_).trans (o1.but (.tail _ (.head _)))).trans b2).trans (b3.trans b4)) w4' x4 ⟨b4.2 _ _ (by decide) h0', s10, s15, s16, s17, b4.2 _ _ (by decide) (b3.2 _ _ (by decide) qt), b4.2 _ _ (by decide) (b3.2 _ _ (by decide) qp), hg, st_, sp, hg'⟩
 cases h with
 | head => exact .tail _ (.head _)
 | tail _ h => exact .tail _ (.tail _ (.tail _ (.tail _ (.tail _ h))))
end
section
set_option genInjectivity false
variable {T : Av} {H : Hp} {k : AV -> Hp -> Prop}
variable {script gs : List Int} {R R' : List (List Nat × AV)} {s : Int} {p q n : Nat} {g64 g65 : List (Int × List Int)}
noncomputable def SB : List Nat := 26 :: 27 :: 10 :: 11 :: 15 :: 16 :: 17 :: KL
structure St (s : Int) (gs : List Int) (p q : Nat) (g64 g65 : List (Int × List Int)) (R : List (List Nat × AV)) (T : Av) (n : Nat) (H : Hp) : Prop where
 l : H.length = n
 b : Ay SB (YN s gs) H
 w : WS 11 gs R H
 x : KT T H
 y : Zo p q g64 g65 H
theorem St.put {T' : Av} {H' : Hp} (z : St s gs p q g64 g65 R T n H) (l : H'.length = H.length) (x : KT T' H') (b : Ay KL H H') : St s gs p q g64 g65 R T' n H' :=
 ⟨l.trans z.l, z.b.trans (b.mono fun n h => .tail _ (.tail _ (.tail _ (.tail _ (.tail _ (.tail _ (.tail _ h))))))), z.w.keep fun o e => b.2 _ _ (Hv (by decide)) e, x, z.y.keep fun n o h e => b.2 _ _ (Hv (by omega)) e⟩
theorem St.set {H' : Hp} {m : Nat} (z : St s gs p q g64 g65 R T n H) (o : BA m H H') (hm : m = 11 \/ m = 26 \/ m = 27) (l : H'.length = H.length) (w : WS 11 gs R' H') : St s gs p q g64 g65 R' T n H' :=
 ⟨l.trans z.l, z.b.trans (o.but (by rcases hm with rfl | rfl | rfl <;> decide)), w, z.x.keep fun n h1 h6 o' e => o.2 _ _ (by exact xP hm h6) e, z.y.keep fun n o' h e => o.2 _ _ (by exact xO h hm) e⟩
theorem St.add {o : AO} (z : St s gs p q g64 g65 R T n H) : St s gs p q g64 g65 R T (n + 1) (Af H o) :=
 ⟨(List.length_append ..).trans (congrArg (· + 1) z.l), z.b.trans AY.add.but, z.w.keep fun o e => AY.add.2 _ _ e, z.x.keep fun n h1 h6 o e => AY.add.2 _ _ e, z.y.keep fun n o h e => AY.add.2 _ _ e⟩
theorem qg (hp : p <= 2) (hq : q <= 1) (z : St s gs p q g64 g65 R1 (NU p q).1 26 H)
  (k_ : ∀ H', St s gs p q g64 g65 (RL p q 6) (A4 p q).1 28 H' -> AB H' 26 = some (.idict []) -> AB H' 27 = some (.idict []) -> uB (Ur script gs (some (.loc 11))) H' (EP k)) :
  uC (Ur script gs (some (.loc 11))) H (EP k) := by
 refine hk z.x.q <| DO (r := ⟨2, 38, some []⟩) z.x (ok1 p hp q hq) fun H1 l1 x1 b1 => ?_
 have z1 := z.put l1 x1 b1
 refine KN (R' := RL p q 1) z1.w (fun _ _ _ => rfl) rfl fun H2 o2 w2 l2 => ?_
 have z2 := z1.set o2 (.inl rfl) l2 w2
 refine hk z2.x.q <| DO (r := ⟨2, 39, some [7]⟩) z2.x (ok2 p hp q hq) fun H3 l3 x3 b3 => ?_
 have z3 := z2.put l3 x3 b3
 refine KN (R' := RL p q 2) z3.w (fun _ _ _ => rfl) rfl fun H4 o4 w4 l4 => ?_
 have z4 := z3.set o4 (.inl rfl) l4 w4
 refine hk z4.x.q <| DO (r := ⟨2, 35, some [7]⟩) z4.x (ok3 p hp q hq) fun H5 l5 x5 b5 => ?_
 have z5 := z4.put l5 x5 b5
 refine KN (R' := RL p q 3) z5.w (fun _ _ _ => rfl) rfl fun H6 o6 w6 l6 => ?_
 have z6 := z5.set o6 (.inl rfl) l6 w6
 refine hk z6.x.q <| DO (r := ⟨2, 36, some [13]⟩) z6.x (ok4 p hp q hq) fun H7 l7 x7 b7 => ?_
 have z7 := z6.put l7 x7 b7
 refine KN (R' := RL p q 4) z7.w (fun _ _ _ => rfl) rfl fun H8 o8 w8 l8 => ?_
 have z8 := z7.set o8 (.inl rfl) l8 w8
 have z9 := z8.add (o := .idict [])
 show PE (.loc 11) (.str [116, 97, 115, 107, 111, 102]) (.loc H8.length) (Af H8 (.idict [])) _
 have g9 : AB (Af H8 (.idict [])) 26 = some (.idict []) := z8.l ▸ Ah
 rw [z8.l]
 refine KN (R' := RL p q 5) z9.w (fun _ _ _ => rfl) rfl fun Ha oa wa la => ?_
 have za := z9.set oa (.inl rfl) la wa
 have la' : Ha.length = 27 := za.l
 have zb := za.add (o := .idict [])
 show PE (.loc 11) (.str [101, 97, 99, 104, 111, 102]) (.loc Ha.length) (Af Ha (.idict [])) _
 have gb : AB (Af Ha (.idict [])) 27 = some (.idict []) := la' ▸ Ah
 rw [la']
 exact KN (R' := RL p q 6) zb.w (fun _ _ _ => rfl) rfl fun Hc oc wc lc => k_ Hc (zb.set oc (.inl rfl) lc wc) (oc.2 _ _ (by decide) (AY.add.2 _ _ (oa.2 _ _ (by decide) g9))) (oc.2 _ _ (by decide) gb)
end
section
variable {T : Av} {H : Hp} {k : AV -> Hp -> Prop}
variable {script gs : List Int} {R R' : List (List Nat × AV)} {s : Int} {p q n : Nat} {g64 g65 : List (Int × List Int)} {f5 f6 f7 f8 : Option AV}
noncomputable def cw (script : List Int) (gs : List Int) (f5 f6 f7 f8 f9 f10 f11 : Option AV) : Ag := [some (.lst (script.map .int)), some (.lst (gs.map .int)), some (.loc 0), some (.loc 1), some (.loc 11), f5, f6, f7, f8, f9, f10, f11, none]
theorem St.seti {m : Nat} {o : AO} (z : St s gs p q g64 g65 R T n H) (hm : m = 26 \/ m = 27) : St s gs p q g64 g65 R T n (Ab H m o) :=
 z.set (m := m) .set (.inr hm) AF (z.w.keep fun o e => sn (by exact xN hm) e)
theorem Ze {j : Int} (x : KT T H) (ok : Ck T ⟨4, j, none⟩ = true) (q : ∀ H', H'.length = H.length -> KT (FG T ⟨4, j, none⟩).1 H' -> Ay KL H H' -> k (.int ((FG T ⟨4, j, none⟩).2 : Int)) H') : CU [.loc 1, .int j] H k :=
 OM <| hk x.q <| DO (r := ⟨4, j, none⟩) x ok q
theorem qf (hp : p <= 2) (hq : q <= 1) (z : St s gs p q g64 g65 (RL p q 6) (A4 p q).1 28 H) (h26 : AB H 26 = some (.idict [])) (h27 : AB H 27 = some (.idict []))
  (k_ : ∀ f5 f6 f7 f8 H', St s gs p q g64 g65 (RL p q 7) (SV p q).1 28 H' -> AB H' 26 = some (.idict (PA p q (A5 p q).2 (A7 p q).2)) -> AB H' 27 = some (.idict (PA p q (A6 p q).2 (A8 p q).2)) -> uA (cw script gs f5 f6 f7 f8 none none none) H' (EP k)) :
  uB (Ur script gs (some (.loc 11))) H (EP k) := by
 have kn : ∀ {H H' : Hp} {n : Nat} {o : AO}, Ay KL H H' -> 7 <= n -> AB H n = some o -> AB H' n = some o := fun b h e => b.2 _ _ (Hv (by omega)) e
 refine Ak z.w (fun _ _ _ => rfl) rfl <| hk z.y.h17 <| hk z.x.q <| DO (r := ⟨2, 39, some [((K9 p).2 : Int)]⟩) z.x (ok5 p hp q hq) fun H1 l1 x1 b1 => ?_
 have z1 := z.put l1 x1 b1
 refine Ak z1.w (fun _ _ _ => rfl) rfl <| hk (kn b1 (by decide) h26) <| AK (show 0 < 100000 by decide) ?_
 have z2 := z1.seti (m := 26) (o := .idict [(((K9 p).2 : Int), nI (A5 p q).2)]) (.inl rfl)
 refine hk z2.x.q <| DO (r := ⟨2, 35, some [((K9 p).2 : Int)]⟩) z2.x (ok6 p hp q hq) fun H3 l3 x3 b3 => ?_
 have z3 := z2.put l3 x3 b3
 refine Ak z3.w (fun _ _ _ => rfl) rfl <| hk (kn b3 (by decide) (sn (by decide) (kn b1 (by decide) h27))) <| AK (show 0 < 100000 by decide) ?_
 have z4 := z3.seti (m := 27) (o := .idict [(((K9 p).2 : Int), nI (A6 p q).2)]) (.inr rfl)
 refine Ak z4.w (fun _ _ _ => rfl) rfl <| hk z4.y.h17 <| hk z4.x.q <| DO (r := ⟨2, 39, some [((NU p q).2 : Int)]⟩) z4.x (ok7 p hp q hq) fun H5 l5 x5 b5 => ?_
 have z5 := z4.put l5 x5 b5
 refine Ak z5.w (fun _ _ _ => rfl) rfl <| hk (kn b5 (by decide) (sn (by decide) (kn b3 (by decide) (C4 (kn b1 (by decide) h26))))) <| AK (show 1 < 100000 by decide) ?_
 have z6 := z5.seti (m := 26) (o := .idict (PA p q (A5 p q).2 (A7 p q).2)) (.inl rfl)
 refine hk z6.x.q <| DO (r := ⟨2, 36, some [((NU p q).2 : Int)]⟩) z6.x (ok8 p hp q hq) fun H7 l7 x7 b7 => ?_
 have z7 := z6.put l7 x7 b7
 refine Ak z7.w (fun _ _ _ => rfl) rfl <| hk (kn b7 (by decide) (sn (by decide) (kn b5 (by decide) (C4 (kn b3 (by decide) (sn (by decide) (kn b1 (by decide) h27))))))) <| AK (show 1 < 100000 by decide) ?_
 have z8 := z7.seti (m := 27) (o := .idict (PA p q (A6 p q).2 (A8 p q).2)) (.inr rfl)
 refine hk z8.x.q <| DO (r := ⟨3, 35, some [7]⟩) z8.x (ok9 p hp q hq) fun H9 l9 x9 b9 => hk x9.q <| DO (r := ⟨3, 39, some [9]⟩) x9 (tE p hp q hq) fun Ha la xa ba => hk xa.q <| DO (r := ⟨2, 37, some [7]⟩) xa (tD p hp q hq) fun Hb lb xb bb => ?_
 have zb := ((z8.put l9 x9 b9).put la xa ba).put lb xb bb
 refine Ak zb.w (fun _ _ _ => rfl) rfl <| Ak zb.w (fun _ _ _ => rfl) rfl <| Ze xb (tC p hp q hq) fun Hc lc xc bc => ?_
 have zc := zb.put lc xc bc
 have b8 := ((b9.trans ba).trans bb).trans bc
 refine Ak zc.w (fun _ _ _ => rfl) rfl <| Ak zc.w (fun _ _ _ => rfl) rfl <| Ak zc.w (fun _ _ _ => rfl) rfl <| Ak zc.w (fun _ _ _ => rfl) rfl <| Ak zc.w (fun _ _ _ => rfl) rfl <| Ak zc.w (fun _ _ _ => rfl) rfl <| KN (R' := RL p q 7) zc.w (fun _ _ _ => rfl) rfl fun Hd od wd ld => ?_
 exact k_ _ _ _ _ Hd (zc.set od (.inl rfl) ld wd) (od.2 _ _ (by decide) (kn b8 (by decide) (sn (by decide) (kn b7 (by decide) (C4 (kn b5 (by decide) (sn (by decide) (kn b3 (by decide) (C4 (kn b1 (by decide) h26)))))))))) (od.2 _ _ (by decide) (kn b8 (by decide) (C4 (kn b7 (by decide) (sn (by decide) (kn b5 (by decide) (C4 (kn b3 (by decide) (sn (by decide) (kn b1 (by decide) h27))))))))))
theorem Kk {l : Hp} {m : Nat} (hl : H.length = m) (n : Nat) : AB (H ++ l) (m + n) = AB l n := hl ▸ K7
theorem Zf (hl : H.length = 28) (q : ∀ H', H'.length = 37 -> AY H H' -> AB H' 28 = some (.inst 467 bZ) -> AB H' 29 = some (.list [.none]) -> AB H' 30 = some (.list [.none]) -> AB H' 31 = some (.idict []) -> AB H' 32 = some (.inst 397 ou) -> AB H' 33 = some (.list []) -> k (.loc 28) H') : FH [.loc 0, .int 1] H k :=
 eK <| by
  rw [hl]
  exact q _ ((List.length_append ..).trans (congrArg (· + 9) hl)) Aj (Kk hl 0) (Kk hl 1) (Kk hl 2) (Kk hl 3) (Kk hl 4) (Kk hl 5)
theorem Zh (hl : H.length = 37) (q : ∀ H', H'.length = 46 -> AY H H' -> AB H' 37 = some (.inst 544 (UZ (.loc 43) (.loc 44))) -> k (.loc 37) H') : B1 [.loc 1] H k :=
 eM <| by
  rw [hl]
  exact q _ ((List.length_append ..).trans (congrArg (· + 9) hl)) Aj (Kk hl 0)
theorem qe (hp : p <= 2) (hq : q <= 1) (z : St s gs p q g64 g65 (RL p q 7) (SV p q).1 28 H) (h26 : AB H 26 = some (.idict (PA p q (A5 p q).2 (A7 p q).2))) (h27 : AB H 27 = some (.idict (PA p q (A6 p q).2 (A8 p q).2)))
  (k_ : ∀ H', TI (Uq gs p q g64 g65) 0 (SV p q).1 [] [] H' -> t7 (cw script gs f5 f6 f7 f8 (some (.loc 28)) (some (.loc 46)) none) H' (EP k)) :
  uA (cw script gs f5 f6 f7 f8 none none none) H (EP k) := by
 refine Zf z.l fun H1 l1 k1 u28 u29 u30 u31 u32 u33 => Zh l1 fun H2 l2 k2 g37 => ?_
 have k0 : ∀ {n o}, n ∉ SB -> AB (YN s gs) n = some o -> AB H n = some o := z.b.2 _ _
 have ll : H2.length = 46 := l2
 refine eL (k2.2 _ _ u28) (k2.2 _ _ (k1.2 _ _ (k0 (by decide) rfl))) fun s_ l hl => ?_
 have k3 : AY H2 (H2 ++ some (.inst 906 (Ae.L s_)) :: l) := Aj
 have g46 : AB (H2 ++ some (.inst 906 (Ae.L s_)) :: l) 46 = some (.inst 906 (Ae.L s_)) := Kk l2 0
 have l3 : (H2 ++ some (.inst 906 (Ae.L s_)) :: l).length = 63 := by rw [List.length_append, l2, List.length_cons, hl]
 rw [l2]
 generalize H2 ++ some (.inst 906 (Ae.L s_)) :: l = H3 at *
 have K3 := (k1.trans k2).trans k3
 have kA : ∀ {n o}, AB H n = some o -> AB H3 n = some o := fun e => K3.2 _ _ e
 have kB : ∀ {n o}, AB H1 n = some o -> AB H3 n = some o := fun e => k3.2 _ _ (k2.2 _ _ e)
 have y := z.y.keep (H' := H3) fun n o _ e => kA e
 exact k_ H3 ⟨z.w.keep fun o e => kA e, z.x.keep fun n h1 h6 o e => kA e, (pd p hp q hq).2.2.2.2.2, y.tyH hp hq, Yz hp hq, ⟨_, g46⟩, ⟨_, _, k3.2 _ _ g37⟩, ⟨_, kA (k0 (by decide) rfl), rfl⟩, kB u28, ⟨_, kB u29, rfl⟩, ⟨[], kB u30, .nil⟩, kA (k0 (by decide) rfl), Nat.zero_le _, kA (k0 (by decide) rfl), kB u31, kA (k0 (by decide) rfl), kB u33, Nat.zero_le _, kB u32, Hy.nil, y.h17, y.tyW, kA h26, kA h27, cq hp hq, cv hp hq, Nat.le_of_eq l3.symm⟩
end
section
variable {T : Av} {H : Hp} {k : AV -> Hp -> Prop}
variable {script gs : List Int}
theorem mZ {n : Nat} : ∀ {x y : AV}, DE H n x y -> DE H (n + 1) x y := by
 induction n with
 | zero => exact fun h => .inl h
 | succ n ih => exact fun h => h.imp id (Or.imp (fun ⟨l, l', e, e', r⟩ => ⟨l, l', e, e', An.imp (fun _ _ => ih) r⟩) (Or.imp (fun ⟨l, l', e, e', r⟩ => ⟨l, l', e, e', An.imp (fun _ _ => ih) r⟩) id))
theorem ma {x y : AV} {n d : Nat} (h : DE H n x y) : DE H (n + d) x y := by
 induction d with
 | zero => exact h
 | succ d ih => exact mZ ih
theorem XZ {l : List AV} (h : ∀ x ∈ l, MR x) : YK H 30 l l := by
 induction l with
 | nil => exact .nil
 | cons x l ih =>
  obtain ⟨n, hn, d⟩ := h x (.head _) H
  have := ma d (d := 30 - n)
  rw [show n + (30 - n) = 30 by exact xJ hn] at this
  exact .cons this (ih fun y hy => h y (.tail _ hy))
noncomputable def tB1 : VS := (AG (Iw (Mr (BK (Ai (AA (vL 4) (AA (vL 10) (AA (AL (vL 11) (vC (.int 0)) Qv) AQ))) Cg))) (AG (Hs (vC (.bool false))) AS) AS) AS)
theorem Rh {C : LC} {n : Nat} {all : List AV} {f5 f6 f7 f8 f9 : Option AV} {K : Fl -> Ag -> Hp -> Prop} (c : C.Ok) {cc : Nat} : ∀ {i : Nat} {T : Av} {D : List AV} {vars : List Va} {H : Hp} {f11 : Option AV}, i + cc <= 8 -> TI C i T D vars H ->
  (∀ f11 j T D vars H', j <= 8 -> TI C j T D vars H' -> K .next (cw script gs f5 f6 f7 f8 f9 (some (.loc 46)) f11) H') ->
  CN (.rg n) (gN 11) tB1 all K (Mu i cc) (cw script gs f5 f6 f7 f8 f9 (some (.loc 46)) f11) H := by
 induction cc with
 | zero => exact fun h t q => q _ _ _ _ _ _ h t
 | succ cc ih => exact fun h t q => bQ c t (by omega) fun H' T' D' vars' t' => ih (by exact xI h) t' q
theorem ZA {B : Nat} {all : List AV} {k : List AV -> Hp -> Prop} {l : List AV} {vs : List Va} : ∀ {acc : List AV}, Hh H B l (vs.map Va.L) -> k (acc ++ vs.map Va.A) H ->
  FL (.fl all) U5 (Au (AA (AI 425 Ba (vL 0)) (AA (AI 425 DA (vL 0)) (AA (AI 425 CY (vL 0)) (AA (AI 425 Bc (vL 0)) (AA (AI 425 Kg (vL 0)) (AA (AI 425 Hl (vL 0)) AQ))))))) all [] k l acc H := by
 induction vs generalizing l with
 | nil =>
  intro acc h q
  cases h
  rw [List.map_nil, List.append_nil] at q
  exact q
 | cons v vs ih =>
  intro acc h q
  cases h with
  | cons h r =>
   obtain ⟨n, e, hb, g⟩ := h
   subst e
   refine hk g <| hk g <| hk g <| hk g <| hk g <| hk g <| ih (acc := acc ++ [v.A]) r ?_
   rw [List.append_assoc]
   exact q
theorem Zs {j : Nat} : Cq (ML j) := by
 refine ⟨?_, fun p hp => ?_⟩
 ·unfold ML
  rw [List.map_map]
  exact (List.nodup_range (n := j)).map (f := fun i : Nat => ((i + 1 : Nat) : Int)) fun a b h z => h (by have : ((a + 1 : Nat) : Int) = ((b + 1 : Nat) : Int) := z; omega)
 ·obtain ⟨i, hi, rfl⟩ := List.mem_map.mp hp
  exact JM
theorem fw {n : Nat} {l : List Va} : YK H (n + 1) (l.map Va.A) (l.map Va.A) := by
 induction l with
 | nil => exact .nil
 | cons v l ih => exact .cons (.tup (.cons (.str _) (.cons (.int _) (.cons (.int _) (.cons (.int _) (.cons (.int _) (.cons (.int _) .nil))))))) ih
theorem qc {C : LC} {j : Nat} {D : List AV} {vars : List Va} {f5 f6 f7 f8 f11 : Option AV} {K : Fl -> Ag -> Hp -> Prop} (c : C.Ok) (t : TI C j T D vars H) (hj : j <= 8) (q : ∀ F H', K (.ret (.bool true)) F H') :
  lw7 (cw script gs f5 f6 f7 f8 (some (.loc 28)) (some (.loc 46)) f11) H K := by
 obtain ⟨locs, g30, va⟩ := t.v
 obtain ⟨fns, g29, lf⟩ := t.f
 have vl := t.vl
 have ll : locs.length = vars.length := va.length.trans (List.length_map ..)
 have dl := t.dl
 refine hk t.u <| hk g30 <| AK (by rw [List.length_cons]; exact xH ll vl hj) <| AK (show locs.length < 100000 by omega) <| ZA (acc := []) va ?_
 have ml : (ML j).length = j := (List.length_map ..).trans List.length_range
 refine Ak t.w (fun _ _ _ => rfl) c.vars ⟨⟨1, _, _, by decide, .inr ⟨rfl, DW t.vv⟩, fw⟩, ?_⟩
 refine hk t.u <| Ak t.w (fun _ _ _ => rfl) c.mids <| VY t.m' t.m Zs <| hk t.u <| hk g29 <| AK (by omega) <| Ak t.w (fun _ _ _ => rfl) c.mids <| hk t.m <| AK (by omega) <| bF (mu (by exact xG ml lf)) <| hk t.u <| hk t.dg <| Ak t.w (fun _ _ _ => rfl) c.told ⟨⟨30, _, _, by decide, .inr ⟨DW t.d', DW t.d⟩, XZ t.dr⟩, q _ _⟩
theorem mY {m c d e : Int} {F : Ag} (h0 : 0 < c) (h1 : Fq m) (h2 : Fq c) (h : d + m / c = e) (q : k (.int e) H) : lK (vC (.int c)) cW F (aS (.int d) HK k) (.int m) H := by
 subst h
 exact Ei (dv h0 h1 h2) q
theorem qd {C : LC} {T : Av} {f5 f6 f7 f8 : Option AV} {K : Fl -> Ag -> Hp -> Prop} (c : C.Ok) (lg : gs.length <= 40) (t : TI C 0 T [] [] H) (q : ∀ F H', K (.ret (.bool true)) F H') :
  t7 (cw script gs f5 f6 f7 f8 (some (.loc 28)) (some (.loc 46)) none) H K := by
 have e : (gs.map AV.int).length = gs.length := List.length_map ..
 have h1 : (gs.map AV.int).length < 100000 := by omega
 refine AK h1 ?_
 generalize hm : ((gs.map AV.int).length : Int) = m
 have h8 : 3 + gs.length / 12 < 9 := by exact xE lg
 refine mY (e := ((3 + gs.length / 12 : Nat) : Int)) (by decide) (show Fq m by unfold Fq; exact xD h1 hm) (show Fq 12 by decide) (by exact xC e hm) <| HT rfl (by omega) <| Rh c (i := 0) (by exact xB h8) t fun f11 j T D vars H' hj t' => qc c t' hj q
theorem hlaw (l : List Int) (hl : l.length <= 63) : Ig [.lst (l.map .int)] [] (fun r _ => r = .bool true) := by
 refine qk hl fun gs hg => qj hg fun s H0 l0 b0 w0 x0 => qi l0 b0 w0 x0 fun p q g64 g65 H1 hp hq l1 b1 w1 x1 y1 => qg hp hq ⟨l1, b1.mono fun n h => .tail _ (.tail _ h), w1, x1, y1⟩ fun H2 z2 h26 h27 => qf hp hq z2 h26 h27 fun f5 f6 f7 f8 H3 z3 h26 h27 => qe hp hq z3 h26 h27 fun H4 t => ?_
 have c := cu (gs := gs) (g64 := g64) (g65 := g65) hp hq hg
 exact qd c hg t fun F H' => rfl
end
end Lw
end
end
theorem PySem.Challenge.cw_tn0014_01_holds : PySem.Challenge.rw_tn0014_01.Holds :=
 Wk.join fun l h => Lw.hlaw l h
