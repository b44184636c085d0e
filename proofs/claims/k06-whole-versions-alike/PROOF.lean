import PyProof.Rows.All
import Wide.All
import OpenK.AllK
import Wide.FinOn
import HandS.ForMost
import HandS.ForExc
import HandS.CallSlots
import HandS.Deep
import HandS.Walk
import HandS.IsInst
import HandS.ExcInit
import HandS.Conv
import HandS.Star
import HandS.ExcField
import HandS.TupLen
import KE.GoesMore
import HandS.SortInts
import HandS.DictComp
import HandS.ExcIs
import PySem.Challenge.RW_lotmarks_k06_whole_versions_alike
set_option Elab.async false
set_option linter.all false
set_option maxRecDepth 100000
set_option maxHeartbeats 4000000
namespace Lf
open PySem PySem.Spec L2
/-! ### keys (k,) and (k, (k1, ..)) -/
abbrev NKey := Key × Option (List Key)
section
variable {P : Program} {w : World}
/-- the items of such a key -/
def NIt (P : Program) (w : World) (h : Heap) : NKey → List Value → Prop
  | (k, none), vs => ∃ v, vs = [v] ∧ (mixKind P w).is k v = true
  | (k, some ks), vs => ∃ v b, vs = [v, .ref b] ∧ (mixKind P w).is k v = true ∧ IsTupleKey (mixKind P w) h ks b
def NIs (P : Program) (w : World) (h : Heap) (k : NKey) (a : Addr) : Prop := ∃ ob its m, h.get? a = some ob ∧ ob.cls = .type "tuple" ∧ ob.data = .seq its m ∧ NIt P w h k its.toList
theorem NIt.uniq {h : Heap} {x y : NKey} {vs : List Value} (hx : NIt P w h x vs) (hy : NIt P w h y vs) : x = y := by
  obtain ⟨k, o⟩ := x
  obtain ⟨j, p⟩ := y
  cases o with
  | none =>
    obtain ⟨v, rfl, h1⟩ := hx
    cases p with
    | none =>
      obtain ⟨u, e, h2⟩ := hy
      cases e
      rw [(mixKind P w).inj _ _ _ h1 h2]
    | some js => obtain ⟨u, b, e, _⟩ := hy; cases e
  | some ks =>
    obtain ⟨v, a, rfl, h1, t1⟩ := hx
    cases p with
    | none => obtain ⟨u, e, _⟩ := hy; cases e
    | some js =>
      obtain ⟨u, b, e, h2, t2⟩ := hy
      cases e
      rw [(mixKind P w).inj _ _ _ h1 h2, t1.inj t2]
theorem NIs.type {s : Shared} {k : NKey} {a : Addr} (x : NIs P w s.heap k a) : s.TypeIs (.ref a) "tuple" := let ⟨ob, _, _, h1, h2, _⟩ := x; ⟨ob, h1, h2⟩
theorem NIs.uniq {h : Heap} {x y : NKey} {a : Addr} (hx : NIs P w h x a) (hy : NIs P w h y a) : x = y := by
  obtain ⟨ob, its, m, h1, _, h2, h3⟩ := hx
  obtain ⟨ob', its', m', g1, _, g2, g3⟩ := hy
  cases (Option.some.inj (h1.symm.trans g1) : ob = ob')
  rw [h2] at g2
  injection g2 with e1 _
  subst e1
  exact h3.uniq g3
theorem NIs.stay {h h' : Heap} {k : NKey} {a d : Addr} {ob : Obj} {es ep} (x : NIs P w h k a) (ho : h.get? d = some ob) (hd : ob.data = .dict es ep) (hs : Heap.SameBut d h h') : NIs P w h' k a := by
  obtain ⟨oa, its, m, h1, h2, h3, h4⟩ := x
  have ne : a ≠ d := fun z => by
    subst z
    cases (Option.some.inj (h1.symm.trans ho) : oa = ob)
    rw [hd] at h3
    exact nomatch h3
  refine ⟨oa, its, m, (hs.2 a ne).trans h1, h2, h3, ?_⟩
  obtain ⟨j, o⟩ := k
  cases o with
  | none => exact h4
  | some ks =>
    obtain ⟨v, b, e, g1, g2⟩ := h4
    exact ⟨v, b, e, g1, g2.keeps ho hd hs⟩
def nHash (w : World) : NKey → Int
  | (k, none) => reduceHash (Builtin.Tuple.tupleHashOf [keyH w k])
  | (k, some ks) => reduceHash (Builtin.Tuple.tupleHashOf [keyH w k, reduceHash (Builtin.Tuple.tupleHashOf (ks.map (keyH w)))])
def nDraw : NKey → Nat
  | (_, none) => 2
  | (_, some ks) => ks.length + 3
variable {A : Around} {E : Value → Shared → Prop} {s : Shared}
/-- v hashes to p.1 with p.2 draws -/
def HasH (P : Program) (w : World) (A : Around) (h : Heap) (v : Value) (p : Int × Nat) : Prop := ∀ (E : Value → Shared → Prop) (s : Shared) (Q : Int → Shared → Prop), s.heap = h → Q p.1 { s with toks := s.toks + p.2 } → wpAny (model P w) A (pyHash v) Q E s
theorem hash_tup {a : Addr} {ob : Obj} {its : Array Value} {m} {ps : List (Int × Nat)} {Q : Int → Shared → Prop} (hu : A.units < cLine) (h1 : s.heap.get? a = some ob) (h2 : ob.cls = .type "tuple") (h3 : ob.data = .seq its m) (hi : Paired (HasH P w A.in1 s.heap) its.toList ps)
    (hq : Q (reduceHash (Builtin.Tuple.tupleHashOf (ps.map (·.1)))) { s with toks := s.toks + ((ps.map (·.2)).sum + 1) }) : wpAny (model P w) A (pyHash (.ref a)) Q E s := by
  have ty : s.TypeIs (.ref a) "tuple" := ⟨ob, h1, h2⟩
  unfold pyHash
  first | unfold pyHashByItsType | skip
  first | refine wpAny_bind (wpAny_cRoomFor_or (Or.inr hu) ?_) | skip
  refine wpAny_bind (wpAny_specialOf ty F.slot_tuple_hash.lookup ?_)
  show wpAny _ _ (ite ((some (Value.builtin "tuple.__hash__") == some Value.none) = true) _ _) Q E s
  rw [if_neg (by rw [beq_builtin_none]; exact Bool.false_ne_true)]
  refine wpAny_bind (wpAny_specialOf ty F.slot_tuple_hash.lookup ?_)
  show wpAny _ _ (bind (callSpecialIfBoundUnlessNone? (.ref a) "__hash__" _) _) Q E s
  refine wpAny_bind (wpAny_callSpecialIfBoundUnlessNone?_slot ty F.slot_tuple_hash (wpAny_call_entry F.slot_tuple_hash ty F.entry_tuple_hash ?_ (F.args_tuple_hash_1 _)))
  show wpAny _ _ (bind (Builtin.Tuple.tupleItemsOf (.ref a)) _) _ _ s
  refine wpAny_bind (wpAny_tupleItemsOf h1 h3 ?_)
  refine wpAny_bind ?_
  rw [← Array.forIn_toList]
  refine wpAny_forIn_list _ (fun rest (b : Array Int) s' => ∃ dn lf, ps = dn ++ lf ∧ Paired (HasH P w A.in1 s.heap) rest lf ∧ b.toList = dn.map (·.1) ∧ s' = { s with toks := s.toks + (dn.map (·.2)).sum }) _ ?_ ?_ _ _ ⟨[], ps, rfl, hi, rfl, rfl⟩
  · rintro x rest b s' ⟨dn, lf, rfl, hl, hb, rfl⟩
    cases hl with
    | @cons _ p _ lf' g1 hl' =>
      refine wpAny_bind (g1 _ _ _ rfl ?_)
      have fin : ∃ dn' lf'', dn ++ p :: lf' = dn' ++ lf'' ∧ Paired (HasH P w A.in1 s.heap) rest lf'' ∧ (b.push p.1).toList = dn'.map (·.1) ∧ ({ ({ s with toks := s.toks + (dn.map (·.2)).sum } : Shared) with toks := s.toks + (dn.map (·.2)).sum + p.2 } : Shared) = { s with toks := s.toks + (dn'.map (·.2)).sum } :=
        ⟨dn ++ [p], lf', by simp, hl', by simp [hb], by simp [Nat.add_assoc]⟩
      first
        | exact wpAny_pure fin
        | exact wpAny_bind (wpAny_pure (wpAny_pure fin))
  · rintro b s' ⟨dn, lf, rfl, hl, hb, rfl⟩
    cases hl
    rw [List.append_nil] at hq
    show wpAny _ _ (retInt (Builtin.Tuple.tupleHashOf b.toList)) _ _ _
    rw [hb]
    refine wpAny_ret_mkInt ?_
    generalize Builtin.Tuple.tupleHashOf (dn.map (·.1)) = z at hq
    show wpAny _ _ (ite ((decide (-(2 : Int) ^ 63 ≤ z) && decide (z < 2 ^ 63)) = true) _ _) Q E _
    unfold reduceHash at hq
    by_cases hr : (decide (-(2 : Int) ^ 63 ≤ z) && decide (z < 2 ^ 63)) = true
    · rw [if_pos hr] at hq ⊢
      exact wpAny_pure (by simpa [Nat.add_assoc] using hq)
    · rw [if_neg hr] at hq ⊢
      exact wpAny_bind (wpAny_rule (wpAny_pure (by simpa [Nat.add_assoc] using hq)))
theorem hash_val {h : Heap} {k : Key} {v : Value} (e : (mixKind P w).is k v = true) : HasH P w A h v ((mixKind P w).hash k, 1) := fun E s Q _ hq => (mixKind P w).pyHash e hq
theorem hash_key {h : Heap} {ks : List Key} {b : Addr} (hu : A.units < cLine) (e : IsTupleKey (mixKind P w) h ks b) : HasH P w A h (.ref b) (tupleKeyHash (mixKind P w) ks, ks.length + 1) := fun E s Q z hq => wpAny_pyHash_tuple hu (z ▸ e) hq
theorem hash_nest {k : NKey} {a : Addr} {Q : Int → Shared → Prop} (hu : A.units + 1 < cLine) (x : NIs P w s.heap k a) (hq : Q (nHash w k) { s with toks := s.toks + nDraw k }) : wpAny (model P w) A (pyHash (.ref a)) Q E s := by
  obtain ⟨ob, its, m, h1, h2, h3, h4⟩ := x
  obtain ⟨j, o⟩ := k
  cases o with
  | none =>
    obtain ⟨v, e, g1⟩ := h4
    exact hash_tup (ps := [((mixKind P w).hash j, 1)]) (by omega) h1 h2 h3 (by rw [e]; exact .cons (hash_val g1) .nil) (by simpa [nDraw, nHash, mixKind] using hq)
  | some ks =>
    obtain ⟨v, b, e, g1, g2⟩ := h4
    exact hash_tup (ps := [((mixKind P w).hash j, 1), (tupleKeyHash (mixKind P w) ks, ks.length + 1)]) (by omega) h1 h2 h3 (by rw [e]; exact .cons (hash_val g1) (.cons (hash_key (show A.units + 1 < cLine from hu) g2) .nil)) (by
      have e2 : 1 + (ks.length + 1) + 1 = ks.length + 3 := by omega
      simpa [nDraw, nHash, e2, mixKind, tupleKeyHash] using hq)
/-- u == v comes to d -/
def HasE (P : Program) (w : World) (A : Around) (h : Heap) (u v : Value) (d : Bool) : Prop := ∀ (E : Value → Shared → Prop) (s : Shared) (Q : Bool → Shared → Prop), s.heap = h → Q d s → wpAny (model P w) A (eqBool u v) Q E s
/-- the items of two tuples compared: as far as both reach -/
inductive EqIts (P : Program) (w : World) (A : Around) (h : Heap) : List Value → List Value → Bool → Prop
  | nn : EqIts P w A h [] [] true
  | nc {v : Value} {vs : List Value} : EqIts P w A h [] (v :: vs) false
  | cn {v : Value} {vs : List Value} : EqIts P w A h (v :: vs) [] false
  | ne {u v : Value} {us vs : List Value} : HasE P w A h u v false → EqIts P w A h (u :: us) (v :: vs) false
  | eq {u v : Value} {us vs : List Value} {d : Bool} : HasE P w A h u v true → EqIts P w A h us vs d → EqIts P w A h (u :: us) (v :: vs) d
theorem eq_tree {a b : Addr} {oa ob : Obj} {xs ys : Array Value} {na nb} {d : Bool} {Z : Fin → Shared → Prop} (ga : s.heap.get? a = some oa) (da : oa.data = .seq xs na) (tb : s.TypeIs (.ref b) "tuple") (gb : s.heap.get? b = some ob) (db : ob.data = .seq ys nb)
    (hi : EqIts P w A s.heap xs.toList ys.toList d) (hq : Z (.done (.ret (.bool d))) s) : wpAny (model P w) A (Builtin.«tuple.__eq__» ⟨[.ref a, .ref b], []⟩) Z E s := by
  show wpAny _ _ (bind (isInstance (.ref b) (.type "tuple")) _) _ _ s
  refine wpAny_bind (wpAny_isInstance tb isSubtype_tuple_tuple ?_)
  simp only [Bool.not_true, Bool.false_eq_true, if_false]
  refine wpAny_bind (wpAny_tupleItemsOf ga da ?_)
  refine wpAny_bind (wpAny_tupleItemsOf gb db ?_)
  refine wpAny_bind ?_
  refine wpAny_forIn_list _ (fun rest r s' => r.1 = none ∧ s' = s ∧ ∃ us vs, rest = List.zip us vs ∧ EqIts P w A s.heap us vs d ∧ (us.length == vs.length) = (xs.size == ys.size)) _ ?_ ?_ _ _ ⟨rfl, rfl, xs.toList, ys.toList, rfl, hi, by simp⟩
  · rintro ⟨u, v⟩ rest r s' ⟨hr, rfl, us, vs, hz, hE, hl⟩
    cases hE with
    | nn => cases hz
    | nc => cases hz
    | cn => cases hz
    | @ne u' v' us' vs' he =>
      simp only [List.zip_cons_cons, List.cons.injEq, Prod.mk.injEq] at hz
      obtain ⟨⟨rfl, rfl⟩, rfl⟩ := hz
      refine wpAny_bind (he _ _ _ rfl ?_)
      simp only [Bool.not_false, if_true]
      exact wpAny_bind (wpAny_pure (wpAny_pure (wpAny_pure hq)))
    | @eq u' v' us' vs' _ he ht =>
      simp only [List.zip_cons_cons, List.cons.injEq, Prod.mk.injEq] at hz
      obtain ⟨⟨rfl, rfl⟩, rfl⟩ := hz
      refine wpAny_bind (he _ _ _ rfl ?_)
      simp only [Bool.not_true, Bool.false_eq_true, if_false]
      exact wpAny_pure ⟨rfl, rfl, us', vs', rfl, ht, by simpa using hl⟩
  · rintro ⟨r1, r2⟩ s' ⟨hr, rfl, us, vs, hz, hE, hl⟩
    simp only at hr
    subst hr
    refine wpAny_pure ?_
    have fin : (xs.size == ys.size) = d := by
      rw [← hl]
      cases hE with
      | nn => rfl
      | nc => rfl
      | cn => rfl
      | ne _ => cases hz
      | eq _ _ => cases hz
    show Z (.done (.ret (.bool (xs.size == ys.size)))) s'
    rw [fin]
    exact hq
theorem eq_val {h : Heap} {k j : Key} {u v : Value} (e1 : (mixKind P w).is k u = true) (e2 : (mixKind P w).is j v = true) : HasE P w A h u v (decide (k = j)) := fun E s Q _ hq => (mixKind P w).eqBool e1 e2 hq
theorem eq_key {h : Heap} {ks js : List Key} {a b : Addr} (hu : A.units < cLine) (e1 : IsTupleKey (mixKind P w) h ks a) (e2 : IsTupleKey (mixKind P w) h js b) : HasE P w A h (.ref a) (.ref b) (decide (ks = js)) := fun E s Q z hq => wpAny_eqBool_tuple hu (z ▸ e1) (z ▸ e2) hq
theorem eq_its {h : Heap} {x y : NKey} {us vs : List Value} (hu : A.units < cLine) (hx : NIt P w h x us) (hy : NIt P w h y vs) : EqIts P w A h us vs (decide (x = y)) := by
  obtain ⟨k, o⟩ := x
  obtain ⟨j, p⟩ := y
  have first : ∀ {u v : Value} {us vs : List Value} {d : Bool}, (mixKind P w).is k u = true → (mixKind P w).is j v = true → (k = j → EqIts P w A h us vs (decide (((k, o) : NKey) = (j, p)))) → EqIts P w A h (u :: us) (v :: vs) (decide (((k, o) : NKey) = (j, p))) := by
    intro u v us vs d h1 h2 h3
    by_cases e : k = j
    · have q := eq_val (A := A) (h := h) h1 h2
      rw [decide_eq_true e] at q
      exact .eq q (h3 e)
    · have q := eq_val (A := A) (h := h) h1 h2
      rw [decide_eq_false e] at q
      rw [decide_eq_false (fun z => e (by cases z; rfl))]
      exact .ne q
  cases o with
  | none =>
    obtain ⟨u, rfl, h1⟩ := hx
    cases p with
    | none =>
      obtain ⟨v, rfl, h2⟩ := hy
      refine first (d := true) h1 h2 fun e => ?_
      rw [decide_eq_true (by rw [e])]
      exact .nn
    | some js =>
      obtain ⟨v, b, rfl, h2, _⟩ := hy
      refine first (d := true) h1 h2 fun e => ?_
      rw [decide_eq_false (fun z => by cases z)]
      exact .nc
  | some ks =>
    obtain ⟨u, a, rfl, h1, t1⟩ := hx
    cases p with
    | none =>
      obtain ⟨v, rfl, h2⟩ := hy
      refine first (d := true) h1 h2 fun e => ?_
      rw [decide_eq_false (fun z => by cases z)]
      exact .cn
    | some js =>
      obtain ⟨v, b, rfl, h2, t2⟩ := hy
      refine first (d := true) h1 h2 fun e => ?_
      have q := eq_key (A := A) hu t1 t2
      by_cases e2 : ks = js
      · rw [decide_eq_true e2] at q
        rw [decide_eq_true (by rw [e, e2])]
        exact .eq q .nn
      · rw [decide_eq_false e2] at q
        rw [decide_eq_false (fun z => by cases z; exact e2 rfl)]
        exact .ne q
theorem eq_nest {x y : NKey} {a b : Addr} {Q : Bool → Shared → Prop} (hu : A.units + 1 < cLine) (hx : NIs P w s.heap x a) (hy : NIs P w s.heap y b) (hq : Q (decide (x = y)) s) : wpAny (model P w) A (eqBool (.ref a) (.ref b)) Q E s := by
  unfold eqBool
  try with_reducible refine wpAny_holding ?_
  show wpAny _ _ (ite ((Value.ref a == Value.ref b) = true) _ _) Q E s
  by_cases hab : (Value.ref a == Value.ref b) = true
  · rw [if_pos hab]
    have e : a = b := by have := eq_of_beq hab; injection this
    subst e
    obtain rfl := hx.uniq hy
    exact wpAny_bind (wpAny_rule (wpAny_pure (by simpa using hq)))
  · rw [if_neg hab]
    have tb := hy.type
    have ta := hx.type
    obtain ⟨oa, xs, na, ga, _, da, ia⟩ := hx
    obtain ⟨ob, ys, nb, gb, _, db, ib⟩ := hy
    exact wpAny_bind (wpAny_richCompare_same_room (op := .Eq) ta tb F.slot_tuple_eq (wpAny_call_entry F.slot_tuple_eq ta F.entry_tuple_eq (eq_tree ga da tb gb db (eq_its (by first | exact hu | exact Nat.lt_of_succ_lt hu) ia ib) ⟨_, rfl, (fun z => nomatch z), wpAny_truthy_bool hq⟩) (F.args_tuple_eq_2 _ _)) (Nat.lt_of_succ_lt hu))
/-- a == of a tuple of values is quiet, for any fuel -/
theorem quiet_key {n : Nat} {ks : List Key} {a : Addr} {Q : Bool → Shared → Prop} (x : IsTupleKey (mixKind P w) s.heap ks a) (hq : Q true s) : wpAny (model P w) A (eqIsQuiet (n + 1) (.ref a)) Q E s := by
  have ty := x.typeIs
  obtain ⟨ob, its, m, h1, _, h3, h4⟩ := x
  unfold eqIsQuiet
  refine wpAny_bind (wpAny_specialOf ty F.slot_tuple_eq.lookup ?_)
  show wpAny _ _ (bind (isInstance (.ref a) (.type "tuple")) _) _ _ s
  refine wpAny_bind (wpAny_isInstance ty isSubtype_tuple_tuple ?_)
  simp only [Bool.not_true, Bool.false_eq_true, if_false]
  refine wpAny_bind (wpAny_seqItems h1 h3 ?_)
  refine wpAny_bind ?_
  show wpAny _ _ (forIn its _ _) _ _ s
  rw [← Array.forIn_toList]
  refine wpAny_forIn_list _ (fun rest r s' => r.1 = none ∧ s' = s ∧ ∀ v ∈ rest, carriedByValue v = true) _ ?_ ?_ _ _ ⟨rfl, rfl, h4.byValue⟩
  · rintro v rest r s' ⟨_, rfl, all⟩
    rw [eqIsQuiet_byValue _ (all v List.mem_cons_self)]
    refine wpAny_bind (wpAny_pure ?_)
    simp only [Bool.not_true, Bool.false_eq_true, if_false]
    exact wpAny_pure ⟨rfl, rfl, fun u hm => all u (List.mem_cons_of_mem _ hm)⟩
  · rintro ⟨r1, r2⟩ s' ⟨hr, rfl, _⟩
    simp only at hr
    subst hr
    exact wpAny_pure hq
theorem quiet_nest {k : NKey} {a : Addr} {Q : Bool → Shared → Prop} (x : NIs P w s.heap k a) (hq : Q true s) : wpAny (model P w) A (eqIsQuiet 8 (.ref a)) Q E s := by
  have ty := x.type
  obtain ⟨ob, its, m, h1, _, h3, h4⟩ := x
  have qs : ∀ v ∈ its.toList, ∀ (E : Value → Shared → Prop) (Q : Bool → Shared → Prop), Q true s → wpAny (model P w) A (eqIsQuiet 7 v) Q E s := by
    obtain ⟨j, o⟩ := k
    cases o with
    | none =>
      obtain ⟨v, e, g1⟩ := h4
      intro u hm E Q q
      rw [e] at hm
      have : u = v := by simpa using hm
      rw [this, eqIsQuiet_byValue _ ((mixKind P w).byValue _ _ g1)]
      exact wpAny_pure q
    | some ks =>
      obtain ⟨v, b, e, g1, g2⟩ := h4
      intro u hm E Q q
      rw [e] at hm
      rcases List.mem_cons.mp hm with rfl | hm
      · rw [eqIsQuiet_byValue _ ((mixKind P w).byValue _ _ g1)]
        exact wpAny_pure q
      · have : u = .ref b := by simpa using hm
        rw [this]
        exact quiet_key g2 q
  unfold eqIsQuiet
  refine wpAny_bind (wpAny_specialOf ty F.slot_tuple_eq.lookup ?_)
  show wpAny _ _ (bind (isInstance (.ref a) (.type "tuple")) _) _ _ s
  refine wpAny_bind (wpAny_isInstance ty isSubtype_tuple_tuple ?_)
  simp only [Bool.not_true, Bool.false_eq_true, if_false]
  refine wpAny_bind (wpAny_seqItems h1 h3 ?_)
  refine wpAny_bind ?_
  show wpAny _ _ (forIn its _ _) _ _ s
  rw [← Array.forIn_toList]
  refine wpAny_forIn_list _ (fun rest r s' => r.1 = none ∧ s' = s ∧ ∀ v ∈ rest, v ∈ its.toList) _ ?_ ?_ _ _ ⟨rfl, rfl, fun _ hm => hm⟩
  · rintro v rest r s' ⟨_, rfl, all⟩
    refine wpAny_bind (qs v (all v List.mem_cons_self) _ _ ?_)
    simp only [Bool.not_true, Bool.false_eq_true, if_false]
    exact wpAny_pure ⟨rfl, rfl, fun u hm => all u (List.mem_cons_of_mem _ hm)⟩
  · rintro ⟨r1, r2⟩ s' ⟨hr, rfl, _⟩
    simp only at hr
    subst hr
    exact wpAny_pure hq
end
def nestKind (P : Program) (w : World) : HeapKind P w NKey where
  is := NIs P w
  hash := nHash w
  draws := nDraw
  room := fun A => A.units + 1 < cLine
  inj := fun hx hy => hx.uniq hy
  keeps := fun x ho hd hs => x.stay ho hd hs
  pyHash := fun hu hk hq => hash_nest hu hk hq
  eqBool := fun hu hx hy hq => eq_nest hu hx hy hq
  quiet := fun hk hq => quiet_nest hk hq
/-- a dict with such keys: its one object -/
def DNo (W : World) (a : Addr) (xs : List (NKey × Addr × Value)) : HO := .ext fun h => (a == sysModules) = false ∧ (xs.map (·.1)).Nodup ∧ ∃ o es ep, h.get? a = some o ∧ o.ExactDict ∧ o.data = .dict es ep ∧ es.toList = xs.map fun q => ⟨nHash W q.1, .ref q.2.1, q.2.2⟩
/-- the key stands at b -/
def KeyIn (G : Hp) (b : Addr) : NKey → Prop
  | (j, none) => G b = some (.tup [kV j])
  | (j, some ks) => ∃ c, G b = some (.tup [kV j, .ref c]) ∧ G c = some (.tup (ks.map kV))
theorem KeyIn.mono {G G' : Hp} {b : Addr} (sg : Same G G') : ∀ {k : NKey}, KeyIn G b k → KeyIn G' b k
  | (_, none), h => sg _ _ h
  | (_, some _), ⟨c, h1, h2⟩ => ⟨c, sg _ _ h1, sg _ _ h2⟩
def NvR (G : Hp) (p : NKey × Int) (q : NKey × Addr × Value) : Prop := p.1 = q.1 ∧ KeyIn G q.2.1 p.1 ∧ ∃ tk, q.2.2 = .int p.2 tk
theorem NvR.mono {G G' : Hp} (sg : Same G G') {p : NKey × Int} {q : NKey × Addr × Value} (h : NvR G p q) : NvR G' p q := ⟨h.1, h.2.1.mono sg, h.2.2⟩
/-- the names of the classes, the world -/
structure Cl where
  f : Str → Option Addr
  W : World
instance : CoeFun Cl (fun _ => Str → Option Addr) := ⟨Cl.f⟩
end Lf
namespace Lf
open PySem PySem.Spec L2

/-! ### plain data -/
inductive T where
  | non | bl (b : Bool) | int (i : Int) | str (x : Str)
  | lst (xs : List T) | tup (xs : List T) | fro (xs : List T)
  | dic (kvs : List (Key × T)) | dit (kvs : List (List Key × T))
  | obj (c : Str) (fs : List (Str × T))

/-- what an own slot holds -/
inductive Own where
  | lst (xs : List T) | dic (lk : Bool) (kvs : List (Key × T)) | dit (lk : Bool) (kvs : List (List Key × T))
def Own.tree : Own → T
  | .lst xs => .lst xs
  | .dic _ kvs => .dic kvs
  | .dit _ kvs => .dit kvs
def Own.open : Own → Bool
  | .lst _ => true
  | .dic l _ => !l
  | .dit l _ => !l

/-- a value: a plain one, a cell of the store, an own slot that is lent -/
inductive Val where
  | t (x : T) | loc (n : Nat) | sl (i : Nat)
inductive Slot where
  | t (x : T) | loc (n : Nat) | own (o : Own) | exc (c : Str) (fs : List (Str × T))
/-- a field or an item of a cell -/
inductive Fv where
  | t (x : T) | loc (n : Nat)
def Fv.val : Fv → Val
  | .t x => .t x
  | .loc n => .loc n
inductive Cell where
  | lst (xs : List Fv) | dic (lk : Bool) (kvs : List (Key × Fv)) | dit (lk : Bool) (kvs : List (List Key × Fv)) | dnn (kvs : List (NKey × Int)) | ins (c : Str) (fs : List (Str × Fv)) | fz (x : T) | dead

structure DSt where
  δ : List (Option Slot)
  μ : List Cell
inductive Out (α : Type) where
  | ok (a : α) | exc (c : Str) (fs : List (Str × T))
def M (α : Type) := DSt → Option (Out α × DSt)
def ret {α : Type} (a : α) : M α := fun s => some (.ok a, s)
def bnd {α β : Type} (x : M α) (k : α → M β) : M β := fun s =>
  match x s with
  | none => none
  | some (.exc c fs, s1) => some (.exc c fs, s1)
  | some (.ok a, s1) => k a s1
def stuck {α : Type} : M α := fun _ => none
def raise {α : Type} (c : Str) (fs : List (Str × T)) : M α := fun s => some (.exc c fs, s)
theorem bnd_some {α β : Type} {x : M α} {k : α → M β} {s s' : DSt} {o : Out β} (h : bnd x k s = some (o, s')) :
    (∃ c fs, x s = some (.exc c fs, s') ∧ o = .exc c fs) ∨ ∃ a s1, x s = some (.ok a, s1) ∧ k a s1 = some (o, s') := by
  unfold bnd at h
  cases e : x s with
  | none => rw [e] at h; cases h
  | some p =>
    obtain ⟨q, s1⟩ := p
    rw [e] at h
    cases q with
    | exc c fs =>
      cases h
      exact .inl ⟨c, fs, rfl, rfl⟩
    | ok a => exact .inr ⟨a, s1, rfl, h⟩

/-! ### plain data in the heap -/
mutual
inductive Rep (K : PySem.W.Frag) (cl : Cl) (G : Hp) : T → V → Prop
  | non : Rep K cl G .non .non
  | bl (b : Bool) : Rep K cl G (.bl b) (.bl b)
  | int (i : Int) : Rep K cl G (.int i) (.int i)
  | str (x : Str) : Rep K cl G (.str x) (.str x)
  | lst {a : Addr} {xs : List V} {ts : List T} : G a = some (.lst xs) → Reps K cl G ts xs → Rep K cl G (.lst ts) (.ref a)
  | fro {a : Addr} {xs : List V} {ts : List T} : SqL K G a xs → Reps K cl G ts xs → Rep K cl G (.fro ts) (.ref a)
  | tup {a : Addr} {xs : List V} {ts : List T} : G a = some (.tup xs) → Reps K cl G ts xs → Rep K cl G (.tup ts) (.ref a)
  | dic {a : Addr} {kvs : List (Key × V)} {ts : List (Key × T)} : G a = some (.dK kvs) → RepD K cl G ts kvs → Rep K cl G (.dic ts) (.ref a)
  | dit {a : Addr} {kvs : List (List Key × V)} {ts : List (List Key × T)} : G a = some (.dT kvs) → RepE K cl G ts kvs → Rep K cl G (.dit ts) (.ref a)
  | obj {a C dx : Addr} {c : Str} {fs : List (Str × V)} {ts : List (Str × T)} : cl c = some C → G a = some (.ins C dx fs) → RepF K cl G ts fs → Rep K cl G (.obj c ts) (.ref a)
inductive Reps (K : PySem.W.Frag) (cl : Cl) (G : Hp) : List T → List V → Prop
  | nil : Reps K cl G [] []
  | cons {t : T} {v : V} {ts : List T} {vs : List V} : Rep K cl G t v → Reps K cl G ts vs → Reps K cl G (t :: ts) (v :: vs)
inductive RepD (K : PySem.W.Frag) (cl : Cl) (G : Hp) : List (Key × T) → List (Key × V) → Prop
  | nil : RepD K cl G [] []
  | cons {k : Key} {t : T} {v : V} {ts : List (Key × T)} {vs : List (Key × V)} : Rep K cl G t v → RepD K cl G ts vs → RepD K cl G ((k, t) :: ts) ((k, v) :: vs)
inductive RepE (K : PySem.W.Frag) (cl : Cl) (G : Hp) : List (List Key × T) → List (List Key × V) → Prop
  | nil : RepE K cl G [] []
  | cons {k : List Key} {t : T} {v : V} {ts : List (List Key × T)} {vs : List (List Key × V)} : Rep K cl G t v → RepE K cl G ts vs → RepE K cl G ((k, t) :: ts) ((k, v) :: vs)
inductive RepF (K : PySem.W.Frag) (cl : Cl) (G : Hp) : List (Str × T) → List (Str × V) → Prop
  | nil : RepF K cl G [] []
  | cons {k : Str} {t : T} {v : V} {ts : List (Str × T)} {vs : List (Str × V)} : Rep K cl G t v → RepF K cl G ts vs → RepF K cl G ((k, t) :: ts) ((k, v) :: vs)
end

theorem same_sqL {K : PySem.W.Frag} {G G' : Hp} {a : Addr} {xs : List V} (s : Same G G') (h : SqL K G a xs) : SqL K G' a xs := s.seq h
theorem same_sqT {K : PySem.W.Frag} {G G' : Hp} {a : Addr} {xs : List V} (s : Same G G') (h : SqT K G a xs) : SqT K G' a xs := by
  rcases h with (h | ⟨o, h⟩) | h
  · exact .inl (.inl (s _ _ h))
  · exact .inl (.inr ⟨o, s _ _ h⟩)
  · exact .inr h
mutual
theorem Rep.mono {K : PySem.W.Frag} {cl : Cl} {G G' : Hp} (s : Same G G') : ∀ {t : T} {v : V}, Rep K cl G t v → Rep K cl G' t v
  | _, _, .non => .non
  | _, _, .bl b => .bl b
  | _, _, .int b => .int b
  | _, _, .str b => .str b
  | _, _, .lst h r => .lst (s _ _ h) (r.mono s)
  | _, _, .fro h r => .fro (same_sqL s h) (r.mono s)
  | _, _, .tup h r => .tup (s _ _ h) (r.mono s)
  | _, _, .dic h r => .dic (s _ _ h) (r.mono s)
  | _, _, .dit h r => .dit (s _ _ h) (r.mono s)
  | _, _, .obj c h r => .obj c (s _ _ h) (r.mono s)
theorem Reps.mono {K : PySem.W.Frag} {cl : Cl} {G G' : Hp} (s : Same G G') : ∀ {t : List T} {v : List V}, Reps K cl G t v → Reps K cl G' t v
  | _, _, .nil => .nil
  | _, _, .cons h r => .cons (h.mono s) (r.mono s)
theorem RepD.mono {K : PySem.W.Frag} {cl : Cl} {G G' : Hp} (s : Same G G') : ∀ {t : List (Key × T)} {v : List (Key × V)}, RepD K cl G t v → RepD K cl G' t v
  | _, _, .nil => .nil
  | _, _, .cons h r => .cons (h.mono s) (r.mono s)
theorem RepE.mono {K : PySem.W.Frag} {cl : Cl} {G G' : Hp} (s : Same G G') : ∀ {t : List (List Key × T)} {v : List (List Key × V)}, RepE K cl G t v → RepE K cl G' t v
  | _, _, .nil => .nil
  | _, _, .cons h r => .cons (h.mono s) (r.mono s)
theorem RepF.mono {K : PySem.W.Frag} {cl : Cl} {G G' : Hp} (s : Same G G') : ∀ {t : List (Str × T)} {v : List (Str × V)}, RepF K cl G t v → RepF K cl G' t v
  | _, _, .nil => .nil
  | _, _, .cons h r => .cons (h.mono s) (r.mono s)
end
end Lf
namespace Lf
open PySem PySem.Spec L2

inductive Owner where
  | cell (n : Nat) | slot (i : Nat)
structure Wd where
  as : List Addr
  G : Hp
  ω : Addr → Option Owner
def Cell.live : Cell → Bool
  | .dead => false
  | .fz _ => false
  | _ => true
section
variable (K : PySem.W.Frag) (cl : Cl)
def FvR (w : Wd) : Fv → V → Prop
  | .t x, v => Rep K cl w.G x v
  | .loc n, v => ∃ a, w.as[n]? = some a ∧ v = .ref a
def PvR {κ : Type} (w : Wd) (p : κ × Fv) (q : κ × V) : Prop := p.1 = q.1 ∧ FvR K cl w p.2 q.2
def CellR (w : Wd) (H : Hp) : Cell → Addr → Prop
  | .lst xs, a => ∃ vs, H a = some (.lst vs) ∧ Paired (FvR K cl w) xs vs
  | .dic false kvs, a => ∃ vs, H a = some (.dK vs) ∧ Paired (PvR K cl w) kvs vs
  | .dic true kvs, a => ∃ o vs, H a = some (.frz o (.dK vs)) ∧ Paired (PvR K cl w) kvs vs
  | .dit false kvs, a => ∃ vs, H a = some (.dT vs) ∧ Paired (PvR K cl w) kvs vs
  | .dit true kvs, a => ∃ o vs, H a = some (.frz o (.dT vs)) ∧ Paired (PvR K cl w) kvs vs
  | .dnn kvs, a => ∃ xs, H a = some (DNo cl.W a xs) ∧ Paired (NvR w.G) kvs xs ∧ xs.length ≤ sizeLine
  | .ins c fs, a => ∃ C dx vs, cl c = some C ∧ H a = some (.ins C dx vs) ∧ Paired (PvR K cl w) fs vs
  | .fz _, _ => True
  | .dead, _ => True
def OwnR (G H : Hp) : Own → Addr → Prop
  | .lst ts, a => ∃ vs, H a = some (.lst vs) ∧ Reps K cl G ts vs
  | .dic false ts, a => ∃ vs, H a = some (.dK vs) ∧ RepD K cl G ts vs
  | .dic true ts, a => ∃ o vs, H a = some (.frz o (.dK vs)) ∧ RepD K cl G ts vs
  | .dit false ts, a => ∃ vs, H a = some (.dT vs) ∧ RepE K cl G ts vs
  | .dit true ts, a => ∃ o vs, H a = some (.frz o (.dT vs)) ∧ RepE K cl G ts vs
def SlotR (w : Wd) (H : Hp) (i : Nat) : Slot → V → Prop
  | .t x, v => Rep K cl w.G x v
  | .loc n, v => ∃ a, w.as[n]? = some a ∧ v = .ref a
  | .own o, v => ∃ a, v = .ref a ∧ w.ω a = some (.slot i) ∧ OwnR K cl w.G H o a
  | .exc c fs, v => True
/-- only a dict is locked while it is walked -/
def isD : HO → Bool
  | .dK _ => true
  | .dT _ => true
  | _ => false
structure Rc (w : Wd) (μ : List Cell) (H : Hp) : Prop where
  sub : ∀ a o, w.G a = some o → H a = some o ∨ (isD o = true ∧ ∃ q, H a = some (.frz q o))
  len : w.as.length = μ.length
  cell : ∀ n c a, μ[n]? = some c → w.as[n]? = some a → c.live = true → w.ω a = some (.cell n) ∧ CellR K cl w H c a
  own : ∀ a o, w.ω a = some o → w.G a = none ∧ H a ≠ none
  fz : ∀ (n : Nat) (x : T) (a : Addr), μ[n]? = some (Cell.fz x) → w.as[n]? = some a → Rep K cl w.G x (.ref a)
structure R (w : Wd) (st : DSt) (σ : St) (H : Hp) : Prop where
  rc : Rc K cl w st.μ H
  slen : st.δ.length = σ.length
  slot : ∀ i s, st.δ[i]? = some (some s) → ∃ x, σ[i]? = some (some x) ∧ SlotR K cl w H i s x
def VR (w : Wd) (σ : St) : Val → V → Prop
  | .t x, v => Rep K cl w.G x v
  | .loc n, v => ∃ a, w.as[n]? = some a ∧ v = .ref a
  | .sl i, v => σ[i]? = some (some v)
/-- an exception: of the class c, its fields fs -/
def ExR (w : Wd) (H : Hp) (c : Str) (fs : List (Str × T)) (cv : Value) (d : Option Addr) : Prop :=
  ∃ C, cl c = some C ∧ cv = .ref C ∧ (fs = [] ∨ ∃ dd vs, d = some dd ∧ H dd = some (.xd vs) ∧ RepF K cl w.G fs vs)
end
structure Le (w : Wd) (H : Hp) (w' : Wd) (H' : Hp) : Prop where
  as : w.as <+: w'.as
  g : Same w.G w'.G
  own : ∀ a, w.ω a = none → H a ≠ none → w'.ω a = none
  kp : ∀ a o, w.ω a = none → H a = some o → H' a = some o
  gk : ∀ a, w.ω a = none → H a ≠ none → w'.G a = w.G a
theorem Le.refl (w : Wd) (H : Hp) : Le w H w H := ⟨List.prefix_refl _, Same.refl _, fun _ h _ => h, fun _ _ _ h => h, fun _ _ _ => rfl⟩
theorem Le.trans {w w1 w2 : Wd} {H H1 H2 : Hp} (a : Le w H w1 H1) (b : Le w1 H1 w2 H2) : Le w H w2 H2 := by
  have nn : ∀ x, w.ω x = none → H x ≠ none → H1 x ≠ none := fun x h1 h2 => by
    cases e : H x with
    | none => exact absurd e h2
    | some o => rw [a.kp x o h1 e]; exact fun z => nomatch z
  refine ⟨a.as.trans b.as, a.g.trans b.g, fun x h1 h2 => b.own x (a.own x h1 h2) (nn x h1 h2), fun x o h1 h2 => ?_, fun x h1 h2 => ?_⟩
  · exact b.kp x o (a.own x h1 (by rw [h2]; exact fun z => nomatch z)) (a.kp x o h1 h2)
  · rw [b.gk x (a.own x h1 h2) (nn x h1 h2), a.gk x h1 h2]
theorem pre_get {α : Type} {l l' : List α} {n : Nat} {a : α} (p : l <+: l') (h : l[n]? = some a) : l'[n]? = some a := by
  obtain ⟨m, rfl⟩ := p
  rw [List.getElem?_append_left (List.getElem?_eq_some_iff.mp h).1]
  exact h
section
variable {K : PySem.W.Frag} {cl : Cl}
theorem FvR.mono {w w' : Wd} (pa : w.as <+: w'.as) (pg : Same w.G w'.G) : ∀ {f : Fv} {v : V}, FvR K cl w f v → FvR K cl w' f v
  | .t _, _, h => Rep.mono pg h
  | .loc _, _, ⟨a, h, e⟩ => ⟨a, pre_get pa h, e⟩
theorem PvR.mono {κ : Type} {w w' : Wd} (pa : w.as <+: w'.as) (pg : Same w.G w'.G) {p : κ × Fv} {q : κ × V} (h : PvR K cl w p q) : PvR K cl w' p q := ⟨h.1, h.2.mono pa pg⟩
theorem VR.mono {w w' : Wd} {σ : St} (pa : w.as <+: w'.as) (pg : Same w.G w'.G) : ∀ {f : Val} {v : V}, VR K cl w σ f v → VR K cl w' σ f v
  | .t _, _, h => Rep.mono pg h
  | .loc _, _, ⟨a, h, e⟩ => ⟨a, pre_get pa h, e⟩
  | .sl _, _, h => h
theorem VR.le {w w' : Wd} {H H' : Hp} {σ : St} (l : Le w H w' H') {f : Val} {v : V} (h : VR K cl w σ f v) : VR K cl w' σ f v := h.mono l.as l.g
/-- a cell stays as it is where its address does -/
theorem CellR.keep {w w' : Wd} {H H' : Hp} (pa : w.as <+: w'.as) (pg : Same w.G w'.G) {c : Cell} {a : Addr} (e : ∀ o, H a = some o → H' a = some o) (h : CellR K cl w H c a) : CellR K cl w' H' c a := by
  cases c with
  | lst xs => obtain ⟨vs, h1, h2⟩ := h; exact ⟨vs, e _ h1, h2.mono fun _ _ z => z.mono pa pg⟩
  | dic l kvs => cases l with
    | false => obtain ⟨vs, h1, h2⟩ := h; exact ⟨vs, e _ h1, h2.mono fun _ _ z => z.mono pa pg⟩
    | true => obtain ⟨o, vs, h1, h2⟩ := h; exact ⟨o, vs, e _ h1, h2.mono fun _ _ z => z.mono pa pg⟩
  | dit l kvs => cases l with
    | false => obtain ⟨vs, h1, h2⟩ := h; exact ⟨vs, e _ h1, h2.mono fun _ _ z => z.mono pa pg⟩
    | true => obtain ⟨o, vs, h1, h2⟩ := h; exact ⟨o, vs, e _ h1, h2.mono fun _ _ z => z.mono pa pg⟩
  | dnn kvs => obtain ⟨xs, h1, h2, h3⟩ := h; exact ⟨xs, e _ h1, h2.mono fun _ _ z => z.mono pg, h3⟩
  | ins c fs => obtain ⟨C, dx, vs, h0, h1, h2⟩ := h; exact ⟨C, dx, vs, h0, e _ h1, h2.mono fun _ _ z => z.mono pa pg⟩
  | fz x => trivial
  | dead => trivial
theorem OwnR.keep {G G' H H' : Hp} (pg : Same G G') {c : Own} {a : Addr} (e : ∀ o, H a = some o → H' a = some o) (h : OwnR K cl G H c a) : OwnR K cl G' H' c a := by
  cases c with
  | lst xs => obtain ⟨vs, h1, h2⟩ := h; exact ⟨vs, e _ h1, h2.mono pg⟩
  | dic l kvs => cases l with
    | false => obtain ⟨vs, h1, h2⟩ := h; exact ⟨vs, e _ h1, h2.mono pg⟩
    | true => obtain ⟨o, vs, h1, h2⟩ := h; exact ⟨o, vs, e _ h1, h2.mono pg⟩
  | dit l kvs => cases l with
    | false => obtain ⟨vs, h1, h2⟩ := h; exact ⟨vs, e _ h1, h2.mono pg⟩
    | true => obtain ⟨o, vs, h1, h2⟩ := h; exact ⟨o, vs, e _ h1, h2.mono pg⟩
theorem Reps.length : ∀ {ts : List T} {vs : List V} {G : Hp}, Reps K cl G ts vs → ts.length = vs.length
  | _, _, _, .nil => rfl
  | _, _, _, .cons _ r => by rw [List.length_cons, List.length_cons, r.length]

/-- a new object that stands still: it joins G -/
theorem R.fresh {w : Wd} {st : DSt} {σ : St} {H : Hp} (r : R K cl w st σ H) {p : Addr} (hp : H p = none) (o : HO) :
    let w' : Wd := { w with G := upd w.G p o }
    R K cl w' st σ (upd H p o) ∧ Le w H w' (upd H p o) := by
  intro w'
  have gp : w.G p = none := by
    cases e : w.G p with
    | none => rfl
    | some u =>
      rcases r.rc.sub p u e with h | ⟨_, _, h⟩ <;> (rw [hp] at h; cases h)
  have op : w.ω p = none := by
    cases e : w.ω p with
    | none => rfl
    | some u => exact absurd hp (r.rc.own p u e).2
  have sg : Same w.G w'.G := fun b u e => by
    show upd w.G p o b = some u
    rw [upd_ne (ne_of_none e gp)]; exact e
  have kH : ∀ b u, H b = some u → upd H p o b = some u := fun b u e => by rw [upd_ne (ne_of_none e hp)]; exact e
  have le : Le w H w' (upd H p o) := ⟨List.prefix_refl _, sg, fun _ h _ => h, fun a u _ h => kH a u h, fun a _ h2 => upd_ne fun z => h2 (z ▸ hp)⟩
  refine ⟨⟨⟨fun a u e => ?_, r.rc.len, fun n c a h1 h2 h3 => ?_, fun a u e => ?_, fun n x a h1 h2 => (r.rc.fz n x a h1 h2).mono sg⟩, r.slen, fun i s e => ?_⟩, le⟩
  · by_cases hb : a = p
    · subst hb
      have e' : upd w.G a o a = some u := e
      rw [upd_same] at e'; cases e'
      exact .inl upd_same
    · have e' : upd w.G p o a = some u := e
      rw [upd_ne hb] at e'
      rcases r.rc.sub a u e' with h | ⟨d, q, h⟩
      · exact .inl (kH _ _ h)
      · exact .inr ⟨d, q, kH _ _ h⟩
  · obtain ⟨x, y⟩ := r.rc.cell n c a h1 h2 h3
    exact ⟨x, CellR.keep (w := w) (w' := w') (List.prefix_refl w.as) sg (kH a) y⟩
  · have hne : a ≠ p := fun z => by rw [z] at e; rw [op] at e; cases e
    refine ⟨?_, ?_⟩
    · show upd w.G p o a = none
      rw [upd_ne hne]; exact (r.rc.own a u e).1
    · rw [upd_ne hne]; exact (r.rc.own a u e).2
  · obtain ⟨x, h1, h2⟩ := r.slot i s e
    refine ⟨x, h1, ?_⟩
    cases s with
    | t y => exact Rep.mono sg h2
    | loc n => exact h2
    | own q => obtain ⟨a, e1, e2, e3⟩ := h2; exact ⟨a, e1, e2, e3.keep sg (kH a)⟩
    | exc c fs => trivial

theorem Rc.lst {w : Wd} {μ : List Cell} {H : Hp} (r : Rc K cl w μ H) {a : Addr} {xs : List V} (h : w.G a = some (.lst xs)) : H a = some (.lst xs) := by
  rcases r.sub a _ h with e | ⟨e, _⟩
  · exact e
  · cases e
theorem Rc.tup {w : Wd} {μ : List Cell} {H : Hp} (r : Rc K cl w μ H) {a : Addr} {xs : List V} (h : w.G a = some (.tup xs)) : H a = some (.tup xs) := by
  rcases r.sub a _ h with e | ⟨e, _⟩
  · exact e
  · cases e
theorem Rc.fro {w : Wd} {μ : List Cell} {H : Hp} (r : Rc K cl w μ H) {a : Addr} {xs : List V} (h : SqL K w.G a xs) : SqL K H a xs := by
  rcases h with (h | ⟨o, h⟩) | h
  · rcases r.sub a _ h with e | ⟨e, _⟩
    · exact .inl (.inl e)
    · cases e
  · rcases r.sub a _ h with e | ⟨e, _⟩
    · exact .inl (.inr ⟨o, e⟩)
    · cases e
  · exact .inr h
theorem Rc.ins {w : Wd} {μ : List Cell} {H : Hp} (r : Rc K cl w μ H) {a C dx : Addr} {fs : List (Str × V)} (h : w.G a = some (.ins C dx fs)) : H a = some (.ins C dx fs) := by
  rcases r.sub a _ h with e | ⟨e, _⟩
  · exact e
  · cases e
theorem Rc.dK {w : Wd} {μ : List Cell} {H : Hp} (r : Rc K cl w μ H) {a : Addr} {xs : List (Key × V)} (h : w.G a = some (.dK xs)) : Rd H a (.dK xs) := by
  rcases r.sub a _ h with e | ⟨_, q, e⟩
  · exact .inl e
  · exact .inr ⟨q, e⟩
theorem Rc.dT {w : Wd} {μ : List Cell} {H : Hp} (r : Rc K cl w μ H) {a : Addr} {xs : List (List Key × V)} (h : w.G a = some (.dT xs)) : Rd H a (.dT xs) := by
  rcases r.sub a _ h with e | ⟨_, q, e⟩
  · exact .inl e
  · exact .inr ⟨q, e⟩
theorem Reps.fv {w : Wd} : ∀ {ts : List T} {vs : List V}, Reps K cl w.G ts vs → Paired (FvR K cl w) (ts.map Fv.t) vs
  | _, _, .nil => .nil
  | _, _, .cons h r => .cons h r.fv
/-- all plain -/
def plains : List Fv → Option (List T)
  | [] => some []
  | .t x :: r => (plains r).map (x :: ·)
  | .loc _ :: _ => none
theorem plains_reps {w : Wd} : ∀ {fs : List Fv} {ts : List T} {vs : List V}, plains fs = some ts → Paired (FvR K cl w) fs vs → Reps K cl w.G ts vs
  | [], _, _, h, .nil => by cases h; exact .nil
  | .t x :: r, ts, _, h, .cons a b => by
    unfold plains at h
    cases e : plains r with
    | none => rw [e] at h; cases h
    | some q => rw [e] at h; cases h; exact .cons a (plains_reps e b)
  | .loc _ :: _, _, _, h, _ => by cases h
/-! ### what stands behind a value -/
/-- a slot as a value -/
def own1 (s : DSt) (i : Nat) : Option Slot := (s.δ[i]?).join
/-- a list with plain items -/
def lstOf (s : DSt) : Val → Option (List T)
  | .t (.lst xs) => some xs
  | .loc n => match s.μ[n]? with
    | some (.lst xs) => plains xs
    | _ => none
  | .sl i => match s.δ[i]? with
    | some (some (.own (.lst xs))) => some xs
    | some (some (.t (.lst xs))) => some xs
    | _ => none
  | _ => none
def tupOf : Val → Option (List T)
  | .t (.tup xs) => some xs
  | _ => none
/-- a list, a tuple, to be read: whether it is a tuple, its items -/
def seqOf (s : DSt) : Val → Option (Bool × List Fv)
  | .t (.lst xs) => some (false, xs.map .t)
  | .t (.fro xs) => some (false, xs.map .t)
  | .t (.tup xs) => some (true, xs.map .t)
  | .loc n => match s.μ[n]? with
    | some (.lst xs) => some (false, xs)
    | _ => none
  | .sl i => match s.δ[i]? with
    | some (some (.own (.lst xs))) => some (false, xs.map .t)
    | some (some (.t (.lst xs))) => some (false, xs.map .t)
    | _ => none
  | _ => none
theorem lst_at {w : Wd} {st : DSt} {σ : L2.St} {H : Hp} (r : R K cl w st σ H) {v : Val} {x : V} {ts : List T} (h : lstOf st v = some ts) (hv : VR K cl w σ v x) : ∃ a vs, x = .ref a ∧ H a = some (.lst vs) ∧ Reps K cl w.G ts vs := by
  cases v with
  | t y => cases y with
    | lst xs =>
      cases h
      cases hv with
      | lst e q => exact ⟨_, _, rfl, r.rc.lst e, q⟩
    | _ => cases h
  | loc n =>
    obtain ⟨a, ha, rfl⟩ := hv
    unfold lstOf at h
    dsimp only at h
    split at h
    · rename_i xs e
      obtain ⟨_, vs, e2, q⟩ := r.rc.cell n _ a e ha rfl
      exact ⟨a, vs, rfl, e2, plains_reps h q⟩
    · cases h
  | sl i =>
    unfold lstOf at h
    dsimp only at h
    split at h
    · rename_i xs e
      cases h
      obtain ⟨y, e1, a, e2, _, vs, e3, q⟩ := r.slot i _ e
      rw [show σ[i]? = some (some x) from hv] at e1
      cases e1
      exact ⟨a, vs, e2, e3, q⟩
    · rename_i xs e
      cases h
      obtain ⟨y, e1, q⟩ := r.slot i _ e
      rw [show σ[i]? = some (some x) from hv] at e1
      cases e1
      cases q with
      | lst e q => exact ⟨_, _, rfl, r.rc.lst e, q⟩
    · cases h
theorem seq_at {w : Wd} {st : DSt} {σ : L2.St} {H : Hp} (r : R K cl w st σ H) {v : Val} {x : V} {b : Bool} {ts : List Fv} (h : seqOf st v = some (b, ts)) (hv : VR K cl w σ v x) : ∃ a vs, x = .ref a ∧ (if b then SqT K H a vs else SqL K H a vs) ∧ Paired (FvR K cl w) ts vs := by
  cases v with
  | t y => cases y with
    | lst xs =>
      cases h
      cases hv with
      | lst e q => exact ⟨_, _, rfl, SqL.of (r.rc.lst e), q.fv⟩
    | fro xs =>
      cases h
      cases hv with
      | fro e q => exact ⟨_, _, rfl, r.rc.fro e, q.fv⟩
    | tup xs =>
      cases h
      cases hv with
      | tup e q => exact ⟨_, _, rfl, SqT.of (r.rc.tup e), q.fv⟩
    | _ => cases h
  | loc n =>
    obtain ⟨a, ha, rfl⟩ := hv
    unfold seqOf at h
    dsimp only at h
    split at h
    · rename_i xs e
      cases h
      obtain ⟨_, vs, e2, q⟩ := r.rc.cell n _ a e ha rfl
      exact ⟨a, vs, rfl, SqL.of e2, q⟩
    · cases h
  | sl i =>
    unfold seqOf at h
    dsimp only at h
    split at h
    · rename_i xs e
      cases h
      obtain ⟨y, e1, a, e2, _, vs, e3, q⟩ := r.slot i _ e
      rw [show σ[i]? = some (some x) from hv] at e1
      cases e1
      exact ⟨a, vs, e2, SqL.of e3, q.fv⟩
    · rename_i xs e
      cases h
      obtain ⟨y, e1, q⟩ := r.slot i _ e
      rw [show σ[i]? = some (some x) from hv] at e1
      cases e1
      cases q with
      | lst e q => exact ⟨_, _, rfl, SqL.of (r.rc.lst e), q.fv⟩
    · cases h
end
end Lf
namespace Lf
open PySem PySem.Spec L2

/-! ### judgements -/
/-- what is wanted of exceptions, and that loops pass them on -/
structure Cw (X : Cx) (W : WX) : Prop where
  tk : Takes X W
  po : PassesOwn (model X.prog X.w) X.A X.env X.xe
def WE (X : Cx) (e : Expr) : TE := fun σ H Q => ∀ pins s, Inv X pins σ H s → wpAny (model X.prog X.w) X.A (eval e X.env) (EP X pins σ Q) X.xe s
theorem peW {X : Cx} {e : Expr} : PE X e (WE X e) := ⟨fun pins s σ H Q I h => h pins s I⟩
theorem PE.we {X : Cx} {e : Expr} {t : TE} (h : PE X e t) {σ : L2.St} {H : Hp} {Q : VK} (q : t σ H Q) : WE X e σ H Q := fun pins s I => h.run pins s σ H Q I q
def WT (X : Cx) (e : Expr) : TT := fun σ H Q => ∀ pins s, Inv X pins σ H s → wpAny (model X.prog X.w) X.A (isTrue e X.env (eval e X.env)) (TP X pins σ Q) X.xe s
theorem ptW {X : Cx} {e : Expr} : PT X e (WT X e) := ⟨fun pins s σ H Q I h => h pins s I⟩
theorem PT.wt {X : Cx} {e : Expr} {t : TT} (h : PT X e t) {σ : L2.St} {H : Hp} {Q : Bool → Hp → Prop} (q : t σ H Q) : WT X e σ H Q := fun pins s I => h.run pins s σ H Q I q
def WW (X : Cx) (e : Expr) : TT := fun σ H Q => ∀ whole pins s, Inv X pins σ H s → wpAny (model X.prog X.w) X.A (isTrue e X.env whole) (TP X pins σ Q) X.xe s
theorem pwW {X : Cx} {e : Expr} : PW X e (WW X e) := ⟨fun whole pins s σ H Q I h => h whole pins s I⟩
theorem PW.ww {X : Cx} {e : Expr} {t : TT} (h : PW X e t) {σ : L2.St} {H : Hp} {Q : Bool → Hp → Prop} (q : t σ H Q) : WW X e σ H Q := fun whole pins s I => h.run whole pins s σ H Q I q
def WA (X : Cx) (es : List Expr) : TA := fun σ H Q => ∀ (pos : Pos) pins s, Inv X pins σ H s → wpAny (model X.prog X.w) X.A (spliced (backTo pos (starEach es X.env))) (AP X pins σ Q) X.xe s
theorem paW {X : Cx} {es : List Expr} : PA X es (WA X es) := ⟨fun pos pins s σ H Q I h => h pos pins s I⟩
theorem PA.wa {X : Cx} {es : List Expr} {t : TA} (h : PA X es t) {σ : L2.St} {H : Hp} {Q : List V → Hp → Prop} (q : t σ H Q) : WA X es σ H Q := fun pos pins s I => h.run pos pins s σ H Q I q
def WS (X : Cx) (st : Stmt) : TS := fun D σ H => ∀ pins s, Inv X pins σ H s → wpAny (model X.prog X.w) X.A (exec st X.env) (SP X pins D) X.xe s
theorem psW {X : Cx} {st : Stmt} : PS X st (WS X st) := ⟨fun pins s σ H D I h => h pins s I⟩
theorem PS.ws {X : Cx} {st : Stmt} {t : TS} (h : PS X st t) {σ : L2.St} {H : Hp} {D : Ends} (q : t D σ H) : WS X st D σ H := fun pins s I => h.run pins s σ H D I q
def WSs (X : Cx) (st : List Stmt) : TS := fun D σ H => ∀ pins s, Inv X pins σ H s → wpAny (model X.prog X.w) X.A (execs st X.env) (SP X pins D) X.xe s
theorem pssW {X : Cx} {st : List Stmt} : PSs X st (WSs X st) := ⟨fun pins s σ H D I h => h pins s I⟩
theorem PSs.ws {X : Cx} {st : List Stmt} {t : TS} (h : PSs X st t) {σ : L2.St} {H : Hp} {D : Ends} (q : t D σ H) : WSs X st D σ H := fun pins s I => h.run pins s σ H D I q

section
variable (cl : Cl) (X : Cx)
/-- the end of a piece of the plain semantics: Q of a value, W of an exception -/
def Post {α : Type} (W : WX) (σ : L2.St) (w : Wd) (H : Hp) (o : Out α) (st' : DSt) (Q : α → Wd → Hp → Prop) : Prop :=
  match o with
  | .ok v => ∀ w' H', Le w H w' H' → R X.K cl w' st' σ H' → Q v w' H'
  | .exc c fs => ∀ w' H' cv d, Le w H w' H' → R X.K cl w' st' σ H' → ExR X.K cl w' H' c fs cv d → W cv d σ H'
def DE (e : Expr) (f : M Val) : Prop := ∀ (W : WX), Cw X W → ∀ (w : Wd) (st : DSt) (σ : L2.St) (H : Hp) (Q : VK) (o : Out Val) (st' : DSt), R X.K cl w st σ H → f st = some (o, st') →
  Post cl X W σ w H o st' (fun v w' H' => ∀ x, VR X.K cl w' σ v x → Q x H') → WE X e σ H Q
def DT (e : Expr) (f : M Bool) : Prop := ∀ (W : WX), Cw X W → ∀ (w : Wd) (st : DSt) (σ : L2.St) (H : Hp) (Q : Bool → Hp → Prop) (o : Out Bool) (st' : DSt), R X.K cl w st σ H → f st = some (o, st') →
  Post cl X W σ w H o st' (fun v _ H' => Q v H') → WT X e σ H Q
def DW (e : Expr) (f : M Bool) : Prop := ∀ (W : WX), Cw X W → ∀ (w : Wd) (st : DSt) (σ : L2.St) (H : Hp) (Q : Bool → Hp → Prop) (o : Out Bool) (st' : DSt), R X.K cl w st σ H → f st = some (o, st') →
  Post cl X W σ w H o st' (fun v _ H' => Q v H') → WW X e σ H Q
def DA (es : List Expr) (f : M (List Val)) : Prop := ∀ (W : WX), Cw X W → ∀ (w : Wd) (st : DSt) (σ : L2.St) (H : Hp) (Q : List V → Hp → Prop) (o : Out (List Val)) (st' : DSt), R X.K cl w st σ H → f st = some (o, st') →
  Post cl X W σ w H o st' (fun vs w' H' => ∀ xs, Paired (VR X.K cl w' σ) vs xs → Q xs H') → WA X es σ H Q
/-- an expression that makes a new object, nobody's as yet -/
def DF (e : Expr) (f : M Own) : Prop := ∀ (W : WX), Cw X W → ∀ (w : Wd) (st : DSt) (σ : L2.St) (H : Hp) (Q : VK) (o : Out Own) (st' : DSt), R X.K cl w st σ H → f st = some (o, st') →
  Post cl X W σ w H o st' (fun v w' H' => ∀ (p : Addr) (ho : HO), H' p = none → (∀ H2, H2 p = some ho → OwnR X.K cl w'.G H2 v p) → Q (.ref p) (upd H' p ho)) → WE X e σ H Q
inductive Fl where
  | nx | rt (v : Val) | rf (o : Own) | bk | ct
def SPost (W : WX) (w : Wd) (H : Hp) (D : Ends) (o : Out Fl) (st' : DSt) : Prop :=
  match o with
  | .ok .nx => ∀ w' σ' H', Le w H w' H' → R X.K cl w' st' σ' H' → D.nx σ' H'
  | .ok (.rt v) => ∀ w' σ' H', Le w H w' H' → R X.K cl w' st' σ' H' → ∀ x, VR X.K cl w' σ' v x → D.rt x H'
  | .ok (.rf v) => ∀ w' σ' H', Le w H w' H' → R X.K cl w' st' σ' H' → ∀ (p : Addr) (ho : HO), H' p = none → (∀ H2, H2 p = some ho → OwnR X.K cl w'.G H2 v p) → D.rt (.ref p) (upd H' p ho)
  | .ok .bk => ∀ w' σ' H', Le w H w' H' → R X.K cl w' st' σ' H' → D.bk σ' H'
  | .ok .ct => ∀ w' σ' H', Le w H w' H' → R X.K cl w' st' σ' H' → D.ct σ' H'
  | .exc c fs => ∀ w' σ' H' cv d, Le w H w' H' → R X.K cl w' st' σ' H' → ExR X.K cl w' H' c fs cv d → W cv d σ' H'
def DS (s : Stmt) (f : M Fl) : Prop := ∀ (W : WX), Cw X W → ∀ (w : Wd) (st : DSt) (σ : L2.St) (H : Hp) (D : Ends) (o : Out Fl) (st' : DSt), R X.K cl w st σ H → f st = some (o, st') →
  SPost cl X W w H D o st' → WS X s D σ H
def DSs (ss : List Stmt) (f : M Fl) : Prop := ∀ (W : WX), Cw X W → ∀ (w : Wd) (st : DSt) (σ : L2.St) (H : Hp) (D : Ends) (o : Out Fl) (st' : DSt), R X.K cl w st σ H → f st = some (o, st') →
  SPost cl X W w H D o st' → WSs X ss D σ H
end
section
variable {cl : Cl} {X : Cx}
theorem Post.after {α : Type} {W : WX} {σ : L2.St} {w w1 : Wd} {H H1 : Hp} {o : Out α} {st' : DSt} {Q : α → Wd → Hp → Prop} (l : Le w H w1 H1) (p : Post cl X W σ w H o st' Q) : Post cl X W σ w1 H1 o st' Q := by
  cases o with
  | ok v => exact fun w' H' l' r => p w' H' (l.trans l') r
  | exc c fs => exact fun w' H' cv d l' r => p w' H' cv d (l.trans l') r
theorem SPost.after {W : WX} {w w1 : Wd} {H H1 : Hp} {D : Ends} {o : Out Fl} {st' : DSt} (l : Le w H w1 H1) (p : SPost cl X W w H D o st') : SPost cl X W w1 H1 D o st' := by
  cases o with
  | ok v => cases v with
    | nx => exact fun w' σ' H' l' r => p w' σ' H' (l.trans l') r
    | rt v => exact fun w' σ' H' l' r => p w' σ' H' (l.trans l') r
    | rf v => exact fun w' σ' H' l' r => p w' σ' H' (l.trans l') r
    | bk => exact fun w' σ' H' l' r => p w' σ' H' (l.trans l') r
    | ct => exact fun w' σ' H' l' r => p w' σ' H' (l.trans l') r
  | exc c fs => exact fun w' σ' H' cv d l' r => p w' σ' H' cv d (l.trans l') r
/-- an exception of a part is one of the whole -/
theorem Post.exc {α β : Type} {W : WX} {σ : L2.St} {w : Wd} {H : Hp} {c : Str} {fs : List (Str × T)} {st' : DSt} {Q : α → Wd → Hp → Prop} {Q' : β → Wd → Hp → Prop} (p : Post cl X W σ w H (.exc c fs : Out α) st' Q) : Post cl X W σ w H (.exc c fs : Out β) st' Q' := p
theorem SPost.toPost {α : Type} {W : WX} {σ : L2.St} {w : Wd} {H : Hp} {D : Ends} {c : Str} {fs : List (Str × T)} {st' : DSt} {Q : α → Wd → Hp → Prop} (p : SPost cl X W w H D (.exc c fs) st') : Post cl X W σ w H (.exc c fs : Out α) st' Q :=
  fun w' H' cv d l r x => p w' σ H' cv d l r x

/-! ### names and constants -/
theorem de_int {i : Int} {j pos} : DE cl X (.Constant (.int i) j pos) (ret (.t (.int i))) := fun W cw w st σ H Q o st' r h p => by
  cases h
  exact PE.we pe_int (p w H (Le.refl _ _) r _ (Rep.int i))
theorem de_bl {i : Bool} {j pos} : DE cl X (.Constant (.bool i) j pos) (ret (.t (.bl i))) := fun W cw w st σ H Q o st' r h p => by
  cases h
  exact PE.we pe_bl (p w H (Le.refl _ _) r _ (Rep.bl i))
theorem de_non {j pos} : DE cl X (.Constant .none j pos) (ret (.t .non)) := fun W cw w st σ H Q o st' r h p => by
  cases h
  exact PE.we pe_non (p w H (Le.refl _ _) r _ Rep.non)
theorem de_str {x : Str} {j pos} : DE cl X (.Constant (.str x) j pos) (ret (.t (.str x))) := fun W cw w st σ H Q o st' r h p => by
  cases h
  exact PE.we pe_str (p w H (Le.refl _ _) r _ (Rep.str x))
/-- a name of the def -/
def dVar (i : Nat) : M Val := fun s => match s.δ[i]? with
  | some (some (.t x)) => some (.ok (.t x), s)
  | some (some (.loc n)) => some (.ok (.loc n), s)
  | some (some (.own _)) => some (.ok (.sl i), s)
  | _ => none
theorem de_var {i : Nat} {x : Str} {pos : Pos} (hN : X.N[i]? = some x) (hv : Vis X.env.scope x) (hd : (x == ("__debug__" : Str)) = false) (hcd : (x == ("__classdict__" : Str)) = false) : DE cl X (.Name x pos) (dVar i) := fun W cw w st σ H Q o st' r h p => by
  unfold dVar at h
  cases e : st.δ[i]? with
  | none => rw [e] at h; cases h
  | some q => cases q with
    | none => rw [e] at h; cases h
    | some s =>
      rw [e] at h
      obtain ⟨v, e1, e2⟩ := r.slot i s e
      cases s with
      | t y => cases h; exact PE.we (pe_var hN hv hd hcd) ⟨v, e1, p w H (Le.refl _ _) r v e2⟩
      | loc n => cases h; exact PE.we (pe_var hN hv hd hcd) ⟨v, e1, p w H (Le.refl _ _) r v e2⟩
      | own o => cases h; exact PE.we (pe_var hN hv hd hcd) ⟨v, e1, p w H (Le.refl _ _) r v e1⟩
      | exc c fs => cases h
/-- a constant of the module -/
theorem de_globI {x : Str} {i : Int} {pos : Pos} {tk : Tok} (hg : Gl X x) (hm : X.mg x = some (.int i tk)) (hd : (x == ("__debug__" : Str)) = false) : DE cl X (.Name x pos) (ret (.t (.int i))) := fun W cw w st σ H Q o st' r h p => by
  cases h
  exact PE.we (pe_glob (v := .int i) hg hm ⟨tk, rfl⟩ hd) (p w H (Le.refl _ _) r (.int i) (Rep.int i))
theorem de_globS {x y : Str} {pos : Pos} {tk : Tok} (hg : Gl X x) (hm : X.mg x = some (.str y tk)) (hd : (x == ("__debug__" : Str)) = false) : DE cl X (.Name x pos) (ret (.t (.str y))) := fun W cw w st σ H Q o st' r h p => by
  cases h
  exact PE.we (pe_glob (v := .str y) hg hm ⟨tk, rfl⟩ hd) (p w H (Le.refl _ _) r (.str y) (Rep.str y))

/-! ### operations on values -/
/-- a rule of values: f, the model's; g, the plain one -/
def DOp (cl : Cl) (X : Cx) (f : Value → Value → Sem Value) (g : Val → Val → M Val) : Prop :=
  ∀ (W : WX), Cw X W → ∀ (w : Wd) (st : DSt) (σ : L2.St) (H : Hp) (Q : VK) (o : Out Val) (st' : DSt) (a b : Val) (x y : V) (u v : Value) (pins : List (Addr × Obj)) (s : Shared), R X.K cl w st σ H → VR X.K cl w σ a x → VR X.K cl w σ b y → g a b st = some (o, st') →
  Post cl X W σ w H o st' (fun v w' H' => ∀ x, VR X.K cl w' σ v x → Q x H') → Inv X pins σ H s → RelV x u → RelV y v → wpAny (model X.prog X.w) X.A (f u v) (EP X pins σ Q) X.xe s
def dBin (g : Val → Val → M Val) (fa fb : M Val) : M Val := bnd fa fun a => bnd fb fun b => g a b
theorem OpR.all {f : Value → Value → Sem Value} : OpR X f (fun x y H Q => ∀ (pins : List (Addr × Obj)) (s : Shared) (σ : L2.St) (u v : Value), Inv X pins σ H s → RelV x u → RelV y v → wpAny (model X.prog X.w) X.A (f u v) (EP X pins σ Q) X.xe s) :=
  fun pins s σ H x y v u Q I r1 r2 h => h pins s σ v u I r1 r2
/-- a rule of values at the slots at hand -/
theorem bin_at {f : Value → Value → Sem Value} {g : Val → Val → M Val} (ho : DOp cl X f g) {a b : Expr} {fa fb : M Val} (ha : DE cl X a fa) (hb : DE cl X b fb) {W : WX} (cw : Cw X W) {w : Wd} {st st' : DSt} {σ : L2.St} {H : Hp} {Q : VK} {o : Out Val} (r : R X.K cl w st σ H)
    (h : dBin g fa fb st = some (o, st')) (p : Post cl X W σ w H o st' (fun v w' H' => ∀ x, VR X.K cl w' σ v x → Q x H')) :
    tOp (fun x y H Q => ∀ (pins : List (Addr × Obj)) (s : Shared) (u v : Value), Inv X pins σ H s → RelV x u → RelV y v → wpAny (model X.prog X.w) X.A (f u v) (EP X pins σ Q) X.xe s) (WE X a) (WE X b) σ H Q := by
  unfold tOp
  rcases bnd_some h with ⟨c, fs, h1, rfl⟩ | ⟨va, st1, h1, h2⟩
  · exact ha W cw w st σ H _ _ st' r h1 p
  · refine ha W cw w st σ H _ _ st1 r h1 fun w1 H1 l1 r1 x hx => ?_
    rcases bnd_some h2 with ⟨c, fs, h3, rfl⟩ | ⟨vb, st2, h3, h4⟩
    · exact hb W cw w1 st1 σ H1 _ _ st' r1 h3 (p.after l1)
    · refine hb W cw w1 st1 σ H1 _ _ st2 r1 h3 fun w2 H2 l2 r2 y hy => ?_
      intro pins s u v I ru rv
      exact ho W cw w2 st2 σ H2 Q o st' va vb x y u v pins s r2 (hx.le l2) hy h4 (p.after (l1.trans l2)) I ru rv
theorem de_op {op : Operator} {g : Val → Val → M Val} {a b : Expr} {pos : Pos} {fa fb : M Val} (ho : DOp cl X (binaryOp op) g) (ha : DE cl X a fa) (hb : DE cl X b fb) : DE cl X (.BinOp a op b pos) (dBin g fa fb) := fun W cw w st σ H Q o st' r h p => by
  intro pins s I
  have q := bin_at ho ha hb cw r h p
  refine PySem.wpAny_BinOp (L2.bin (X := X) peW peW I q fun v u s2 x y H2 I2 rx ry q => q pins s2 v u I2 rx ry)
theorem de_cmp {op : CmpOp} {g : Val → Val → M Val} {a b : Expr} {pos : Pos} {fa fb : M Val} (ho : DOp cl X (compareOp op) g) (hm : behindInMarks op b = false) (ha : DE cl X a fa) (hb : DE cl X b fb) : DE cl X (.Compare a [op] [b] pos) (dBin g fa fb) := fun W cw w st σ H Q o st' r h p => by
  intro pins s I
  have q := bin_at ho ha hb cw r h p
  exact wpAny_Compare1 (L2.bin (X := X) peW peW I q fun v u s2 x y H2 I2 rx ry q => q pins s2 v u I2 rx ry) hm
end
end Lf
namespace Lf
open PySem PySem.Spec L2
section
variable {cl : Cl} {X : Cx}
theorem Reps.append {K : PySem.W.Frag} {G : Hp} : ∀ {a b : List T} {x y : List V}, Reps K cl G a x → Reps K cl G b y → Reps K cl G (a ++ b) (x ++ y)
  | _, _, _, _, .nil, q => q
  | _, _, _, _, .cons h r, q => .cons h (r.append q)
/-- the end of a step that changes nothing -/
theorem fin0 {α : Type} {W : WX} {σ : L2.St} {w : Wd} {H : Hp} {v : α} {st : DSt} {Q : α → Wd → Hp → Prop} (r : R X.K cl w st σ H) (p : Post cl X W σ w H (.ok v) st Q) : Q v w H := p w H (Le.refl _ _) r
/-- .. that makes a new list or tuple, which stands still -/
theorem finL {W : WX} {σ : L2.St} {w : Wd} {H : Hp} {ts : List T} {vs : List V} {st : DSt} {Q : VK} (r : R X.K cl w st σ H) (q : Reps X.K cl w.G ts vs) (p : Post cl X W σ w H (.ok (.t (.lst ts))) st (fun v w' H' => ∀ x, VR X.K cl w' σ v x → Q x H')) {a : Addr} (ha : H a = none) : Q (.ref a) (upd H a (.lst vs)) := by
  obtain ⟨r', l⟩ := r.fresh ha (.lst vs)
  exact p _ _ l r' (.ref a) (Rep.lst upd_same (q.mono l.g))
theorem finT {W : WX} {σ : L2.St} {w : Wd} {H : Hp} {ts : List T} {vs : List V} {st : DSt} {Q : VK} (r : R X.K cl w st σ H) (q : Reps X.K cl w.G ts vs) (p : Post cl X W σ w H (.ok (.t (.tup ts))) st (fun v w' H' => ∀ x, VR X.K cl w' σ v x → Q x H')) {a : Addr} (ha : H a = none) : Q (.ref a) (upd H a (.tup vs)) := by
  obtain ⟨r', l⟩ := r.fresh ha (.tup vs)
  exact p _ _ l r' (.ref a) (Rep.tup upd_same (q.mono l.g))

/-! ### ints -/
def dInt (c : Int → Int → Bool) (g : Int → Int → T) : Val → Val → M Val
  | .t (.int i), .t (.int j) => if c i j then ret (.t (g i j)) else stuck
  | _, _ => stuck
theorem dop_int {f : Value → Value → Sem Value} {C : Int → Int → Prop} {c : Int → Int → Bool} {g : Int → Int → V} {g' : Int → Int → T} (ho : OpR X f (rI C g)) (hc : ∀ i j, c i j = true → C i j) (hg : ∀ K G i j, Rep K cl G (g' i j) (g i j)) : DOp cl X f (dInt c g') := fun W cw w st σ H Q o st' a b x y u v pins s r ha hb h p I ru rv => by
  unfold dInt at h
  split at h
  · rename_i i j
    split at h
    · rename_i hcc
      cases h
      cases ha
      cases hb
      exact ho pins s σ H _ _ u v Q I ru rv ⟨i, j, rfl, rfl, hc i j hcc, fin0 r p _ (hg _ _ _ _)⟩
    · cases h
  · cases h
theorem rI_of {f : Value → Value → Sem Value} {g : Int → Int → V} (ho : OpR X f (rI0 g)) : OpR X f (rI (fun _ _ => True) g) := fun pins s σ H x y v u Q I r1 r2 ⟨i, j, e1, e2, _, q⟩ => ho pins s σ H x y v u Q I r1 r2 ⟨i, j, e1, e2, q⟩
abbrev yes2 : Int → Int → Bool := fun _ _ => true
theorem op2_sub : DOp cl X (binaryOp .Sub) (dInt yes2 fun i j => .int (i - j)) := dop_int (rI_of op_sub) (fun _ _ _ => trivial) fun _ _ _ _ => .int _
abbrev cDiv : Int → Int → Bool := fun _ j => decide (0 < j) && decide (j < 1073741824)
theorem op2_fdiv : DOp cl X (binaryOp .FloorDiv) (dInt cDiv fun i j => .int (i / j)) := dop_int op_fdiv (fun i j h => by simp only [cDiv, Bool.and_eq_true, decide_eq_true_eq] at h; exact h) fun _ _ _ _ => .int _
abbrev cMod : Int → Int → Bool := fun _ j => decide (0 < j)
theorem op2_mod : DOp cl X (binaryOp .Mod) (dInt cMod fun i j => .int (i % j)) := dop_int op_mod (fun i j h => by simpa only [cMod, decide_eq_true_eq] using h) fun _ _ _ _ => .int _
abbrev cPow : Int → Int → Bool := fun i j => decide (0 ≤ j) && decide (j ≤ 1000000) && decide (i.natAbs < 2 ^ 64)
theorem op2_pow : DOp cl X (binaryOp .Pow) (dInt cPow fun i j => .int (i ^ j.toNat)) := dop_int op_pow (fun i j h => by simp only [cPow, Bool.and_eq_true, decide_eq_true_eq] at h; exact ⟨h.1.1, h.1.2, h.2⟩) fun _ _ _ _ => .int _
theorem op2_lt : DOp cl X (compareOp .Lt) (dInt yes2 fun i j => .bl (decide (i < j))) := dop_int (rI_of op_lt) (fun _ _ _ => trivial) fun _ _ _ _ => .bl _
theorem op2_le : DOp cl X (compareOp .LtE) (dInt yes2 fun i j => .bl (decide (i ≤ j))) := dop_int (rI_of op_le) (fun _ _ _ => trivial) fun _ _ _ _ => .bl _
theorem op2_gt : DOp cl X (compareOp .Gt) (dInt yes2 fun i j => .bl (decide (j < i))) := dop_int (rI_of op_gt) (fun _ _ _ => trivial) fun _ _ _ _ => .bl _
theorem op2_ge : DOp cl X (compareOp .GtE) (dInt yes2 fun i j => .bl (decide (j ≤ i))) := dop_int (rI_of op_ge) (fun _ _ _ => trivial) fun _ _ _ _ => .bl _
/-! ### + and * -/
def dAdd (a b : Val) : M Val := fun s => match a, b with
  | .t (.int i), .t (.int j) => some (.ok (.t (.int (i + j))), s)
  | .t (.str x), .t (.str y) => if x.length + y.length ≤ sizeLine then some (.ok (.t (.str (x ++ y))), s) else none
  | a, b => match lstOf s a, lstOf s b with
    | some xs, some ys => if xs.length + ys.length ≤ sizeLine then some (.ok (.t (.lst (xs ++ ys))), s) else none
    | _, _ => none
theorem op2_add : DOp cl X (binaryOp .Add) dAdd := fun W cw w st σ H Q o st' a b x y u v pins s r ha hb h p I ru rv => by
  unfold dAdd at h
  split at h
  · cases h
    cases ha
    cases hb
    exact op_add pins s σ H _ _ u v Q I ru rv ⟨_, _, rfl, rfl, fin0 r p _ (.int _)⟩
  · split at h
    · rename_i hl
      cases h
      cases ha
      cases hb
      exact op_add_str pins s σ H _ _ u v Q I ru rv ⟨_, _, rfl, rfl, hl, fin0 r p _ (.str _)⟩
    · cases h
  · split at h
    · rename_i xs ys e1 e2
      split at h
      · rename_i hl
        cases h
        obtain ⟨a1, vs1, rfl, g1, q1⟩ := lst_at r e1 ha
        obtain ⟨a2, vs2, rfl, g2, q2⟩ := lst_at r e2 hb
        exact op_cat pins s σ H _ _ u v Q I ru rv ⟨a1, a2, vs1, vs2, rfl, rfl, g1, g2, by rw [← q1.length, ← q2.length]; exact hl, fun p0 hp0 => finL r (q1.append q2) p hp0⟩
      · cases h
    · cases h
def dMul (a b : Val) : M Val := fun s => match a, b with
  | .t (.int i), .t (.int j) => if (decide (-(2 ^ 64) < i) && decide (i < 2 ^ 64)) || (decide (-(2 ^ 64) < j) && decide (j < 2 ^ 64)) then some (.ok (.t (.int (i * j))), s) else none
  | _, _ => none
theorem op2_mul : DOp cl X (binaryOp .Mult) dMul := fun W cw w st σ H Q o st' a b x y u v pins s r ha hb h p I ru rv => by
  unfold dMul at h
  split at h
  · split at h
    · rename_i hl
      cases h
      cases ha
      cases hb
      simp only [Bool.or_eq_true, Bool.and_eq_true, decide_eq_true_eq] at hl
      exact op_mul pins s σ H _ _ u v Q I ru rv ⟨_, _, rfl, rfl, hl, fin0 r p _ (.int _)⟩
    · cases h
  · cases h
/-! ### == -/
mutual
def T.pd : T → Option PyData
  | .non => some .none
  | .bl b => some (.bool b)
  | .int i => some (.int i)
  | .str x => some (.str x)
  | .lst xs => (T.pds xs).map .list
  | .tup xs => (T.pds xs).map .tuple
  | _ => none
def T.pds : List T → Option (List PyData)
  | [] => some []
  | x :: r => match T.pd x, T.pds r with
    | some d, some ds => some (d :: ds)
    | _, _ => none
end
mutual
theorem Rep.dp {w : Wd} {μ : List Cell} {H : Hp} (r : Rc X.K cl w μ H) : ∀ {t : T} {v : V} {d : PyData}, Rep X.K cl w.G t v → T.pd t = some d → Dp X.K H v d
  | _, _, _, .non, h => by cases h; exact .non
  | _, _, _, .bl b, h => by cases h; exact .bl _
  | _, _, _, .int b, h => by cases h; exact .int _
  | _, _, _, .str b, h => by cases h; exact .str _
  | _, _, _, .lst (ts := ts) e q, h => by
    simp only [T.pd, Option.map_eq_some_iff] at h
    obtain ⟨ds, h1, rfl⟩ := h
    exact .lst (SqL.of (r.lst e)) (Reps.dp r q h1)
  | _, _, _, .tup (ts := ts) e q, h => by
    simp only [T.pd, Option.map_eq_some_iff] at h
    obtain ⟨ds, h1, rfl⟩ := h
    exact .tup (SqT.of (r.tup e)) (Reps.dp r q h1)
  | _, _, _, .fro _ _, h => by cases h
  | _, _, _, .dic _ _, h => by cases h
  | _, _, _, .dit _ _, h => by cases h
  | _, _, _, .obj _ _ _, h => by cases h
theorem Reps.dp {w : Wd} {μ : List Cell} {H : Hp} (r : Rc X.K cl w μ H) : ∀ {t : List T} {v : List V} {d : List PyData}, Reps X.K cl w.G t v → T.pds t = some d → DpAll X.K H v d
  | _, _, _, .nil, h => by cases h; exact .nil
  | _, _, _, .cons (t := t) (ts := ts) h1 h2, h => by
    unfold T.pds at h
    split at h
    · rename_i d ds e1 e2
      cases h
      exact .cons (Rep.dp r h1 e1) (Reps.dp r h2 e2)
    · cases h
end
def valPd (s : DSt) (v : Val) : Option PyData := match v with
  | .t x => x.pd
  | v => match lstOf s v with
    | some xs => (T.pds xs).map .list
    | none => none
theorem pd_at {w : Wd} {st : DSt} {σ : L2.St} {H : Hp} (r : R X.K cl w st σ H) {v : Val} {x : V} {d : PyData} (h : valPd st v = some d) (hv : VR X.K cl w σ v x) : Dp X.K H x d := by
  have gen : ∀ {xs : List T}, lstOf st v = some xs → (T.pds xs).map PyData.list = some d → Dp X.K H x d := fun {xs} e1 e2 => by
    obtain ⟨a, vs, rfl, g, q⟩ := lst_at r e1 hv
    simp only [Option.map_eq_some_iff] at e2
    obtain ⟨ds, h1, rfl⟩ := e2
    exact .lst (SqL.of g) (Reps.dp r.rc q h1)
  cases v with
  | t y => exact Rep.dp r.rc hv h
  | loc n =>
    unfold valPd at h
    dsimp only at h
    split at h
    · rename_i xs e; exact gen e h
    · cases h
  | sl n =>
    unfold valPd at h
    dsimp only at h
    split at h
    · rename_i xs e; exact gen e h
    · cases h
def dEq (neg : Bool) (a b : Val) : M Val := fun s => match valPd s a, valPd s b with
  | some d, some e => if SeqAt.shaped d && SeqAt.shaped e then some (.ok (.t (.bl (if neg then !PyData.eqv d e else PyData.eqv d e))), s) else none
  | _, _ => none
theorem op2_eq {k : Nat} (hr : Room k X.A) : DOp cl X (compareOp .Eq) (dEq false) := fun W cw w st σ H Q o st' a b x y u v pins s r ha hb h p I ru rv => by
  unfold dEq at h
  split at h
  · rename_i d e e1 e2
    split at h
    · rename_i hs
      cases h
      simp only [Bool.and_eq_true] at hs
      exact op_eqD hr.units pins s σ H _ _ u v Q I ru rv ⟨d, e, pd_at r e1 ha, pd_at r e2 hb, hs.1, hs.2, fin0 r p _ (.bl _)⟩
    · cases h
  · cases h
theorem op2_ne {k : Nat} (hr : Room k X.A) : DOp cl X (compareOp .NotEq) (dEq true) := fun W cw w st σ H Q o st' a b x y u v pins s r ha hb h p I ru rv => by
  unfold dEq at h
  split at h
  · rename_i d e e1 e2
    split at h
    · rename_i hs
      cases h
      simp only [Bool.and_eq_true] at hs
      exact op_neD hr.units pins s σ H _ _ u v Q I ru rv ⟨d, e, pd_at r e1 ha, pd_at r e2 hb, hs.1, hs.2, fin0 r p _ (.bl _)⟩
    · cases h
  · cases h
/-! ### is None -/
def isNon : Val → Bool
  | .t .non => true
  | _ => false
theorem isNon_at {w : Wd} {st : DSt} {σ : L2.St} {H : Hp} (r : R X.K cl w st σ H) {v : Val} {x : V} (h : (match v with | .sl _ => false | _ => true) = true) (hv : VR X.K cl w σ v x) : decide (x = .non) = isNon v := by
  cases v with
  | t y =>
    cases hv <;> simp [isNon]
  | loc n => obtain ⟨a, _, rfl⟩ := hv; simp [isNon]
  | sl i => cases h
def dIsN (neg : Bool) (a b : Val) : M Val := fun s => match a, b with
  | .sl _, _ => none
  | a, .t .non => some (.ok (.t (.bl (if neg then !isNon a else isNon a))), s)
  | _, _ => none
theorem op2_is : DOp cl X (compareOp .Is) (dIsN false) := fun W cw w st σ H Q o st' a b x y u v pins s r ha hb h p I ru rv => by
  cases a with
  | sl i => cases h
  | t z =>
    unfold dIsN at h
    split at h
    · cases h
    · rename_i z' e
      cases h
      cases hb
      have := isNon_at r (v := .t z) rfl ha
      exact op_isN pins s σ H _ _ u v Q I ru rv ⟨rfl, by rw [this]; exact fin0 r p _ (.bl _)⟩
    · cases h
  | loc n =>
    unfold dIsN at h
    split at h
    · cases h
    · rename_i z' e
      cases h
      cases hb
      have := isNon_at r (v := .loc n) rfl ha
      exact op_isN pins s σ H _ _ u v Q I ru rv ⟨rfl, by rw [this]; exact fin0 r p _ (.bl _)⟩
    · cases h
theorem op2_isnot : DOp cl X (compareOp .IsNot) (dIsN true) := fun W cw w st σ H Q o st' a b x y u v pins s r ha hb h p I ru rv => by
  cases a with
  | sl i => cases h
  | t z =>
    unfold dIsN at h
    split at h
    · cases h
    · rename_i z' e
      cases h
      cases hb
      have := isNon_at r (v := .t z) rfl ha
      exact op_notN pins s σ H _ _ u v Q I ru rv ⟨rfl, by rw [this]; exact fin0 r p _ (.bl _)⟩
    · cases h
  | loc n =>
    unfold dIsN at h
    split at h
    · cases h
    · rename_i z' e
      cases h
      cases hb
      have := isNon_at r (v := .loc n) rfl ha
      exact op_notN pins s σ H _ _ u v Q I ru rv ⟨rfl, by rw [this]; exact fin0 r p _ (.bl _)⟩
    · cases h
end
end Lf
namespace Lf
open PySem PySem.Spec L2
section
variable {cl : Cl} {X : Cx}
/-! ### in, not in -/
def T.flat : T → Option V
  | .non => some .non
  | .bl b => some (.bl b)
  | .int i => some (.int i)
  | .str x => some (.str x)
  | _ => none
def flats : List Fv → Option (List V)
  | [] => some []
  | .t x :: r => match x.flat, flats r with
    | some v, some vs => some (v :: vs)
    | _, _ => none
  | .loc _ :: _ => none
theorem flat_at {K : PySem.W.Frag} {G : Hp} {t : T} {v x : V} (h : t.flat = some v) (r : Rep K cl G t x) : x = v ∧ flatV v = true := by
  cases r <;> simp only [T.flat] at h <;> first | (cases h; exact ⟨rfl, rfl⟩) | cases h
theorem flats_at {K : PySem.W.Frag} {w : Wd} : ∀ {ts : List Fv} {vs xs : List V}, flats ts = some vs → Paired (FvR K cl w) ts xs → xs = vs ∧ vs.all flatV = true
  | [], _, _, h, .nil => by cases h; exact ⟨rfl, rfl⟩
  | .t x :: r, vs, _, h, .cons a b => by
    unfold flats at h
    split at h
    · rename_i v vs' e1 e2
      cases h
      obtain ⟨rfl, h1⟩ := flat_at e1 a
      obtain ⟨rfl, h2⟩ := flats_at e2 b
      exact ⟨rfl, by rw [List.all_cons, h1, h2]; rfl⟩
    · cases h
  | .loc _ :: _, _, _, h, _ => by cases h
/-- membership: a sign in a text, a flat thing in a flat sequence, data in a list -/
def dIn (neg : Bool) (a b : Val) : M Val := fun s => match a, b with
  | .t (.str x), .t (.str y) => if x.cps.size = 1 then some (.ok (.t (.bl (if neg then !decide (x.cps.getD 0 0 ∈ y.cps.toList) else decide (x.cps.getD 0 0 ∈ y.cps.toList)))), s) else none
  | .t x, b => match seqOf s b with
    | some (_, ts) => match x.flat, flats ts with
      | some v, some vs => some (.ok (.t (.bl (if neg then !inV v vs else inV v vs))), s)
      | _, _ => match x.pd, valPd s b with
        | some d, some (.list ds) => if SeqAt.shaped d && SeqAt.shaped (.list ds) then some (.ok (.t (.bl (if neg then !ds.any fun z => PyData.eqv z d else ds.any fun z => PyData.eqv z d))), s) else none
        | _, _ => none
    | none => none
  | _, _ => none
theorem one_sign {x : Str} (h : x.cps.size = 1) : x = ⟨#[x.cps.getD 0 0]⟩ := by
  obtain ⟨⟨l⟩⟩ := x
  cases l with
  | nil => cases h
  | cons a r => cases r with
    | nil => rfl
    | cons b r => simp at h
theorem op2_in_gen {neg : Bool} {k : Nat} (hr : Room k X.A) : DOp cl X (compareOp (if neg then .NotIn else .In)) (dIn neg) := fun W cw w st σ H Q o st' a b x y u v pins s r ha hb h p I ru rv => by
  unfold dIn at h
  split at h
  · rename_i z z'
    split at h
    · rename_i hl
      cases h
      cases ha
      cases hb
      cases neg with
      | false => exact op_in_sign pins s σ H _ _ u v Q I ru rv ⟨_, z', by rw [← one_sign hl], rfl, fin0 r p _ (.bl _)⟩
      | true => exact op_notIn_sign pins s σ H _ _ u v Q I ru rv ⟨_, z', by rw [← one_sign hl], rfl, fin0 r p _ (.bl _)⟩
    · cases h
  · rename_i t b' nn
    split at h
    · rename_i tb ts e
      split at h
      · rename_i v1 vs1 e1 e2
        cases h
        obtain ⟨q, xs, rfl, g, pr⟩ := seq_at r e hb
        obtain ⟨rfl, f1⟩ := flat_at e1 ha
        obtain ⟨rfl, f2⟩ := flats_at e2 pr
        have g' : SqL X.K H q xs ∨ SqT X.K H q xs := by
          cases tb with
          | true => exact .inr g
          | false => exact .inl g
        cases neg with
        | false => exact op_in_seq pins s σ H _ _ u v Q I ru rv ⟨q, xs, rfl, g', f1, f2, fin0 r p _ (.bl _)⟩
        | true => exact op_notIn_seq pins s σ H _ _ u v Q I ru rv ⟨q, xs, rfl, g', f1, f2, fin0 r p _ (.bl _)⟩
      · split at h
        · rename_i d ds e1 e2
          split at h
          · rename_i hs
            cases h
            simp only [Bool.and_eq_true] at hs
            have hu : X.A.units + 65 < cLine := by have := hr.un; omega
            cases neg with
            | false => exact op_inD hu pins s σ H _ _ u v Q I ru rv ⟨d, ds, Rep.dp r.rc ha e1, pd_at r e2 hb, hs.1, hs.2, fin0 r p _ (.bl _)⟩
            | true => exact op_notInD hu pins s σ H _ _ u v Q I ru rv ⟨d, ds, Rep.dp r.rc ha e1, pd_at r e2 hb, hs.1, hs.2, fin0 r p _ (.bl _)⟩
          · cases h
        · cases h
    · cases h
  · cases h
theorem op2_in {k : Nat} (hr : Room k X.A) : DOp cl X (compareOp .In) (dIn false) := op2_in_gen (neg := false) hr
theorem op2_notin {k : Nat} (hr : Room k X.A) : DOp cl X (compareOp .NotIn) (dIn true) := op2_in_gen (neg := true) hr

/-! ### tests -/
def asBl : Val → M Bool
  | .t (.bl b) => ret b
  | _ => stuck
theorem asBl_some {v : Val} {s s' : DSt} {o : Out Bool} (h : asBl v s = some (o, s')) : ∃ b, v = .t (.bl b) ∧ o = .ok b ∧ s' = s := by
  unfold asBl at h
  split at h
  · cases h; exact ⟨_, rfl, rfl, rfl⟩
  · cases h
theorem dt_val {e : Expr} {f : M Val} (he : ∀ whole, isTrue e X.env whole = (do let v ← whole; standAt e.pos; holding [v] (truthy v))) (h : DE cl X e f) : DT cl X e (bnd f asBl) := fun W cw w st σ H Q o st' r hf p => by
  refine PT.wt (pt_val peW he) ?_
  show WE X e σ H _
  rcases bnd_some hf with ⟨c, fs, h1, rfl⟩ | ⟨v, st1, h1, h2⟩
  · exact h W cw w st σ H _ _ st' r h1 p
  · obtain ⟨b, rfl, rfl, rfl⟩ := asBl_some h2
    refine h W cw w st σ H _ _ _ r h1 fun w1 H1 l1 r1 x hx => ?_
    cases hx
    exact ⟨b, rfl, p w1 H1 l1 r1⟩
theorem dt_cmp {op : CmpOp} {g : Val → Val → M Val} {a b : Expr} {pos : Pos} {fa fb : M Val} (ho : DOp cl X (compareOp op) g) (hm : behindInMarks op b = false) (ha : DE cl X a fa) (hb : DE cl X b fb) : DT cl X (.Compare a [op] [b] pos) (bnd (dBin g fa fb) asBl) := fun W cw w st σ H Q o st' r hf p => by
  intro pins s I
  have q : tOp (fun x y H Q => ∀ (pins : List (Addr × Obj)) (s : Shared) (u v : Value), Inv X pins σ H s → RelV x u → RelV y v → wpAny (model X.prog X.w) X.A (compareOp op u v) (EP X pins σ Q) X.xe s) (WE X a) (WE X b) σ H (fun x H' => ∃ k, x = .bl k ∧ Q k H') := by
    rcases bnd_some hf with ⟨c, fs, h1, rfl⟩ | ⟨v, st1, h1, h2⟩
    · exact bin_at ho ha hb cw r h1 p
    · obtain ⟨b, rfl, rfl, rfl⟩ := asBl_some h2
      refine bin_at ho ha hb cw r h1 fun w1 H1 l1 r1 x hx => ?_
      cases hx
      exact ⟨b, rfl, p w1 H1 l1 r1⟩
  refine wpAny_isTrue_Compare1 (thn (q pins s I) fun v s1 ⟨x, H1, I1, r1, q1⟩ => thn (q1 pins s1 I1) fun u s2 ⟨y, H2, I2, r2, q2⟩ =>
    thn (q2 pins s2 v u I2 r1 r2) fun c s3 ⟨z, H3, I3, r3, k, e, q3⟩ => ?_) hm
  subst e
  cases r3
  exact wpAny_truthy_bool ⟨H3, I3, q3⟩
theorem dw_and1 {a : Expr} {pos : Pos} {f : M Bool} (ha : DT cl X a f) : DW cl X (.BoolOp .And [a] pos) f := fun W cw w st σ H Q o st' r h p => PW.ww (pw_and1 ptW) (ha W cw w st σ H Q o st' r h p)
theorem dw_or1 {a : Expr} {pos : Pos} {f : M Bool} (ha : DT cl X a f) : DW cl X (.BoolOp .Or [a] pos) f := fun W cw w st σ H Q o st' r h p => PW.ww (pw_or1 ptW) (ha W cw w st σ H Q o st' r h p)
def dAnd (f g : M Bool) : M Bool := bnd f fun b => if b then g else ret false
def dOr (f g : M Bool) : M Bool := bnd f fun b => if b then ret true else g
def dNot (f : M Bool) : M Bool := bnd f fun b => ret (!b)
theorem dw_and {a b : Expr} {rest : List Expr} {pos : Pos} {f g : M Bool} (ha : DT cl X a f) (hb : DW cl X (.BoolOp .And (b :: rest) pos) g) : DW cl X (.BoolOp .And (a :: b :: rest) pos) (dAnd f g) := fun W cw w st σ H Q o st' r h p => by
  refine PW.ww (pw_and ptW pwW) ?_
  unfold tAnd
  rcases bnd_some h with ⟨c, fs, h1, rfl⟩ | ⟨v, st1, h1, h2⟩
  · exact ha W cw w st σ H _ _ st' r h1 p
  · refine ha W cw w st σ H _ _ st1 r h1 fun w1 H1 l1 r1 => ?_
    cases v with
    | true => exact hb W cw w1 st1 σ H1 _ _ st' r1 h2 (p.after l1)
    | false => cases h2; exact p w1 H1 l1 r1
theorem dw_or {a b : Expr} {rest : List Expr} {pos : Pos} {f g : M Bool} (ha : DT cl X a f) (hb : DW cl X (.BoolOp .Or (b :: rest) pos) g) : DW cl X (.BoolOp .Or (a :: b :: rest) pos) (dOr f g) := fun W cw w st σ H Q o st' r h p => by
  refine PW.ww (pw_or ptW pwW) ?_
  unfold tOr
  rcases bnd_some h with ⟨c, fs, h1, rfl⟩ | ⟨v, st1, h1, h2⟩
  · exact ha W cw w st σ H _ _ st' r h1 p
  · refine ha W cw w st σ H _ _ st1 r h1 fun w1 H1 l1 r1 => ?_
    cases v with
    | false => exact hb W cw w1 st1 σ H1 _ _ st' r1 h2 (p.after l1)
    | true => cases h2; exact p w1 H1 l1 r1
theorem dt_w {e : Expr} {f : M Bool} (h : DW cl X e f) : DT cl X e f := fun W cw w st σ H Q o st' r hf p => PT.wt (PW.pt pwW) (h W cw w st σ H Q o st' r hf p)
theorem dt_not {a : Expr} {pos : Pos} {f : M Bool} (ha : DT cl X a f) : DT cl X (.UnaryOp .Not a pos) (dNot f) := fun W cw w st σ H Q o st' r h p => by
  refine PT.wt (pt_not ptW) ?_
  unfold tNot
  rcases bnd_some h with ⟨c, fs, h1, rfl⟩ | ⟨v, st1, h1, h2⟩
  · exact ha W cw w st σ H _ _ st' r h1 p
  · cases h2; exact ha W cw w st σ H _ _ _ r h1 fun w1 H1 l1 r1 => p w1 H1 l1 r1
/-! ### and, or, not as values -/
def vAnd (f g : M Val) : M Val := bnd f fun v => bnd (asBl v) fun b => if b then g else ret (.t (.bl false))
def vOr (f g : M Val) : M Val := bnd f fun v => bnd (asBl v) fun b => if b then ret (.t (.bl true)) else g
def vNot (f : M Val) : M Val := bnd f fun v => bnd (asBl v) fun b => ret (.t (.bl (!b)))
theorem de_one {op : BoolOp} {a : Expr} {pos : Pos} {f : M Val} (ha : DE cl X a f) : DE cl X (.BoolOp op [a] pos) f := fun W cw w st σ H Q o st' r h p => PE.we (pe_one peW) (ha W cw w st σ H Q o st' r h p)
theorem bl_bnd {α : Type} {v : Val} {k : Bool → M α} {s s' : DSt} {o : Out α} (h : bnd (asBl v) k s = some (o, s')) : ∃ b, v = .t (.bl b) ∧ k b s = some (o, s') := by
  rcases bnd_some h with ⟨c, fs, h1, rfl⟩ | ⟨b, st1, h1, h2⟩
  · obtain ⟨b, _, e, _⟩ := asBl_some h1
    cases e
  · obtain ⟨b', rfl, e, rfl⟩ := asBl_some h1
    cases e
    exact ⟨_, rfl, h2⟩
theorem de_and {a b : Expr} {rest : List Expr} {pos : Pos} {f g : M Val} (ha : DE cl X a f) (hb : DE cl X (.BoolOp .And (b :: rest) pos) g) : DE cl X (.BoolOp .And (a :: b :: rest) pos) (vAnd f g) := fun W cw w st σ H Q o st' r h p => by
  refine PE.we (pe_and peW peW) ?_
  unfold tAndV
  rcases bnd_some h with ⟨c, fs, h1, rfl⟩ | ⟨v, st1, h1, h2⟩
  · exact ha W cw w st σ H _ _ st' r h1 p
  · obtain ⟨b, rfl, h3⟩ := bl_bnd h2
    refine ha W cw w st σ H _ _ st1 r h1 fun w1 H1 l1 r1 x hx => ?_
    cases hx
    refine ⟨b, rfl, ?_⟩
    cases b with
    | true => exact hb W cw w1 st1 σ H1 _ _ st' r1 h3 (p.after l1)
    | false => cases h3; exact p w1 H1 l1 r1 _ (.bl _)
theorem de_or {a b : Expr} {rest : List Expr} {pos : Pos} {f g : M Val} (ha : DE cl X a f) (hb : DE cl X (.BoolOp .Or (b :: rest) pos) g) : DE cl X (.BoolOp .Or (a :: b :: rest) pos) (vOr f g) := fun W cw w st σ H Q o st' r h p => by
  refine PE.we (pe_or peW peW) ?_
  unfold tOrV
  rcases bnd_some h with ⟨c, fs, h1, rfl⟩ | ⟨v, st1, h1, h2⟩
  · exact ha W cw w st σ H _ _ st' r h1 p
  · obtain ⟨b, rfl, h3⟩ := bl_bnd h2
    refine ha W cw w st σ H _ _ st1 r h1 fun w1 H1 l1 r1 x hx => ?_
    cases hx
    refine ⟨b, rfl, ?_⟩
    cases b with
    | false => exact hb W cw w1 st1 σ H1 _ _ st' r1 h3 (p.after l1)
    | true => cases h3; exact p w1 H1 l1 r1 _ (.bl _)
theorem de_not {a : Expr} {pos : Pos} {f : M Val} (ha : DE cl X a f) : DE cl X (.UnaryOp .Not a pos) (vNot f) := fun W cw w st σ H Q o st' r h p => by
  refine PE.we (pe_not peW) ?_
  unfold tNotV
  rcases bnd_some h with ⟨c, fs, h1, rfl⟩ | ⟨v, st1, h1, h2⟩
  · exact ha W cw w st σ H _ _ st' r h1 p
  · obtain ⟨b, rfl, h3⟩ := bl_bnd h2
    cases h3
    refine ha W cw w st σ H _ _ _ r h1 fun w1 H1 l1 r1 x hx => ?_
    cases hx
    exact ⟨b, rfl, p w1 H1 l1 r1 _ (.bl _)⟩
def dNeg : Val → M Val
  | .t (.int i) => ret (.t (.int (-i)))
  | _ => stuck
theorem de_neg {a : Expr} {pos : Pos} {f : M Val} (ha : DE cl X a f) : DE cl X (.UnaryOp .USub a pos) (bnd f dNeg) := fun W cw w st σ H Q o st' r h p => by
  refine PE.we (pe_un un_neg peW) ?_
  unfold tUn
  rcases bnd_some h with ⟨c, fs, h1, rfl⟩ | ⟨v, st1, h1, h2⟩
  · exact ha W cw w st σ H _ _ st' r h1 p
  · unfold dNeg at h2
    split at h2
    · cases h2
      refine ha W cw w st σ H _ _ _ r h1 fun w1 H1 l1 r1 x hx => ?_
      cases hx
      exact ⟨_, rfl, p w1 H1 l1 r1 _ (.int _)⟩
    · cases h2
def dIf {α : Type} (c : M Bool) (f g : M α) : M α := bnd c fun b => if b then f else g
theorem de_if {c a b : Expr} {pos : Pos} {fc : M Bool} {f g : M Val} (hc : DT cl X c fc) (ha : DE cl X a f) (hb : DE cl X b g) : DE cl X (.IfExp c a b pos) (dIf fc f g) := fun W cw w st σ H Q o st' r h p => by
  refine PE.we (pe_ifExp ptW peW peW) ?_
  unfold tIf
  rcases bnd_some h with ⟨c, fs, h1, rfl⟩ | ⟨v, st1, h1, h2⟩
  · exact hc W cw w st σ H _ _ st' r h1 p
  · refine hc W cw w st σ H _ _ st1 r h1 fun w1 H1 l1 r1 => ?_
    cases v with
    | true => exact ha W cw w1 st1 σ H1 _ _ st' r1 h2 (p.after l1)
    | false => exact hb W cw w1 st1 σ H1 _ _ st' r1 h2 (p.after l1)
/-! ### a < b < c -/
def dChain (g g' : Val → Val → M Val) (fa fb fc : M Val) : M Val := bnd fa fun a => bnd fb fun b => bnd (g a b) fun z => bnd (asBl z) fun k => if k then bnd fc fun c => g' b c else ret (.t (.bl false))
/-! ### arguments, displays -/
theorem da_nil : DA cl X [] (ret []) := fun W cw w st σ H Q o st' r h p => by
  cases h
  exact PA.wa pa_nil (p w H (Le.refl _ _) r [] .nil)
def dCons (f : M Val) (g : M (List Val)) : M (List Val) := bnd f fun v => bnd g fun vs => ret (v :: vs)
theorem da_cons {e : Expr} {es : List Expr} {f : M Val} {g : M (List Val)} (hs : starEach (e :: es) X.env = (false, eval e X.env) :: starEach es X.env) (ha : DE cl X e f) (hb : DA cl X es g) : DA cl X (e :: es) (dCons f g) := fun W cw w st σ H Q o st' r h p => by
  refine PA.wa (pa_cons peW paW hs) ?_
  unfold tCons
  rcases bnd_some h with ⟨c, fs, h1, rfl⟩ | ⟨v, st1, h1, h2⟩
  · exact ha W cw w st σ H _ _ st' r h1 p
  · refine ha W cw w st σ H _ _ st1 r h1 fun w1 H1 l1 r1 x hx => ?_
    rcases bnd_some h2 with ⟨c, fs, h3, rfl⟩ | ⟨vs, st2, h3, h4⟩
    · exact hb W cw w1 st1 σ H1 _ _ st' r1 h3 (p.after l1)
    · cases h4
      exact hb W cw w1 st1 σ H1 _ _ _ r1 h3 fun w2 H2 l2 r2 xs hxs => p w2 H2 (l1.trans l2) r2 _ (.cons (hx.le l2) hxs)
end
end Lf
namespace Lf
open PySem PySem.Spec L2
section
variable {cl : Cl} {X : Cx}
/-! ### an own slot is given away: it stands still from then on -/
theorem OwnR.ho {K : PySem.W.Frag} {G H : Hp} {o : Own} {a : Addr} (h : OwnR K cl G H o a) : ∃ ho, (H a = some ho ∨ (isD ho = true ∧ ∃ q, H a = some (.frz q ho))) ∧ ∀ G', Same G G' → G' a = some ho → Rep K cl G' o.tree (.ref a) := by
  cases o with
  | lst xs => obtain ⟨vs, h1, h2⟩ := h; exact ⟨_, .inl h1, fun G' s e => .lst e (h2.mono s)⟩
  | dic l kvs => cases l with
    | false => obtain ⟨vs, h1, h2⟩ := h; exact ⟨_, .inl h1, fun G' s e => .dic e (h2.mono s)⟩
    | true => obtain ⟨q, vs, h1, h2⟩ := h; exact ⟨.dK vs, .inr ⟨rfl, q, h1⟩, fun G' s e => .dic e (h2.mono s)⟩
  | dit l kvs => cases l with
    | false => obtain ⟨vs, h1, h2⟩ := h; exact ⟨_, .inl h1, fun G' s e => .dit e (h2.mono s)⟩
    | true => obtain ⟨q, vs, h1, h2⟩ := h; exact ⟨.dT vs, .inr ⟨rfl, q, h1⟩, fun G' s e => .dit e (h2.mono s)⟩
theorem lt_of_get {α : Type} {l : List α} {i : Nat} {a : α} (h : l[i]? = some a) : i < l.length := (List.getElem?_eq_some_iff.mp h).1
theorem R.freeze {K : PySem.W.Frag} {w : Wd} {st : DSt} {σ : L2.St} {H : Hp} (r : R K cl w st σ H) {i : Nat} {o : Own} (e : st.δ[i]? = some (some (.own o))) :
    ∃ a w', σ[i]? = some (some (.ref a)) ∧ Le w H w' H ∧ R K cl w' { st with δ := st.δ.set i (some (.t o.tree)) } σ H ∧ Rep K cl w'.G o.tree (.ref a) := by
  obtain ⟨x, e1, a, rfl, e2, e3⟩ := r.slot i _ e
  obtain ⟨ho, h1, h2⟩ := e3.ho
  obtain ⟨ga, na⟩ := r.rc.own a _ e2
  let w' : Wd := { w with G := upd w.G a ho, ω := fun b => if b = a then none else w.ω b }
  have sg : Same w.G w'.G := fun b u q => by
    show upd w.G a ho b = some u
    rw [upd_ne (ne_of_none q ga)]; exact q
  have rp : Rep K cl w'.G o.tree (.ref a) := h2 _ sg upd_same
  have hne : ∀ {b o'}, w.ω b = some o' → o' ≠ .slot i → b ≠ a := fun {b o'} q q' z => by rw [z, e2] at q; cases q; exact q' rfl
  refine ⟨a, w', e1, ⟨List.prefix_refl _, sg, fun b q _ => ?_, fun b u _ q => q, fun b q _ => ?_⟩, ⟨⟨fun b u q => ?_, r.rc.len, fun n c b q1 q2 q3 => ?_, fun b u q => ?_, fun n x b q1 q2 => (r.rc.fz n x b q1 q2).mono sg⟩, ?_, fun j s q => ?_⟩, rp⟩
  · show (if b = a then none else w.ω b) = none
    split
    · rfl
    · exact q
  · show upd w.G a ho b = w.G b
    exact upd_ne fun z => by rw [z, e2] at q; cases q
  · by_cases hb : b = a
    · subst hb
      have q' : upd w.G b ho b = some u := q
      rw [upd_same] at q'
      cases q'
      exact h1
    · have q' : upd w.G a ho b = some u := q
      rw [upd_ne hb] at q'
      exact r.rc.sub b u q'
  · obtain ⟨x1, x2⟩ := r.rc.cell n c b q1 q2 q3
    have hb := hne x1 (fun z => by cases z)
    refine ⟨?_, CellR.keep (w := w) (w' := w') (List.prefix_refl _) sg (fun _ z => z) x2⟩
    show (if b = a then none else w.ω b) = _
    rw [if_neg hb]; exact x1
  · have q' : (if b = a then none else w.ω b) = some u := q
    by_cases hb : b = a
    · rw [if_pos hb] at q'; cases q'
    · rw [if_neg hb] at q'
      refine ⟨?_, (r.rc.own b u q').2⟩
      show upd w.G a ho b = none
      rw [upd_ne hb]; exact (r.rc.own b u q').1
  · show (st.δ.set i (some (.t o.tree))).length = σ.length
    rw [List.length_set]; exact r.slen
  · have q' : (st.δ.set i (some (.t o.tree)))[j]? = some (some s) := q
    by_cases hj : i = j
    · subst hj
      rw [List.getElem?_set_self (lt_of_get e)] at q'
      cases q'
      exact ⟨_, e1, rp⟩
    · rw [List.getElem?_set_ne hj] at q'
      obtain ⟨y, y1, y2⟩ := r.slot j s q'
      refine ⟨y, y1, ?_⟩
      cases s with
      | t z => exact Rep.mono sg y2
      | loc n => exact y2
      | own o' =>
        obtain ⟨b, z1, z2, z3⟩ := y2
        have hb := hne z2 (fun z => by cases z; exact hj rfl)
        refine ⟨b, z1, ?_, z3.keep sg fun _ z => z⟩
        show (if b = a then none else w.ω b) = _
        rw [if_neg hb]; exact z2
      | exc c fs => trivial
/-- a value, given away -/
def frz : Val → M T
  | .t x => ret x
  | .sl i => fun s => match s.δ[i]? with
    | some (some (.own o)) => some (.ok o.tree, { s with δ := s.δ.set i (some (.t o.tree)) })
    | some (some (.t x)) => some (.ok x, s)
    | _ => none
  | .loc _ => stuck
theorem frz_at {K : PySem.W.Frag} {w : Wd} {st st' : DSt} {σ : L2.St} {H : Hp} (r : R K cl w st σ H) {v : Val} {x : V} {o : Out T} (hv : VR K cl w σ v x) (h : frz v st = some (o, st')) : ∃ t w', o = .ok t ∧ Le w H w' H ∧ R K cl w' st' σ H ∧ Rep K cl w'.G t x := by
  cases v with
  | t y => cases h; exact ⟨y, w, rfl, Le.refl _ _, r, hv⟩
  | loc n => cases h
  | sl i =>
    unfold frz at h
    dsimp only at h
    split at h
    · rename_i ow e
      cases h
      obtain ⟨a, w', e1, l, r', rp⟩ := r.freeze e
      rw [show σ[i]? = some (some x) from hv] at e1
      cases e1
      exact ⟨_, w', rfl, l, r', rp⟩
    · rename_i y e
      cases h
      obtain ⟨z, e1, q⟩ := r.slot i _ e
      rw [show σ[i]? = some (some x) from hv] at e1
      cases e1
      exact ⟨y, w, rfl, Le.refl _ _, r, q⟩
    · cases h
def frzs : List Val → M (List T)
  | [] => ret []
  | v :: vs => bnd (frz v) fun t => bnd (frzs vs) fun ts => ret (t :: ts)
theorem frzs_at {K : PySem.W.Frag} {σ : L2.St} {H : Hp} : ∀ {vs : List Val} {xs : List V} {w : Wd} {st st' : DSt} {o : Out (List T)}, R K cl w st σ H → Paired (VR K cl w σ) vs xs → frzs vs st = some (o, st') → ∃ ts w', o = .ok ts ∧ Le w H w' H ∧ R K cl w' st' σ H ∧ Reps K cl w'.G ts xs
  | [], _, w, st, st', o, r, .nil, h => by cases h; exact ⟨[], w, rfl, Le.refl _ _, r, .nil⟩
  | v :: vs, _, w, st, st', o, r, .cons hv hvs, h => by
    unfold frzs at h
    rcases bnd_some h with ⟨c, fs, h1, rfl⟩ | ⟨t, st1, h1, h2⟩
    · obtain ⟨t, w', e, _⟩ := frz_at r hv h1
      cases e
    · obtain ⟨t', w1, e, l1, r1, q1⟩ := frz_at r hv h1
      cases e
      rcases bnd_some h2 with ⟨c, fs, h3, rfl⟩ | ⟨ts, st2, h3, h4⟩
      · obtain ⟨ts, w', e, _⟩ := frzs_at r1 (hvs.mono fun _ _ z => z.le l1) h3
        cases e
      · obtain ⟨ts', w2, e, l2, r2, q2⟩ := frzs_at r1 (hvs.mono fun _ _ z => z.le l1) h3
        cases e
        cases h4
        exact ⟨_, w2, rfl, l1.trans l2, r2, .cons (q1.mono l2.g) q2⟩
/-! ### displays -/
theorem df_lst {es : List Expr} {pos : Pos} {f : M (List Val)} (h : DA cl X es f) : DF cl X (.List es pos) (bnd f fun vs => bnd (frzs vs) fun ts => if ts.length ≤ sizeLine then ret (.lst ts) else stuck) := fun W cw w st σ H Q o st' r hf p => by
  refine PE.we (pe_lst paW) ?_
  unfold tLst
  rcases bnd_some hf with ⟨c, fs, h1, rfl⟩ | ⟨vs, st1, h1, h2⟩
  · exact h W cw w st σ H _ _ st' r h1 p
  · refine h W cw w st σ H _ _ st1 r h1 fun w1 H1 l1 r1 xs hxs => ?_
    rcases bnd_some h2 with ⟨c, fs, h3, rfl⟩ | ⟨ts, st2, h3, h4⟩
    · obtain ⟨ts, w', e, _⟩ := frzs_at r1 hxs h3
      cases e
    · obtain ⟨ts', w2, e, l2, r2, q2⟩ := frzs_at r1 hxs h3
      cases e
      split at h4
      · rename_i hl
        cases h4
        refine ⟨by rw [← q2.length]; exact hl, fun a ha => ?_⟩
        exact p w2 H1 (l1.trans l2) r2 a (.lst xs) ha fun H2 e2 => ⟨xs, e2, q2⟩
      · cases h4
theorem de_tup {es : List Expr} {x1} {pos : Pos} {f : M (List Val)} (h : DA cl X es f) : DE cl X (.Tuple es x1 pos) (bnd f fun vs => bnd (frzs vs) fun ts => if ts.length ≤ sizeLine then ret (.t (.tup ts)) else stuck) := fun W cw w st σ H Q o st' r hf p => by
  refine PE.we (pe_tup paW) ?_
  unfold tTup
  rcases bnd_some hf with ⟨c, fs, h1, rfl⟩ | ⟨vs, st1, h1, h2⟩
  · exact h W cw w st σ H _ _ st' r h1 p
  · refine h W cw w st σ H _ _ st1 r h1 fun w1 H1 l1 r1 xs hxs => ?_
    rcases bnd_some h2 with ⟨c, fs, h3, rfl⟩ | ⟨ts, st2, h3, h4⟩
    · obtain ⟨ts, w', e, _⟩ := frzs_at r1 hxs h3
      cases e
    · obtain ⟨ts', w2, e, l2, r2, q2⟩ := frzs_at r1 hxs h3
      cases e
      split at h4
      · rename_i hl
        cases h4
        refine ⟨by rw [← q2.length]; exact hl, fun a ha => ?_⟩
        exact finT r2 q2 (p.after (l1.trans l2)) ha
      · cases h4
/-- a new object, given away at once -/
def keep : Own → M Val
  | .lst xs => ret (.t (.lst xs))
  | .dic false kvs => ret (.t (.dic kvs))
  | .dit false kvs => ret (.t (.dit kvs))
  | _ => stuck
theorem DF.de {e : Expr} {f : M Own} (h : DF cl X e f) : DE cl X e (bnd f keep) := fun W cw w st σ H Q o st' r hf p => by
  rcases bnd_some hf with ⟨c, fs, h1, rfl⟩ | ⟨ow, st1, h1, h2⟩
  · exact h W cw w st σ H _ _ st' r h1 p
  · have key : ∀ {w1 : Wd} {H1 : Hp} (l1 : Le w H w1 H1) (r1 : R X.K cl w1 st1 σ H1) (a : Addr) (ho : HO) (ha : H1 a = none) (hO : ∀ H2, H2 a = some ho → OwnR X.K cl w1.G H2 ow a), Q (.ref a) (upd H1 a ho) := fun {w1 H1} l1 r1 a ho ha hO => by
      obtain ⟨r2, l2⟩ := r1.fresh ha ho
      unfold keep at h2
      split at h2
      · cases h2
        obtain ⟨vs, e1, e2⟩ := hO (upd H1 a ho) upd_same
        rw [upd_same] at e1
        cases e1
        exact p _ _ (l1.trans l2) r2 _ (Rep.lst upd_same (e2.mono l2.g))
      · cases h2
        obtain ⟨vs, e1, e2⟩ := hO (upd H1 a ho) upd_same
        rw [upd_same] at e1
        cases e1
        exact p _ _ (l1.trans l2) r2 _ (Rep.dic upd_same (e2.mono l2.g))
      · cases h2
        obtain ⟨vs, e1, e2⟩ := hO (upd H1 a ho) upd_same
        rw [upd_same] at e1
        cases e1
        exact p _ _ (l1.trans l2) r2 _ (Rep.dit upd_same (e2.mono l2.g))
      · cases h2
    exact h W cw w st σ H _ _ st1 r h1 fun w1 H1 l1 r1 a ho ha hO => key l1 r1 a ho ha hO

/-! ### stores -/
theorem R.setP {K : PySem.W.Frag} {w : Wd} {st : DSt} {σ : L2.St} {H : Hp} (r : R K cl w st σ H) {i : Nat} {s : Slot} {x : V} (hi : i < σ.length) (hs : SlotR K cl w H i s x) : R K cl w { st with δ := st.δ.set i (some s) } (σ.set i (some x)) H := by
  refine ⟨r.rc, by rw [List.length_set, List.length_set]; exact r.slen, fun j s' q => ?_⟩
  have q' : (st.δ.set i (some s))[j]? = some (some s') := q
  by_cases hj : i = j
  · subst hj
    rw [List.getElem?_set_self (by rw [r.slen]; exact hi)] at q'
    cases q'
    exact ⟨x, List.getElem?_set_self hi, hs⟩
  · rw [List.getElem?_set_ne hj] at q'
    rw [List.getElem?_set_ne hj]
    exact r.slot j s' q'
/-- a value into a slot -/
def put (i : Nat) : Val → M Unit
  | .t x => fun s => some (.ok (), { s with δ := s.δ.set i (some (.t x)) })
  | .loc n => fun s => some (.ok (), { s with δ := s.δ.set i (some (.loc n)) })
  | .sl j => bnd (frz (.sl j)) fun x => fun s => some (.ok (), { s with δ := s.δ.set i (some (.t x)) })
theorem put_at {K : PySem.W.Frag} {w : Wd} {st st' : DSt} {σ : L2.St} {H : Hp} (r : R K cl w st σ H) {i : Nat} (hi : i < σ.length) {v : Val} {x : V} {o : Out Unit} (hv : VR K cl w σ v x) (h : put i v st = some (o, st')) : ∃ w', o = .ok () ∧ Le w H w' H ∧ R K cl w' st' (σ.set i (some x)) H := by
  cases v with
  | t y => cases h; exact ⟨w, rfl, Le.refl _ _, r.setP hi hv⟩
  | loc n => cases h; exact ⟨w, rfl, Le.refl _ _, r.setP hi hv⟩
  | sl j =>
    unfold put at h
    rcases bnd_some h with ⟨c, fs, h1, rfl⟩ | ⟨t, st1, h1, h2⟩
    · obtain ⟨t, w', e, _⟩ := frz_at r hv h1
      cases e
    · obtain ⟨t', w1, e, l1, r1, q1⟩ := frz_at r hv h1
      cases e
      cases h2
      exact ⟨w1, rfl, l1, r1.setP hi q1⟩
/-- what a target does with a value; vs: the slots that it touches -/
def DG (cl : Cl) (X : Cx) (tg : Expr) (vs : List Nat) (g : Val → M Unit) : Prop :=
  ∀ (W : WX), Cw X W → ∀ (w : Wd) (st : DSt) (σ : L2.St) (H : Hp) (Q : L2.St → Hp → Prop) (v : Val) (x : V) (u : Value) (st' : DSt) (pins : List (Addr × Obj)) (s : Shared), R X.K cl w st σ H → VR X.K cl w σ v x → g v st = some (.ok (), st') →
  (∀ w' σ' H', Le w H w' H' → R X.K cl w' st' σ' H' → σ'.length = σ.length → (∀ j, j ∉ vs → σ'[j]? = σ[j]?) → Q σ' H') → Inv X pins σ H s → RelV x u →
  wpAny (model X.prog X.w) X.A (assign tg X.env u) (fun _ s' => ∃ σ' H', Inv X pins σ' H' s' ∧ Q σ' H') X.xe s
/-- a target lets no exception out -/
def Quiet {α : Type} (g : Val → M α) : Prop := ∀ v s c fs s', g v s ≠ some (.exc c fs, s')
theorem frz_quiet : Quiet frz := fun v s c fs s' h => by
  cases v with
  | t x => cases h
  | loc n => cases h
  | sl i =>
    unfold frz at h
    dsimp only at h
    split at h <;> cases h
theorem put_quiet {i : Nat} : Quiet (put i) := fun v s c fs s' h => by
  cases v with
  | t x => cases h
  | loc n => cases h
  | sl j =>
    unfold put at h
    rcases bnd_some h with ⟨c, fs, h1, _⟩ | ⟨t, st1, h1, h2⟩
    · exact frz_quiet _ _ _ _ _ h1
    · cases h2
theorem dg_name {i : Nat} {x : Str} {pos : Pos} (hN : X.N.Nodup) (hi : X.N[i]? = some x) (hx : Loc X.env.scope x) (hf : X.fn x = true ∨ X.env.scope.names.lookup x = some .local) : DG cl X (.Name x pos) [i] (put i) := fun W cw w st σ H Q v y u st' pins s r hv h p I ru => by
  have hl : i < σ.length := by rw [I.len]; exact lt_of_get hi
  obtain ⟨w', _, l, r'⟩ := put_at r hl hv h
  exact (pg_name (X := X) (pos := pos) hN hi hx hf).run pins s σ H y u Q I ru (p w' _ H l r' (List.length_set ..) fun j hj => List.getElem?_set_ne (fun z => hj (by simp [z])))
/-- several names -/
inductive NmA (X : Cx) : List Expr → List Nat → Prop
  | nil : NmA X [] []
  | cons {i : Nat} {x : Str} {pos : Pos} {es : List Expr} {is : List Nat} : X.N[i]? = some x → Loc X.env.scope x → (X.fn x = true ∨ X.env.scope.names.lookup x = some .local) → NmA X es is → NmA X (.Name x pos :: es) (i :: is)
def puts : List Nat → List T → M Unit
  | [], [] => ret ()
  | i :: is, t :: ts => bnd (put i (.t t)) fun _ => puts is ts
  | _, _ => stuck
def unpack (is : List Nat) : Val → M Unit
  | .t (.tup ts) => puts is ts
  | _ => stuck
theorem puts_quiet : ∀ {is : List Nat} {ts : List T} {s : DSt} {c : Str} {fs : List (Str × T)} {s' : DSt}, puts is ts s ≠ some (.exc c fs, s')
  | [], [], _, _, _, _, h => by cases h
  | i :: is, t :: ts, s, c, fs, s', h => by
    unfold puts at h
    rcases bnd_some h with ⟨c, fs, h1, _⟩ | ⟨_, st1, h1, h2⟩
    · exact put_quiet _ _ _ _ _ h1
    · exact puts_quiet h2
  | [], _ :: _, _, _, _, _, h => by cases h
  | _ :: _, [], _, _, _, _, h => by cases h
theorem unpack_quiet {is : List Nat} : Quiet (unpack is) := fun v s c fs s' h => by
  unfold unpack at h
  split at h
  · exact puts_quiet h
  · cases h
/-- the stores of the items, at the level of slots -/
def setAll : List Nat → List V → L2.St → L2.St
  | i :: is, x :: xs, σ => setAll is xs (σ.set i (some x))
  | _, _, σ => σ
theorem pgs_names (hN : X.N.Nodup) : ∀ {es : List Expr} {is : List Nat}, NmA X es is → PGs X es (fun vs σ H Q => vs.length = is.length ∧ Q (setAll is vs σ) H) ∧ (assignEach es X.env).length = is.length ∧ (assignEach es X.env).findIdx? (·.1) = none
  | _, _, .nil => ⟨⟨fun pins s σ H vs us Q I r h => by
      obtain ⟨e, h⟩ := h
      cases vs with
      | nil => exact pgs_nil.run pins s σ H [] us Q I r ⟨rfl, h⟩
      | cons a b => cases e⟩, rfl, rfl⟩
  | _, _, .cons (i := i) (x := x) (pos := pos) (es := es) (is := is) hi hx hf t => by
    obtain ⟨q, l1, l2⟩ := pgs_names hN t
    refine ⟨⟨fun pins s σ H vs us Q I r h => ?_⟩, ?_, ?_⟩
    · obtain ⟨e, h⟩ := h
      cases vs with
      | nil => cases e
      | cons a b =>
        exact (pgs_cons (pg_name (pos := pos) hN hi hx hf) q rfl).run pins s σ H (a :: b) us Q I r ⟨a, b, rfl, by simpa using e, h⟩
    · show ((assignEach es X.env).length + 1) = _
      rw [l1]; rfl
    · show List.findIdx? (·.1) ((false, _) :: assignEach es X.env) = none
      rw [List.findIdx?_cons, l2]; rfl
theorem puts_at {K : PySem.W.Frag} {H : Hp} : ∀ {is : List Nat} {ts : List T} {w : Wd} {st st' : DSt} {σ : L2.St} {xs : List V}, R K cl w st σ H → (∀ i ∈ is, i < σ.length) → Reps K cl w.G ts xs → puts is ts st = some (.ok (), st') → R K cl w st' (setAll is xs σ) H ∧ (setAll is xs σ).length = σ.length ∧ (∀ j, j ∉ is → (setAll is xs σ)[j]? = σ[j]?) ∧ xs.length = is.length
  | [], [], w, st, st', σ, _, r, hl, .nil, h => by cases h; exact ⟨r, rfl, fun _ _ => rfl, rfl⟩
  | i :: is, t :: ts, w, st, st', σ, _, r, hl, .cons (v := x) (vs := xs) q qs, h => by
    unfold puts at h
    rcases bnd_some h with ⟨c, fs, h1, e⟩ | ⟨_, st1, h1, h2⟩
    · cases e
    · cases h1
      have r1 := r.setP (s := .t t) (hl i List.mem_cons_self) q
      obtain ⟨a1, a2, a3, a4⟩ := puts_at r1 (fun j hj => by rw [List.length_set]; exact hl j (List.mem_cons_of_mem _ hj)) qs h2
      refine ⟨a1, a2.trans (List.length_set ..), fun j hj => ?_, by simp [a4]⟩
      rw [List.mem_cons, not_or] at hj
      exact (a3 j hj.2).trans (List.getElem?_set_ne fun z => hj.1 z.symm)
  | [], _ :: _, _, _, _, _, _, _, _, _, h => by cases h
  | _ :: _, [], _, _, _, _, _, _, _, _, h => by cases h
theorem NmA.lt {es : List Expr} {is : List Nat} (h : NmA X es is) : ∀ i ∈ is, i < X.N.length := by
  induction h with
  | nil => intro i hi; cases hi
  | cons h1 _ _ _ ih =>
    intro i hi
    rcases List.mem_cons.mp hi with rfl | hi
    · exact lt_of_get h1
    · exact ih i hi
theorem dg_tup {es : List Expr} {is : List Nat} {k : Nat} {pos : Pos} (hc : X.calm = true) (hN : X.N.Nodup) (hn : NmA X es is) : DG cl X (.Tuple es k pos) is (unpack is) := fun W cw w st σ H Q v y u st' pins s r hv h p I ru => by
  obtain ⟨q, l1, l2⟩ := pgs_names (X := X) hN hn
  unfold unpack at h
  split at h
  · rename_i ts
    cases hv with
    | tup e1 e2 =>
      obtain ⟨a1, a2, a3, a4⟩ := puts_at r (fun i hi => by rw [I.len]; exact hn.lt i hi) e2 h
      exact (pg_tup (X := X) (k := k) (pos := pos) (n := is.length) hc q l1 l2).run pins s σ H _ u Q I ru ⟨_, _, rfl, SqT.of (r.rc.tup e1), a4, a4, p w _ H (Le.refl _ _) a1 a2 a3⟩
  · cases h
end
end Lf
namespace Lf
open PySem PySem.Spec L2
section
variable {cl : Cl} {X : Cx}
/-! ### blocks -/
theorem dss_nil : DSs cl X [] (ret .nx) := fun W cw w st σ H D o st' r h p => by
  cases h
  exact PSs.ws pss_nil (p w σ H (Le.refl _ _) r)
def dSeq (f g : M Fl) : M Fl := bnd f fun fl => match fl with
  | .nx => g
  | fl => ret fl
theorem dss_cons {s : Stmt} {ss : List Stmt} {f g : M Fl} (hf : DS cl X s f) (hg : DSs cl X ss g) : DSs cl X (s :: ss) (dSeq f g) := fun W cw w st σ H D o st' r h p => by
  refine PSs.ws (pss_cons psW pssW) ?_
  unfold tSeq
  rcases bnd_some h with ⟨c, fs, h1, rfl⟩ | ⟨fl, st1, h1, h2⟩
  · exact hf W cw w st σ H _ _ st' r h1 p
  · cases fl with
    | nx => exact hf W cw w st σ H _ _ st1 r h1 fun w1 σ1 H1 l1 r1 => hg W cw w1 st1 σ1 H1 D o st' r1 h2 (p.after l1)
    | rt v => cases h2; exact hf W cw w st σ H _ _ _ r h1 p
    | rf v => cases h2; exact hf W cw w st σ H _ _ _ r h1 p
    | bk => cases h2; exact hf W cw w st σ H _ _ _ r h1 p
    | ct => cases h2; exact hf W cw w st σ H _ _ _ r h1 p
/-- a part whose semantics is not needed -/
theorem ds_stuck {s : Stmt} : DS cl X s stuck := fun W cw w st σ H D o st' r h p => by cases h
theorem dss_stuck {s : List Stmt} : DSs cl X s stuck := fun W cw w st σ H D o st' r h p => by cases h
theorem de_stuck {e : Expr} : DE cl X e stuck := fun W cw w st σ H D o st' r h p => by cases h
theorem dt_stuck {e : Expr} : DT cl X e stuck := fun W cw w st σ H D o st' r h p => by cases h
/-! ### simple statements -/
theorem ds_expr {e : Expr} {pos : Pos} {f : M Val} (hs : swapsWith e none pos.line X.env = pure false) (he : DE cl X e f) : DS cl X (.Expr e pos) (bnd f fun _ => ret .nx) := fun W cw w st σ H D o st' r h p => by
  refine PS.ws (ps_expr peW hs) ?_
  unfold tDrop
  rcases bnd_some h with ⟨c, fs, h1, rfl⟩ | ⟨v, st1, h1, h2⟩
  · exact he W cw w st σ H _ _ st' r h1 p.toPost
  · cases h2
    exact he W cw w st σ H _ _ _ r h1 fun w1 H1 l1 r1 x hx => p w1 σ H1 l1 r1
theorem ds_pass {pos : Pos} : DS cl X (.Pass pos) (ret .nx) := fun W cw w st σ H D o st' r h p => by
  cases h
  exact PS.ws ps_pass (p w σ H (Le.refl _ _) r)
theorem ds_break {pos : Pos} : DS cl X (.Break pos) (ret .bk) := fun W cw w st σ H D o st' r h p => by
  cases h
  exact PS.ws ps_break (p w σ H (Le.refl _ _) r)
theorem ds_continue {pos : Pos} : DS cl X (.Continue pos) (ret .ct) := fun W cw w st σ H D o st' r h p => by
  cases h
  exact PS.ws ps_continue (p w σ H (Le.refl _ _) r)
/-- what is handed back stands still -/
def back : Val → M Fl
  | .t x => ret (.rt (.t x))
  | .loc n => ret (.rt (.loc n))
  | .sl i => bnd (frz (.sl i)) fun x => ret (.rt (.t x))
theorem ds_ret {e : Expr} {pos : Pos} {f : M Val} (he : DE cl X e f) : DS cl X (.Return (some e) pos) (bnd f back) := fun W cw w st σ H D o st' r h p => by
  refine PS.ws (ps_ret peW) ?_
  unfold tRet
  rcases bnd_some h with ⟨c, fs, h1, rfl⟩ | ⟨v, st1, h1, h2⟩
  · exact he W cw w st σ H _ _ st' r h1 p.toPost
  · refine he W cw w st σ H _ _ _ r h1 fun w1 H1 l1 r1 x hx => ?_
    cases v with
    | t y => cases h2; exact p w1 σ H1 l1 r1 x hx
    | loc n => cases h2; exact p w1 σ H1 l1 r1 x hx
    | sl i =>
      unfold back at h2
      rcases bnd_some h2 with ⟨c, fs, h3, rfl⟩ | ⟨t, st2, h3, h4⟩
      · obtain ⟨t, w', e, _⟩ := frz_at r1 hx h3
        cases e
      · obtain ⟨t', w2, e, l2, r2, q2⟩ := frz_at r1 hx h3
        cases e
        cases h4
        exact p w2 σ H1 (l1.trans l2) r2 x q2
theorem ds_retF {e : Expr} {pos : Pos} {f : M Own} (he : DF cl X e f) : DS cl X (.Return (some e) pos) (bnd f fun o => ret (.rf o)) := fun W cw w st σ H D o st' r h p => by
  refine PS.ws (ps_ret peW) ?_
  unfold tRet
  rcases bnd_some h with ⟨c, fs, h1, rfl⟩ | ⟨v, st1, h1, h2⟩
  · exact he W cw w st σ H _ _ st' r h1 p.toPost
  · cases h2
    exact he W cw w st σ H _ _ _ r h1 fun w1 H1 l1 r1 a ho ha hO => p w1 σ H1 l1 r1 a ho ha hO
theorem ds_retN {pos : Pos} : DS cl X (.Return none pos) (ret (.rt (.t .non))) := fun W cw w st σ H D o st' r h p => by
  cases h
  exact PS.ws ps_retN (p w σ H (Le.refl _ _) r _ .non)
theorem ds_if {c : Expr} {a b : List Stmt} {pos : Pos} {fc : M Bool} {f g : M Fl} (hc : DT cl X c fc) (ha : DSs cl X a f) (hb : DSs cl X b g) : DS cl X (.If c a b pos) (dIf fc f g) := fun W cw w st σ H D o st' r h p => by
  refine PS.ws (ps_if ptW pssW pssW) ?_
  unfold tIfS
  rcases bnd_some h with ⟨c, fs, h1, rfl⟩ | ⟨v, st1, h1, h2⟩
  · exact hc W cw w st σ H _ _ st' r h1 p.toPost
  · refine hc W cw w st σ H _ _ st1 r h1 fun w1 H1 l1 r1 => ?_
    cases v with
    | true => exact ha W cw w1 st1 σ H1 D _ st' r1 h2 (p.after l1)
    | false => exact hb W cw w1 st1 σ H1 D _ st' r1 h2 (p.after l1)
/-! ### x = e -/
theorem pgW {tg : Expr} {σ0 : L2.St} : PG X tg (fun v σ H Q => σ = σ0 ∧ ∀ pins s u, Inv X pins σ0 H s → RelV v u → wpAny (model X.prog X.w) X.A (assign tg X.env u) (fun _ s' => ∃ σ' H', Inv X pins σ' H' s' ∧ Q σ' H') X.xe s) :=
  ⟨fun pins s σ H v u Q I r h => by obtain ⟨rfl, h⟩ := h; exact h pins s u I r⟩
theorem ds_set {i : Nat} {x : Str} {e : Expr} {pos pos' : Pos} {f : M Val} (hN : X.N.Nodup) (hi : X.N[i]? = some x) (hx : Loc X.env.scope x) (hs : swapsWith e (some (.Name x pos')) pos.line X.env = pure false) (hf : X.fn x = true ∨ X.env.scope.names.lookup x = some .local) (he : DE cl X e f) :
    DS cl X (.Assign [.Name x pos'] e pos) (bnd f fun v => bnd (put i v) fun _ => ret .nx) := fun W cw w st σ H D o st' r h p => by
  intro pins s I
  refine (L2.ps_set (X := X) (pos := pos) (pos' := pos') hN hi hx peW hs hf).run pins s σ H D I ?_
  unfold tAsg gName
  rcases bnd_some h with ⟨c, fs, h1, rfl⟩ | ⟨v, st1, h1, h2⟩
  · exact he W cw w st σ H _ _ st' r h1 p.toPost
  · refine he W cw w st σ H _ _ _ r h1 fun w1 H1 l1 r1 y hy => ?_
    have hl : i < σ.length := by rw [I.len]; exact lt_of_get hi
    rcases bnd_some h2 with ⟨c, fs, h3, rfl⟩ | ⟨_, st2, h3, h4⟩
    · obtain ⟨w', e, _⟩ := put_at r1 hl hy h3
      cases e
    · obtain ⟨w', e, l2, r2⟩ := put_at r1 hl hy h3
      cases h4
      exact p w' _ H1 (l1.trans l2) r2
/-- a new object into a slot that owns it -/
def putO (i : Nat) (o : Own) : M Unit := fun s => some (.ok (), { s with δ := s.δ.set i (some (.own o)) })
theorem R.setO {K : PySem.W.Frag} {w : Wd} {st : DSt} {σ : L2.St} {H : Hp} (r : R K cl w st σ H) {i : Nat} {o : Own} (hi : i < σ.length) {a : Addr} {ho : HO} (ha : H a = none) (hO : ∀ H2, H2 a = some ho → OwnR K cl w.G H2 o a) :
    ∃ w', Le w H w' (upd H a ho) ∧ R K cl w' { st with δ := st.δ.set i (some (.own o)) } (σ.set i (some (.ref a))) (upd H a ho) := by
  let w' : Wd := { w with ω := fun b => if b = a then some (.slot i) else w.ω b }
  have ga : w.G a = none := by
    cases e : w.G a with
    | none => rfl
    | some u =>
      rcases r.rc.sub a u e with h | ⟨_, _, h⟩ <;> (rw [ha] at h; cases h)
  have oa : w.ω a = none := by
    cases e : w.ω a with
    | none => rfl
    | some u => exact absurd ha (r.rc.own a u e).2
  have kH : ∀ b u, H b = some u → upd H a ho b = some u := fun b u e => by rw [upd_ne (ne_of_none e ha)]; exact e
  refine ⟨w', ⟨List.prefix_refl _, Same.refl _, fun b q1 q2 => ?_, fun b u _ q => kH b u q, fun _ _ _ => rfl⟩, ⟨⟨fun b u q => ?_, r.rc.len, fun n c b q1 q2 q3 => ?_, fun b u q => ?_, r.rc.fz⟩, by rw [List.length_set, List.length_set]; exact r.slen, fun j s q => ?_⟩⟩
  · show (if b = a then some (.slot i) else w.ω b) = none
    rw [if_neg (fun z => q2 (by rw [z]; exact ha))]; exact q1
  · rcases r.rc.sub b u q with h | ⟨d, z, h⟩
    · exact .inl (kH _ _ h)
    · exact .inr ⟨d, z, kH _ _ h⟩
  · obtain ⟨x1, x2⟩ := r.rc.cell n c b q1 q2 q3
    have hb : b ≠ a := fun z => by rw [z, oa] at x1; cases x1
    refine ⟨?_, CellR.keep (w := w) (w' := w') (List.prefix_refl _) (Same.refl _) (kH b) x2⟩
    show (if b = a then some (.slot i) else w.ω b) = _
    rw [if_neg hb]; exact x1
  · have q' : (if b = a then some (Owner.slot i) else w.ω b) = some u := q
    by_cases hb : b = a
    · rw [hb]
      exact ⟨ga, by rw [upd_same]; exact fun z => nomatch z⟩
    · rw [if_neg hb] at q'
      refine ⟨(r.rc.own b u q').1, ?_⟩
      rw [upd_ne hb]; exact (r.rc.own b u q').2
  · have q' : (st.δ.set i (some (.own o)))[j]? = some (some s) := q
    by_cases hj : i = j
    · subst hj
      rw [List.getElem?_set_self (by rw [r.slen]; exact hi)] at q'
      cases q'
      refine ⟨.ref a, List.getElem?_set_self hi, a, rfl, ?_, hO _ upd_same⟩
      show (if a = a then some (Owner.slot i) else w.ω a) = _
      rw [if_pos rfl]
    · rw [List.getElem?_set_ne hj] at q'
      rw [List.getElem?_set_ne hj]
      obtain ⟨y, y1, y2⟩ := r.slot j s q'
      refine ⟨y, y1, ?_⟩
      cases s with
      | t z => exact y2
      | loc n => exact y2
      | own o' =>
        obtain ⟨b, z1, z2, z3⟩ := y2
        have hb : b ≠ a := fun z => by rw [z, oa] at z2; cases z2
        refine ⟨b, z1, ?_, z3.keep (Same.refl _) (kH b)⟩
        show (if b = a then some (Owner.slot i) else w.ω b) = _
        rw [if_neg hb]; exact z2
      | exc c fs => trivial
theorem ds_own {i : Nat} {x : Str} {e : Expr} {pos pos' : Pos} {f : M Own} (hN : X.N.Nodup) (hi : X.N[i]? = some x) (hx : Loc X.env.scope x) (hs : swapsWith e (some (.Name x pos')) pos.line X.env = pure false) (hf : X.fn x = true ∨ X.env.scope.names.lookup x = some .local) (he : DF cl X e f) :
    DS cl X (.Assign [.Name x pos'] e pos) (bnd f fun v => bnd (putO i v) fun _ => ret .nx) := fun W cw w st σ H D o st' r h p => by
  intro pins s I
  refine (L2.ps_set (X := X) (pos := pos) (pos' := pos') hN hi hx peW hs hf).run pins s σ H D I ?_
  unfold tAsg gName
  rcases bnd_some h with ⟨c, fs, h1, rfl⟩ | ⟨v, st1, h1, h2⟩
  · exact he W cw w st σ H _ _ st' r h1 p.toPost
  · refine he W cw w st σ H _ _ _ r h1 fun w1 H1 l1 r1 a ho ha hO => ?_
    have hl : i < σ.length := by rw [I.len]; exact lt_of_get hi
    cases h2
    obtain ⟨w', l2, r2⟩ := r1.setO hl ha hO
    exact p w' _ _ (l1.trans l2) r2
/-! ### while -/
def whileN (c : M Bool) (b : M Fl) : Nat → M Fl
  | 0 => stuck
  | n + 1 => bnd c fun k => if k then bnd b fun fl => match fl with
      | .nx => whileN c b n
      | .ct => whileN c b n
      | .bk => ret .nx
      | fl => ret fl
    else ret .nx
theorem ds_while {c : Expr} {body : List Stmt} {pos : Pos} {fc : M Bool} {fb : M Fl} (n : Nat) (hc : DT cl X c fc) (hb : DSs cl X body fb) : DS cl X (.While c body [] pos) (whileN fc fb n) := fun W cw w st σ H D o st' r h p => by
  intro pins s I
  refine (L2.ps_while (X := X) (pos := pos) cw.po ptW pssW).run pins s σ H D I ?_
  refine ⟨fun m σ1 H1 => ∃ w1 st1, Le w H w1 H1 ∧ R X.K cl w1 st1 σ1 H1 ∧ whileN fc fb m st1 = some (o, st'), ⟨n, w, st, Le.refl _ _, r, h⟩, ?_⟩
  rintro m σ1 H1 ⟨w1, st1, l1, r1, h1⟩
  cases m with
  | zero => cases h1
  | succ m =>
    unfold whileN at h1
    rcases bnd_some h1 with ⟨c, fs, h2, rfl⟩ | ⟨k, st2, h2, h3⟩
    · exact hc W cw w1 st1 σ1 H1 _ _ st' r1 h2 (p.after l1).toPost
    · refine hc W cw w1 st1 σ1 H1 _ _ st2 r1 h2 fun w2 H2 l2 r2 => ?_
      have l12 := l1.trans l2
      cases k with
      | false =>
        cases h3
        exact p w2 σ1 H2 l12 r2
      | true =>
        rw [if_pos rfl] at h3
        show (if true = true then _ else D.nx σ1 H2)
        rw [if_pos rfl]
        refine ⟨fun σ3 H3 => ∃ w3 st3, Le w H w3 H3 ∧ R X.K cl w3 st3 σ3 H3 ∧ whileN fc fb m st3 = some (o, st'), fun σ3 H3 q => ⟨m, Nat.lt_succ_self _, q⟩, ?_⟩
        rcases bnd_some h3 with ⟨c, fs, h4, rfl⟩ | ⟨fl, st3, h4, h5⟩
        · exact hb W cw w2 st2 σ1 H2 _ _ st' r2 h4 (p.after l12)
        · cases fl with
          | nx => exact hb W cw w2 st2 σ1 H2 _ _ st3 r2 h4 fun w3 σ3 H3 l3 r3 => ⟨w3, st3, l12.trans l3, r3, h5⟩
          | ct => exact hb W cw w2 st2 σ1 H2 _ _ st3 r2 h4 fun w3 σ3 H3 l3 r3 => ⟨w3, st3, l12.trans l3, r3, h5⟩
          | bk => cases h5; exact hb W cw w2 st2 σ1 H2 _ _ _ r2 h4 fun w3 σ3 H3 l3 r3 => p w3 σ3 H3 (l12.trans l3) r3
          | rt v => cases h5; exact hb W cw w2 st2 σ1 H2 _ _ _ r2 h4 (p.after l12)
          | rf v => cases h5; exact hb W cw w2 st2 σ1 H2 _ _ _ r2 h4 (p.after l12)
/-! ### what a for walks -/
/-- the items, and what must hold for them to be still the ones -/
structure Its where
  items : List Val
  chk : DSt → Bool
/-- an iterator J yields the items, as long as what it walks stands still -/
def ItR (cl : Cl) (X : Cx) (w : Wd) (H : Hp) (I : Its) (J : It) : Prop :=
  ∀ (i : Nat) (w1 : Wd) (st1 : DSt) (σ1 : L2.St) (H1 : Hp), w.as <+: w1.as → Same w.G w1.G → R X.K cl w1 st1 σ1 H1 → I.chk st1 = true →
    (I.items.length ≤ i → J.stop i H1) ∧ ∀ v, I.items[i]? = some v → J.go i H1 ∧ ∀ x H2, J.yld i H1 x H2 → ∃ w2, Le w1 H1 w2 H2 ∧ R X.K cl w2 st1 σ1 H2 ∧ VR X.K cl w2 σ1 v x
def WI (X : Cx) (tg iter : Expr) : TI := fun σ H Rr => ∀ pins s, Inv X pins σ H s → wpAny (model X.prog X.w) X.A (eval iter X.env) (fun v s1 => wpAny (model X.prog X.w) X.A (pyIter v) (PIE X pins σ tg Rr) X.xe s1) X.xe s
theorem piW {tg iter : Expr} : PI X tg iter (WI X tg iter) := ⟨fun pins s σ H Rr I h => h pins s I⟩
def DI (cl : Cl) (X : Cx) (tg iter : Expr) (f : M Its) : Prop := ∀ (W : WX), Cw X W → ∀ (w : Wd) (st : DSt) (σ : L2.St) (H : Hp) (Rr : It → Hp → Prop) (o : Out Its) (st' : DSt), R X.K cl w st σ H → f st = some (o, st') →
  Post cl X W σ w H o st' (fun I w' H' => ∀ J, ItR cl X w' H' I J → Rr J H') → WI X tg iter σ H Rr
def forL (g : Val → M Unit) (b : M Fl) (chk : DSt → Bool) : List Val → M Fl
  | [] => fun s => if chk s then some (.ok .nx, s) else none
  | v :: vs => fun s => if chk s then bnd (g v) (fun _ => bnd b fun fl => match fl with
      | .nx => forL g b chk vs
      | .ct => forL g b chk vs
      | .bk => ret .nx
      | fl => ret fl) s else none
def dFor (fi : M Its) (g : Val → M Unit) (b : M Fl) : M Fl := bnd fi fun I => forL g b I.chk I.items
theorem drop_cons {α : Type} {l : List α} {i : Nat} {v : α} {r : List α} (h : l.drop i = v :: r) : l[i]? = some v ∧ l.drop (i + 1) = r := by
  have h1 : i < l.length := by
    cases Nat.lt_or_ge i l.length with
    | inl q => exact q
    | inr q => rw [List.drop_eq_nil_of_le q] at h; cases h
  rw [List.drop_eq_getElem_cons h1] at h
  injection h with h2 h3
  exact ⟨by rw [List.getElem?_eq_getElem h1, h2], h3⟩
theorem ds_for {tg iter : Expr} {body : List Stmt} {pos : Pos} {fi : M Its} {g : Val → M Unit} {fb : M Fl} (hcalm : X.calm = true) (hsf : ∀ x, foldedSetIterable iter X.env x = pure x) (hq : Quiet g) {vs : List Nat} (hi : DI cl X tg iter fi) (hg : DG cl X tg vs g) (hb : DSs cl X body fb) : DS cl X (.For tg iter body [] pos) (dFor fi g fb) := fun W cw w st σ H D o st' r h p => by
  intro pins s I
  -- the target by its semantics at any slots
  have pg : PG X tg (fun v σ H Q => ∃ (w : Wd) (st st' : DSt) (a : Val), R X.K cl w st σ H ∧ VR X.K cl w σ a v ∧ g a st = some (.ok (), st') ∧ ∀ w' σ' H', Le w H w' H' → R X.K cl w' st' σ' H' → Q σ' H') :=
    ⟨fun pins s σ H v u Q I ru ⟨w, st, st', a, r, ha, hga, k⟩ => hg W cw w st σ H Q a v u st' pins s r ha hga (fun w' σ' H' l r' _ _ => k w' σ' H' l r') I ru⟩
  refine (L2.ps_for (X := X) (pos := pos) cw.po hcalm piW pg pssW hsf).run pins s σ H D I ?_
  unfold tFor
  rcases bnd_some h with ⟨c, fs, h1, rfl⟩ | ⟨its, st1, h1, h2⟩
  · exact hi W cw w st σ H _ _ st' r h1 p.toPost
  · refine hi W cw w st σ H _ _ st1 r h1 fun w1 H1 l1 r1 J hJ => ?_
    refine ⟨fun i m σ2 H2 => m = its.items.length - i ∧ i ≤ its.items.length ∧ ∃ w2 st2, Le w1 H1 w2 H2 ∧ R X.K cl w2 st2 σ2 H2 ∧ forL g fb its.chk (its.items.drop i) st2 = some (o, st'), ⟨its.items.length, by simp, Nat.zero_le _, w1, st1, Le.refl _ _, r1, by simpa using h2⟩, ?_⟩
    rintro i m σ2 H2 ⟨rfl, hi2, w2, st2, l2, r2, h3⟩
    have l12 := l1.trans l2
    cases e : its.items.drop i with
    | nil =>
      rw [e] at h3
      unfold forL at h3
      split at h3
      · rename_i hc
        cases h3
        refine .inl ⟨(hJ i w2 _ σ2 H2 l2.as l2.g r2 hc).1 (by have := congrArg List.length e; rw [List.length_drop, List.length_nil] at this; omega), p w2 σ2 H2 l12 r2⟩
      · cases h3
    | cons v vs =>
      obtain ⟨e1, e2⟩ := drop_cons e
      rw [e] at h3
      unfold forL at h3
      split at h3
      · rename_i hc
        obtain ⟨go, yl⟩ := (hJ i w2 st2 σ2 H2 l2.as l2.g r2 hc).2 v e1
        have hlt : i < its.items.length := lt_of_get e1
        refine .inr ⟨go, fun σ3 H3 => ∃ w3 st3, Le w1 H1 w3 H3 ∧ R X.K cl w3 st3 σ3 H3 ∧ forL g fb its.chk (its.items.drop (i + 1)) st3 = some (o, st'), fun σ3 H3 ⟨w3, st3, q1, q2, q3⟩ => ⟨its.items.length - (i + 1), by omega, rfl, hlt, w3, st3, q1, q2, q3⟩, fun x H3 y => ?_⟩
        obtain ⟨w3, l3, r3, hx⟩ := yl x H3 y
        rcases bnd_some h3 with ⟨c, fs, h4, rfl⟩ | ⟨_, st3, h4, h5⟩
        · exact absurd h4 (hq _ _ _ _ _)
        · refine ⟨w3, st2, st3, v, r3, hx, h4, fun w4 σ4 H4 l4 r4 => ?_⟩
          have l24 := l2.trans (l3.trans l4)
          have l14 := l1.trans l24
          rcases bnd_some h5 with ⟨c, fs, h6, rfl⟩ | ⟨fl, st4, h6, h7⟩
          · exact hb W cw w4 st3 σ4 H4 _ _ st' r4 h6 (p.after l14)
          · cases fl with
            | nx => exact hb W cw w4 st3 σ4 H4 _ _ st4 r4 h6 fun w5 σ5 H5 l5 r5 => ⟨w5, st4, l24.trans l5, r5, by rw [e2]; exact h7⟩
            | ct => exact hb W cw w4 st3 σ4 H4 _ _ st4 r4 h6 fun w5 σ5 H5 l5 r5 => ⟨w5, st4, l24.trans l5, r5, by rw [e2]; exact h7⟩
            | bk => cases h7; exact hb W cw w4 st3 σ4 H4 _ _ _ r4 h6 fun w5 σ5 H5 l5 r5 => p w5 σ5 H5 (l14.trans l5) r5
            | rt v => cases h7; exact hb W cw w4 st3 σ4 H4 _ _ _ r4 h6 (p.after l14)
            | rf v => cases h7; exact hb W cw w4 st3 σ4 H4 _ _ _ r4 h6 (p.after l14)
      · cases h3
end
end Lf
namespace Lf
open PySem PySem.Spec L2
/-! ### one and the same plain data -/
mutual
def T.sm : T → T → Bool
  | .non, .non => true
  | .bl a, .bl b => a == b
  | .int a, .int b => a == b
  | .str a, .str b => a == b
  | .lst a, .lst b => T.sms a b
  | .tup a, .tup b => T.sms a b
  | .fro a, .fro b => T.sms a b
  | .dic a, .dic b => T.smD a b
  | .dit a, .dit b => T.smE a b
  | .obj c a, .obj d b => c == d && T.smF a b
  | _, _ => false
def T.sms : List T → List T → Bool
  | [], [] => true
  | a :: r, b :: q => T.sm a b && T.sms r q
  | _, _ => false
def T.smD : List (Key × T) → List (Key × T) → Bool
  | [], [] => true
  | a :: r, b :: q => T.smD1 a b && T.smD r q
  | _, _ => false
def T.smD1 : Key × T → Key × T → Bool
  | (k, a), (l, b) => decide (k = l) && T.sm a b
def T.smE : List (List Key × T) → List (List Key × T) → Bool
  | [], [] => true
  | a :: r, b :: q => T.smE1 a b && T.smE r q
  | _, _ => false
def T.smE1 : List Key × T → List Key × T → Bool
  | (k, a), (l, b) => decide (k = l) && T.sm a b
def T.smF : List (Str × T) → List (Str × T) → Bool
  | [], [] => true
  | a :: r, b :: q => T.smF1 a b && T.smF r q
  | _, _ => false
def T.smF1 : Str × T → Str × T → Bool
  | (k, a), (l, b) => decide (k = l) && T.sm a b
end
mutual
theorem T.sm_refl : ∀ a : T, T.sm a a = true
  | .non => by simp [T.sm]
  | .bl a => by simp [T.sm]
  | .int a => by simp [T.sm]
  | .str a => by simp [T.sm]
  | .lst a => by simp only [T.sm]; exact T.sms_refl a
  | .tup a => by simp only [T.sm]; exact T.sms_refl a
  | .fro a => by simp only [T.sm]; exact T.sms_refl a
  | .dic a => by simp only [T.sm]; exact T.smD_refl a
  | .dit a => by simp only [T.sm]; exact T.smE_refl a
  | .obj c a => by simp only [T.sm, beq_self_eq_true, Bool.true_and]; exact T.smF_refl a
theorem T.sms_refl : ∀ a : List T, T.sms a a = true
  | [] => by simp [T.sms]
  | a :: r => by simp only [T.sms, T.sm_refl a, T.sms_refl r, Bool.and_self]
theorem T.smD_refl : ∀ a : List (Key × T), T.smD a a = true
  | [] => by simp [T.smD]
  | (k, a) :: r => by simp only [T.smD, T.smD1, T.sm_refl a, T.smD_refl r, Bool.and_self, decide_true]
theorem T.smE_refl : ∀ a : List (List Key × T), T.smE a a = true
  | [] => by simp [T.smE]
  | (k, a) :: r => by simp only [T.smE, T.smE1, T.sm_refl a, T.smE_refl r, Bool.and_self, decide_true]
theorem T.smF_refl : ∀ a : List (Str × T), T.smF a a = true
  | [] => by simp [T.smF]
  | (k, a) :: r => by simp only [T.smF, T.smF1, T.sm_refl a, T.smF_refl r, Bool.and_self, decide_true]
end
mutual
theorem T.sm_eq : ∀ {a b : T}, T.sm a b = true → a = b
  | .non, b, h => by cases b <;> simp only [T.sm] at h <;> first | rfl | cases h
  | .bl a, b, h => by cases b <;> simp only [T.sm, beq_iff_eq] at h <;> first | (rw [h]) | cases h
  | .int a, b, h => by cases b <;> simp only [T.sm, beq_iff_eq] at h <;> first | (rw [h]) | cases h
  | .str a, b, h => by cases b <;> simp only [T.sm, beq_iff_eq] at h <;> first | (rw [h]) | cases h
  | .lst a, b, h => by cases b <;> simp only [T.sm] at h <;> first | (rw [T.sms_eq h]) | cases h
  | .tup a, b, h => by cases b <;> simp only [T.sm] at h <;> first | (rw [T.sms_eq h]) | cases h
  | .fro a, b, h => by cases b <;> simp only [T.sm] at h <;> first | (rw [T.sms_eq h]) | cases h
  | .dic a, b, h => by cases b <;> simp only [T.sm] at h <;> first | (rw [T.smD_eq h]) | cases h
  | .dit a, b, h => by cases b <;> simp only [T.sm] at h <;> first | (rw [T.smE_eq h]) | cases h
  | .obj c a, b, h => by cases b <;> simp only [T.sm, Bool.and_eq_true, beq_iff_eq] at h <;> first | (rw [h.1, T.smF_eq h.2]) | cases h
theorem T.sms_eq : ∀ {a b : List T}, T.sms a b = true → a = b
  | [], b, h => by cases b <;> simp only [T.sms] at h <;> first | rfl | cases h
  | a :: r, b, h => by
    cases b with
    | nil => simp [T.sms, T.smD, T.smE, T.smF] at h
    | cons c q => simp only [T.sms, Bool.and_eq_true] at h; rw [T.sm_eq h.1, T.sms_eq h.2]
theorem T.smD_eq : ∀ {a b : List (Key × T)}, T.smD a b = true → a = b
  | [], b, h => by cases b <;> simp only [T.smD] at h <;> first | rfl | cases h
  | (k, a) :: r, b, h => by
    cases b with
    | nil => simp [T.sms, T.smD, T.smE, T.smF] at h
    | cons c q => obtain ⟨l, c⟩ := c; simp only [T.smD, T.smD1, Bool.and_eq_true, decide_eq_true_eq] at h; rw [h.1.1, T.sm_eq h.1.2, T.smD_eq h.2]
theorem T.smE_eq : ∀ {a b : List (List Key × T)}, T.smE a b = true → a = b
  | [], b, h => by cases b <;> simp only [T.smE] at h <;> first | rfl | cases h
  | (k, a) :: r, b, h => by
    cases b with
    | nil => simp [T.sms, T.smD, T.smE, T.smF] at h
    | cons c q => obtain ⟨l, c⟩ := c; simp only [T.smE, T.smE1, Bool.and_eq_true, decide_eq_true_eq] at h; rw [h.1.1, T.sm_eq h.1.2, T.smE_eq h.2]
theorem T.smF_eq : ∀ {a b : List (Str × T)}, T.smF a b = true → a = b
  | [], b, h => by cases b <;> simp only [T.smF] at h <;> first | rfl | cases h
  | (k, a) :: r, b, h => by
    cases b with
    | nil => simp [T.sms, T.smD, T.smE, T.smF] at h
    | cons c q => obtain ⟨l, c⟩ := c; simp only [T.smF, T.smF1, Bool.and_eq_true, decide_eq_true_eq] at h; rw [h.1.1, T.sm_eq h.1.2, T.smF_eq h.2]
end
def Fv.sms : List Fv → List Fv → Bool
  | [], [] => true
  | .t a :: r, .t b :: q => T.sm a b && Fv.sms r q
  | .loc a :: r, .loc b :: q => a == b && Fv.sms r q
  | _, _ => false
theorem Fv.sms_refl : ∀ a : List Fv, Fv.sms a a = true
  | [] => rfl
  | .t a :: r => by simp only [Fv.sms, T.sm_refl, Fv.sms_refl r, Bool.and_self]
  | .loc a :: r => by simp only [Fv.sms, beq_self_eq_true, Fv.sms_refl r, Bool.and_self]
theorem Fv.sms_eq : ∀ {a b : List Fv}, Fv.sms a b = true → a = b
  | [], [], _ => rfl
  | .t a :: r, .t b :: q, h => by simp only [Fv.sms, Bool.and_eq_true] at h; rw [T.sm_eq h.1, Fv.sms_eq h.2]
  | .loc a :: r, .loc b :: q, h => by simp only [Fv.sms, Bool.and_eq_true, beq_iff_eq] at h; rw [h.1, Fv.sms_eq h.2]
  | [], _ :: _, h => by cases h
  | .t _ :: _, [], h => by cases h
  | .loc _ :: _, [], h => by cases h
  | .t _ :: _, .loc _ :: _, h => by cases h
  | .loc _ :: _, .t _ :: _, h => by cases h
/-! ### what is walked -/
section
variable {cl : Cl} {X : Cx}
/-- the sequence v stands still -/
def still (v : Val) (b : Bool) (ts : List Fv) : DSt → Bool := match v with
  | .t _ => fun _ => true
  | v => fun s => match seqOf s v with
    | some (b', ts') => (b == b') && Fv.sms ts ts'
    | none => false
theorem still_seq {v : Val} {b : Bool} {ts : List Fv} {s s1 : DSt} (h : seqOf s v = some (b, ts)) (h1 : still v b ts s1 = true) : seqOf s1 v = some (b, ts) := by
  cases v with
  | t x => cases x <;> simp only [seqOf] at h ⊢ <;> exact h
  | loc n =>
    unfold still at h1
    dsimp only at h1
    split at h1
    · rename_i b' ts' e
      simp only [Bool.and_eq_true, beq_iff_eq] at h1
      rw [e, ← h1.1, Fv.sms_eq h1.2]
    · cases h1
  | sl n =>
    unfold still at h1
    dsimp only at h1
    split at h1
    · rename_i b' ts' e
      simp only [Bool.and_eq_true, beq_iff_eq] at h1
      rw [e, ← h1.1, Fv.sms_eq h1.2]
    · cases h1
def walkSeq (v : Val) : M Its := fun s => match seqOf s v with
  | some (b, ts) => some (.ok ⟨ts.map Fv.val, still v b ts⟩, s)
  | none => none
theorem FvR.vr {K : PySem.W.Frag} {w : Wd} {σ : L2.St} {f : Fv} {x : V} (h : FvR K cl w f x) : VR K cl w σ f.val x := by
  cases f with
  | t y => exact h
  | loc n => exact h
theorem PI.wi {tg iter : Expr} {wi : TI} (h : PI X tg iter wi) {σ : L2.St} {H : Hp} {Rr : It → Hp → Prop} (q : wi σ H Rr) : WI X tg iter σ H Rr := fun pins s I => h.run pins s σ H Rr I q
theorem paired_at {α β : Type} {F : α → β → Prop} : ∀ {l : List α} {m : List β} {i : Nat} {a : α}, Paired F l m → l[i]? = some a → ∃ b, m[i]? = some b ∧ F a b
  | _, _, i, a, .nil, e => by simp at e
  | _, _, 0, a, .cons h _, e => by simp at e; subst e; exact ⟨_, rfl, h⟩
  | _, _, i + 1, a, .cons _ t, e => by
    obtain ⟨b, h1, h2⟩ := paired_at (i := i) (a := a) t (by simpa using e)
    exact ⟨b, by simpa using h1, h2⟩
/-- an own slot that is walked stands still from then on -/
def lend : Val → M Val
  | .sl i => bnd (frz (.sl i)) fun x => ret (.t x)
  | v => ret v
theorem lend_at {K : PySem.W.Frag} {w : Wd} {st st' : DSt} {σ : L2.St} {H : Hp} (r : R K cl w st σ H) {v : Val} {x : V} {o : Out Val} (hv : VR K cl w σ v x) (h : lend v st = some (o, st')) : ∃ v' w', o = .ok v' ∧ Le w H w' H ∧ R K cl w' st' σ H ∧ VR K cl w' σ v' x ∧ ∀ i, v' ≠ .sl i := by
  cases v with
  | t y => cases h; exact ⟨_, w, rfl, Le.refl _ _, r, hv, fun _ z => nomatch z⟩
  | loc n => cases h; exact ⟨_, w, rfl, Le.refl _ _, r, hv, fun _ z => nomatch z⟩
  | sl i =>
    unfold lend at h
    rcases bnd_some h with ⟨c, fs, h1, rfl⟩ | ⟨t, st1, h1, h2⟩
    · obtain ⟨t, w', e, _⟩ := frz_at r hv h1
      cases e
    · obtain ⟨t', w1, e, l1, r1, q1⟩ := frz_at r hv h1
      cases e
      cases h2
      exact ⟨_, w1, rfl, l1, r1, q1, fun _ z => nomatch z⟩
theorem vr_later {K : PySem.W.Frag} {w w1 : Wd} {σ σ1 : L2.St} {v : Val} {x : V} (la : w.as <+: w1.as) (lg : Same w.G w1.G) (hv : VR K cl w σ v x) (hs : ∀ i, v ≠ .sl i) : VR K cl w1 σ1 v x := by
  cases v with
  | t y => exact Rep.mono lg hv
  | loc n => obtain ⟨b, h1, h2⟩ := hv; exact ⟨b, pre_get la h1, h2⟩
  | sl i => exact absurd rfl (hs i)
theorem it_list {w : Wd} {st : DSt} {σ : L2.St} {H : Hp} {v : Val} {a : Addr} {ts : List Fv} (h : seqOf st v = some (false, ts)) (hv : VR X.K cl w σ v (.ref a)) (hs : ∀ i, v ≠ .sl i) : ItR cl X w H ⟨ts.map Fv.val, still v false ts⟩ (Itl X.K a) := fun i w1 st1 σ1 H1 la lg r hc => by
  obtain ⟨b, vs, e, g, pr⟩ := seq_at r (still_seq h hc) (vr_later (σ1 := σ1) la lg hv hs)
  cases e
  have g' : SqL X.K H1 a vs := g
  refine ⟨fun hi => ⟨vs, g', by rw [← pr.length]; simpa using hi⟩, fun u hu => ?_⟩
  rw [List.getElem?_map, Option.map_eq_some_iff] at hu
  obtain ⟨f, hf, rfl⟩ := hu
  obtain ⟨x, hx, fx⟩ := paired_at pr hf
  refine ⟨⟨vs, x, g', hx⟩, fun y H2 ⟨e2, hy⟩ => ?_⟩
  subst e2
  have := hy vs g'
  rw [hx] at this
  cases this
  exact ⟨w1, Le.refl _ _, r, fx.vr⟩
theorem it_tup {w : Wd} {st : DSt} {σ : L2.St} {H : Hp} {v : Val} {a : Addr} {ts : List Fv} (h : seqOf st v = some (true, ts)) (hv : VR X.K cl w σ v (.ref a)) (hs : ∀ i, v ≠ .sl i) : ItR cl X w H ⟨ts.map Fv.val, still v true ts⟩ (Itt X.K a) := fun i w1 st1 σ1 H1 la lg r hc => by
  obtain ⟨b, vs, e, g, pr⟩ := seq_at r (still_seq h hc) (vr_later (σ1 := σ1) la lg hv hs)
  cases e
  have g' : SqT X.K H1 a vs := g
  refine ⟨fun hi => ⟨vs, g', by rw [← pr.length]; simpa using hi⟩, fun u hu => ?_⟩
  rw [List.getElem?_map, Option.map_eq_some_iff] at hu
  obtain ⟨f, hf, rfl⟩ := hu
  obtain ⟨x, hx, fx⟩ := paired_at pr hf
  refine ⟨⟨vs, x, g', hx⟩, fun y H2 ⟨e2, hy⟩ => ?_⟩
  subst e2
  have := hy vs g'
  rw [hx] at this
  cases this
  exact ⟨w1, Le.refl _ _, r, fx.vr⟩
/-- signs of a text -/
def signs (x : Str) : List Val := x.cps.toList.map fun c => .t (.str ⟨#[c]⟩)
theorem it_str {w : Wd} {H : Hp} {x : Str} : ItR cl X w H ⟨signs x, fun _ => true⟩ (L2.Its x) := fun i w1 st1 σ1 H1 la lg r hc => by
  refine ⟨fun hi => by show x.cps.size ≤ i; simpa [signs] using hi, fun u hu => ?_⟩
  have hu' : (signs x)[i]? = some u := hu
  unfold signs at hu'
  rw [List.getElem?_map, Option.map_eq_some_iff] at hu'
  obtain ⟨c, hc', rfl⟩ := hu'
  have hlt : i < x.cps.size := by simpa using lt_of_get hc'
  refine ⟨hlt, fun y H2 ⟨e2, c2, h2, h3⟩ => ?_⟩
  subst e2
  rw [Array.getElem?_toList] at hc'
  rw [hc'] at h2
  cases h2
  subst h3
  exact ⟨w1, Le.refl _ _, r, .str _⟩
/-- for x in e: a list, a tuple, a text -/
def walkOf (v : Val) : M Its := match v with
  | .t (.str x) => ret ⟨signs x, fun _ => true⟩
  | v => bnd (lend v) walkSeq
theorem di_seq {tg e : Expr} {f : M Val} (he : DE cl X e f) : DI cl X tg e (bnd f walkOf) := fun W cw w st σ H Rr o st' r h p => by
  rcases bnd_some h with ⟨c, fs, h1, rfl⟩ | ⟨v, st1, h1, h2⟩
  · refine PI.wi (pi_list peW) ?_
    exact he W cw w st σ H _ _ st' r h1 p
  · have main : (∀ x, v ≠ .t (.str x)) → bnd (lend v) walkSeq st1 = some (o, st') → WI X tg e σ H Rr := fun hns h3 => by
      rcases bnd_some h3 with ⟨c, fs, h4, rfl⟩ | ⟨v', st2, h4, h5⟩
      · -- lend raises nothing
        exfalso
        cases v with
        | t y => cases h4
        | loc n => cases h4
        | sl i =>
          unfold lend at h4
          rcases bnd_some h4 with ⟨c, fs, h6, e⟩ | ⟨t, st3, h6, h7⟩
          · unfold frz at h6
            dsimp only at h6
            split at h6 <;> cases h6
          · cases h7
      · unfold walkSeq at h5
        split at h5
        · rename_i b ts e5
          cases h5
          cases b with
          | false =>
            refine PI.wi (pi_list peW) ?_
            refine he W cw w st σ H _ _ st1 r h1 fun w1 H1 l1 r1 x hx => ?_
            obtain ⟨v2, w2, e2, l2, r2, hv2, ns⟩ := lend_at r1 hx h4
            cases e2
            obtain ⟨a, vs, rfl, g, pr⟩ := seq_at r2 e5 hv2
            exact ⟨a, rfl, ⟨vs, g⟩, p w2 H1 (l1.trans l2) r2 _ (it_list e5 hv2 ns)⟩
          | true =>
            refine PI.wi (pi_tup peW) ?_
            refine he W cw w st σ H _ _ st1 r h1 fun w1 H1 l1 r1 x hx => ?_
            obtain ⟨v2, w2, e2, l2, r2, hv2, ns⟩ := lend_at r1 hx h4
            cases e2
            obtain ⟨a, vs, rfl, g, pr⟩ := seq_at r2 e5 hv2
            exact ⟨a, rfl, ⟨vs, g⟩, p w2 H1 (l1.trans l2) r2 _ (it_tup e5 hv2 ns)⟩
        · cases h5
    unfold walkOf at h2
    split at h2
    · rename_i x
      cases h2
      refine PI.wi (pi_str peW) ?_
      refine he W cw w st σ H _ _ _ r h1 fun w1 H1 l1 r1 y hy => ?_
      cases hy
      exact ⟨x, rfl, p w1 H1 l1 r1 _ it_str⟩
    · rename_i hns
      exact main (fun x z => hns x z) h2
/-! ### range -/
def rangeV (lo : Int) (n : Nat) : List Val := (List.range n).map fun k => .t (.int (lo + (k : Nat)))
theorem it_range {w : Wd} {H : Hp} {lo : Int} {n : Nat} : ItR cl X w H ⟨rangeV lo n, fun _ => true⟩ (Itr lo n) := fun i w1 st1 σ1 H1 la lg r hc => by
  refine ⟨fun hi => by show n ≤ i; simpa [rangeV] using hi, fun u hu => ?_⟩
  have hu' : (rangeV lo n)[i]? = some u := hu
  unfold rangeV at hu'
  rw [List.getElem?_map, Option.map_eq_some_iff] at hu'
  obtain ⟨c, hc', rfl⟩ := hu'
  have hlt : i < n := by simpa using lt_of_get hc'
  rw [List.getElem?_range hlt] at hc'
  cases hc'
  refine ⟨hlt, fun y H2 ⟨e2, h3⟩ => ?_⟩
  subst e2
  subst h3
  exact ⟨w1, Le.refl _ _, r, .int _⟩
def mkRange (vs : List Val) : M Its := match vs with
  | [.t (.int j)] => if decide (-(2 ^ 62) ≤ j) && decide (j < 2 ^ 62) then ret ⟨rangeV 0 j.toNat, fun _ => true⟩ else stuck
  | [.t (.int i), .t (.int j)] => if decide (-(2 ^ 62) ≤ i) && decide (i < 2 ^ 62) && decide (-(2 ^ 62) ≤ j) && decide (j < 2 ^ 62) then ret ⟨rangeV i (j - i).toNat, fun _ => true⟩ else stuck
  | _ => stuck
theorem mkRange_some {vs : List Val} {s s' : DSt} {o : Out Its} (h : mkRange vs s = some (o, s')) : s' = s ∧ ((∃ j : Int, vs = [.t (.int j)] ∧ -(2 ^ 62) ≤ j ∧ j < 2 ^ 62 ∧ o = .ok ⟨rangeV 0 j.toNat, fun _ => true⟩) ∨
    ∃ i j : Int, vs = [.t (.int i), .t (.int j)] ∧ (-(2 ^ 62) ≤ i ∧ i < 2 ^ 62 ∧ -(2 ^ 62) ≤ j ∧ j < 2 ^ 62) ∧ o = .ok ⟨rangeV i (j - i).toNat, fun _ => true⟩) := by
  unfold mkRange at h
  split at h
  · split at h
    · rename_i hb
      cases h
      simp only [Bool.and_eq_true, decide_eq_true_eq] at hb
      exact ⟨rfl, .inl ⟨_, rfl, hb.1, hb.2, rfl⟩⟩
    · cases h
  · split at h
    · rename_i hb
      cases h
      simp only [Bool.and_eq_true, decide_eq_true_eq] at hb
      exact ⟨rfl, .inr ⟨_, _, rfl, ⟨hb.1.1.1, hb.1.1.2, hb.1.2, hb.2⟩, rfl⟩⟩
    · cases h
  · cases h
theorem di_range1 {tg a : Expr} {p pos : Pos} {f : M (List Val)} (hg : Gl X "range") (hm : X.mg "range" = none) (hs : starEach [a] X.env = [(false, eval a X.env)]) (ha : DA cl X [a] f) : DI cl X tg (.Call (.Name "range" p) [a] [] pos) (bnd f fun vs => if vs.length = 1 then mkRange vs else stuck) := fun W cw w st σ H Rr o st' r h pp => by
  refine PI.wi (pi_range1 hg hm paW hs) ?_
  rcases bnd_some h with ⟨c, fs, h1, rfl⟩ | ⟨vs, st1, h1, h2⟩
  · exact ha W cw w st σ H _ _ st' r h1 pp
  · refine ha W cw w st σ H _ _ st1 r h1 fun w1 H1 l1 r1 xs hxs => ?_
    split at h2
    · rename_i hl
      obtain ⟨rfl, ⟨j, rfl, b1, b2, rfl⟩ | ⟨i, j, rfl, _⟩⟩ := mkRange_some h2
      · cases hxs with
        | cons hx hn => cases hn; cases hx; exact ⟨j, rfl, b1, b2, pp w1 H1 l1 r1 _ it_range⟩
      · cases hl
    · cases h2
theorem di_range2 {tg a b : Expr} {p pos : Pos} {f : M (List Val)} (hg : Gl X "range") (hm : X.mg "range" = none) (hs : starEach [a, b] X.env = [(false, eval a X.env), (false, eval b X.env)]) (hs2 : starEach [b] X.env = [(false, eval b X.env)]) (ha : DA cl X [a, b] f) : DI cl X tg (.Call (.Name "range" p) [a, b] [] pos) (bnd f fun vs => if vs.length = 2 then mkRange vs else stuck) := fun W cw w st σ H Rr o st' r h pp => by
  refine PI.wi (pi_range2 hg hm paW hs hs2) ?_
  rcases bnd_some h with ⟨c, fs, h1, rfl⟩ | ⟨vs, st1, h1, h2⟩
  · exact ha W cw w st σ H _ _ st' r h1 pp
  · refine ha W cw w st σ H _ _ st1 r h1 fun w1 H1 l1 r1 xs hxs => ?_
    split at h2
    · rename_i hl
      obtain ⟨rfl, ⟨j, rfl, _⟩ | ⟨i, j, rfl, bb, rfl⟩⟩ := mkRange_some h2
      · cases hl
      · cases hxs with
        | cons hx hn => cases hn with
          | cons hy hn => cases hn; cases hx; cases hy; exact ⟨i, j, rfl, bb, pp w1 H1 l1 r1 _ it_range⟩
    · cases h2
/-! ### enumerate(list) -/
def enumV (ts : List T) : List Val := (List.range ts.length).map fun k => .t (.tup [.int (k : Nat), ts.getD k .non])
theorem it_enum {w : Wd} {st : DSt} {σ : L2.St} {H : Hp} {v : Val} {a : Addr} {ts : List T} (h : seqOf st v = some (false, ts.map .t)) (hv : VR X.K cl w σ v (.ref a)) (hs : ∀ i, v ≠ .sl i) : ItR cl X w H ⟨enumV ts, still v false (ts.map .t)⟩ (Ite X.K a) := fun i w1 st1 σ1 H1 la lg r hc => by
  obtain ⟨b, vs, e, g, pr⟩ := seq_at r (still_seq h hc) (vr_later (σ1 := σ1) la lg hv hs)
  cases e
  have g' : SqL X.K H1 a vs := g
  have hl : ts.length = vs.length := by have := pr.length; simpa using this
  refine ⟨fun hi => ⟨vs, g', by rw [← hl]; simpa [enumV] using hi⟩, fun u hu => ?_⟩
  have hu' : (enumV ts)[i]? = some u := hu
  unfold enumV at hu'
  rw [List.getElem?_map, Option.map_eq_some_iff] at hu'
  obtain ⟨k, hk, rfl⟩ := hu'
  have hlt : i < ts.length := by simpa using lt_of_get hk
  rw [List.getElem?_range hlt] at hk
  cases hk
  have hti : ts[i]? = some (ts.getD i .non) := by rw [List.getD_eq_getElem?_getD, List.getElem?_eq_getElem hlt]; rfl
  obtain ⟨x, hx, fx⟩ := paired_at (i := i) (a := Fv.t (ts.getD i .non)) pr (by rw [List.getElem?_map, hti]; rfl)
  refine ⟨⟨vs, x, g', hx⟩, fun y H2 ⟨Ta, x', e1, e2, e3, e4⟩ => ?_⟩
  have := e4 vs g'
  rw [hx] at this
  cases this
  subst e1 e3
  obtain ⟨r2, l2⟩ := r.fresh e2 (.tup [.int (i : Nat), x])
  exact ⟨_, l2, r2, .tup upd_same (.cons (.int _) (.cons (Rep.mono l2.g fx) .nil))⟩
/-- a list with plain items, as it is walked -/
def walkEnum (v : Val) : M Its := bnd (lend v) fun v => fun s => match seqOf s v with
  | some (false, ts) => match plains ts with
    | some xs => some (.ok ⟨enumV xs, still v false (xs.map .t)⟩, s)
    | none => none
  | _ => none
theorem plains_map : ∀ {fs : List Fv} {ts : List T}, plains fs = some ts → fs = ts.map .t
  | [], _, h => by cases h; rfl
  | .t x :: r, ts, h => by
    unfold plains at h
    cases e : plains r with
    | none => rw [e] at h; cases h
    | some q => rw [e] at h; cases h; rw [plains_map e]; rfl
  | .loc _ :: _, _, h => by cases h
theorem di_enum {e : Expr} {elts : List Expr} {kk : Nat} {p pos tpos : Pos} {f : M (List Val)} (hg : Gl X "enumerate") (hm : X.mg "enumerate" = none) (hs : starEach [e] X.env = [(false, eval e X.env)]) (ha : DA cl X [e] f) :
    DI cl X (.Tuple elts kk tpos) (.Call (.Name "enumerate" p) [e] [] pos) (bnd f fun vs => match vs with | [v] => walkEnum v | _ => stuck) := fun W cw w st σ H Rr o st' r h pp => by
  refine PI.wi (pi_enum hg hm paW hs) ?_
  rcases bnd_some h with ⟨c, fs, h1, rfl⟩ | ⟨vs, st1, h1, h2⟩
  · exact ha W cw w st σ H _ _ st' r h1 pp
  · refine ha W cw w st σ H _ _ st1 r h1 fun w1 H1 l1 r1 xs hxs => ?_
    split at h2
    · rename_i v
      cases hxs with
      | cons hx hn =>
        cases hn
        unfold walkEnum at h2
        rcases bnd_some h2 with ⟨c, fs, h4, rfl⟩ | ⟨v', st2, h4, h5⟩
        · obtain ⟨v2, w2, e2, _⟩ := lend_at r1 hx h4
          cases e2
        · obtain ⟨v2, w2, e2, l2, r2, hv2, ns⟩ := lend_at r1 hx h4
          cases e2
          split at h5
          · rename_i ts e5
            split at h5
            · rename_i xs' e6
              cases h5
              rw [plains_map e6] at e5
              obtain ⟨a, vs, rfl, g, pr⟩ := seq_at r2 e5 hv2
              exact ⟨a, vs, rfl, g, pp w2 H1 (l1.trans l2) r2 _ (it_enum e5 hv2 ns)⟩
            · cases h5
          · cases h5
    · cases h2
end
end Lf
namespace Lf
open PySem PySem.Spec L2
section
variable {cl : Cl} {X : Cx}
/-! ### a comprehension's own names -/
def wipeD (δ : List (Option Slot)) : List Nat → List (Option Slot)
  | [] => δ
  | v :: vs => (wipeD δ vs).set v none
def backD (δ δ2 : List (Option Slot)) : List Nat → List (Option Slot)
  | [] => δ2
  | v :: vs => (backD δ δ2 vs).set v (δ[v]?).join
def noOwn (δ : List (Option Slot)) (vs : List Nat) : Bool := vs.all fun v => match δ[v]? with
  | some (some (.own _)) => false
  | _ => true
theorem wipeD_length (δ : List (Option Slot)) : ∀ vs : List Nat, (wipeD δ vs).length = δ.length
  | [] => rfl
  | v :: vs => by unfold wipeD; rw [List.length_set, wipeD_length δ vs]
theorem backD_length (δ δ2 : List (Option Slot)) : ∀ vs : List Nat, (backD δ δ2 vs).length = δ2.length
  | [] => rfl
  | v :: vs => by unfold backD; rw [List.length_set, backD_length δ δ2 vs]
theorem wipeD_some {δ : List (Option Slot)} {i : Nat} {x : Slot} : ∀ {vs : List Nat}, (wipeD δ vs)[i]? = some (some x) → δ[i]? = some (some x) ∧ i ∉ vs
  | [], h => ⟨h, by simp⟩
  | v :: vs, h => by
    unfold wipeD at h
    by_cases hi : v = i
    · subst hi
      by_cases hv : v < (wipeD δ vs).length
      · rw [List.getElem?_set_self hv] at h; cases h
      · rw [List.getElem?_eq_none (by simpa using hv)] at h; cases h
    · rw [List.getElem?_set_ne hi] at h
      obtain ⟨h1, h2⟩ := wipeD_some h
      exact ⟨h1, by simp only [List.mem_cons, not_or]; exact ⟨fun e => hi e.symm, h2⟩⟩
theorem backD_some {δ δ2 : List (Option Slot)} {i : Nat} {x : Slot} (hl : δ.length = δ2.length) : ∀ {vs : List Nat}, (backD δ δ2 vs)[i]? = some (some x) → (i ∈ vs ∧ δ[i]? = some (some x)) ∨ (i ∉ vs ∧ δ2[i]? = some (some x))
  | [], h => .inr ⟨by simp, h⟩
  | v :: vs, h => by
    unfold backD at h
    by_cases hi : v = i
    · subst hi
      by_cases hv : v < (backD δ δ2 vs).length
      · rw [List.getElem?_set_self hv] at h
        refine .inl ⟨by simp, ?_⟩
        cases e : δ[v]? with
        | none => rw [e] at h; cases h
        | some y => rw [e] at h; simpa using h
      · rw [List.getElem?_eq_none (by simpa using hv)] at h; cases h
    · rw [List.getElem?_set_ne hi] at h
      rcases backD_some hl h with ⟨h1, h2⟩ | ⟨h1, h2⟩
      · exact .inl ⟨by simp [h1], h2⟩
      · exact .inr ⟨by simp only [List.mem_cons, not_or]; exact ⟨fun e => hi e.symm, h1⟩, h2⟩
theorem R.wiped {K : PySem.W.Frag} {w : Wd} {st : DSt} {σ : L2.St} {H : Hp} (r : R K cl w st σ H) (vs : List Nat) : R K cl w { st with δ := wipeD st.δ vs } (wipe σ vs) H := by
  refine ⟨r.rc, by rw [wipeD_length, wipe_length]; exact r.slen, fun i s h => ?_⟩
  obtain ⟨h1, h2⟩ := wipeD_some h
  rw [wipe_out h2]
  exact r.slot i s h1
theorem R.unwipe {K : PySem.W.Frag} {w w' : Wd} {st st2 : DSt} {σ σ2 : L2.St} {H H' : Hp} {vs : List Nat} (r : R K cl w st σ H) (l : Le w H w' H') (no : noOwn st.δ vs = true) (r2 : R K cl w' st2 σ2 H') (e : wipe σ2 vs = wipe σ vs) : R K cl w' { st2 with δ := backD st.δ st2.δ vs } σ H' := by
  have hl : st.δ.length = st2.δ.length := by
    have := congrArg List.length e
    rw [wipe_length, wipe_length] at this
    rw [r.slen, r2.slen, this]
  refine ⟨r2.rc, by show (backD st.δ st2.δ vs).length = _; rw [backD_length, ← hl]; exact r.slen, fun i s h => ?_⟩
  rcases backD_some hl h with ⟨h1, h2⟩ | ⟨h1, h2⟩
  · obtain ⟨x, x1, x2⟩ := r.slot i s h2
    refine ⟨x, x1, ?_⟩
    cases s with
    | t y => exact Rep.mono l.g x2
    | loc n => obtain ⟨a, e1, e2⟩ := x2; exact ⟨a, pre_get l.as e1, e2⟩
    | own o =>
      have := List.all_eq_true.mp no i h1
      simp only [h2] at this
      cases this
    | exc c fs => trivial
  · obtain ⟨x, x1, x2⟩ := r2.slot i s h2
    refine ⟨x, ?_, x2⟩
    rw [← wipe_out (σ := σ) h1, ← e, wipe_out h1]; exact x1
theorem wipe_agree {σ σ2 : L2.St} : ∀ {vs : List Nat}, σ2.length = σ.length → (∀ j, j ∉ vs → σ2[j]? = σ[j]?) → wipe σ2 vs = wipe σ vs := fun {vs} hl h => by
  apply List.ext_getElem?
  intro j
  by_cases hj : j ∈ vs
  · have key : ∀ (τ : L2.St), τ.length = σ.length → (wipe τ vs)[j]? = if j < σ.length then some none else none := fun τ ht => by
      clear h
      induction vs with
      | nil => cases hj
      | cons v vs ih =>
        unfold wipe
        by_cases hv : v = j
        · subst hv
          by_cases hlt : v < σ.length
          · rw [List.getElem?_set_self (by rw [wipe_length, ht]; exact hlt), if_pos hlt]
          · rw [List.getElem?_eq_none (by rw [List.length_set, wipe_length, ht]; omega), if_neg hlt]
        · rw [List.getElem?_set_ne hv]
          rcases List.mem_cons.mp hj with z | z
          · exact absurd z.symm hv
          · exact ih z
    rw [key σ2 hl, key σ rfl]
  · rw [wipe_out hj, wipe_out hj]; exact h j hj
/-! ### [e for x in it if t] -/
/-- D-level readings for the block, whatever its context is -/
def tD (cl : Cl) (K : PySem.W.Frag) (f : M Val) : TE := fun σ H Q => ∃ (w : Wd) (st st' : DSt) (v : Val), R K cl w st σ H ∧ f st = some (.ok v, st') ∧ ∀ w' H' x, Le w H w' H' → R K cl w' st' σ H' → VR K cl w' σ v x → Q x H'
def tDT (cl : Cl) (K : PySem.W.Frag) (f : M Bool) : TT := fun σ H Q => ∃ (w : Wd) (st st' : DSt) (v : Bool), R K cl w st σ H ∧ f st = some (.ok v, st') ∧ ∀ w' H', Le w H w' H' → R K cl w' st' σ H' → Q v H'
def tDG (cl : Cl) (K : PySem.W.Frag) (vs : List Nat) (g : Val → M Unit) : TG := fun x σ H Q => ∃ (w : Wd) (st st' : DSt) (v : Val), R K cl w st σ H ∧ VR K cl w σ v x ∧ g v st = some (.ok (), st') ∧ ∀ w' σ' H', Le w H w' H' → R K cl w' st' σ' H' → σ'.length = σ.length → (∀ j, j ∉ vs → σ'[j]? = σ[j]?) → Q σ' H'
def cFalse : WX := fun _ _ _ _ => False
theorem pe_tD {X' : Cx} {e : Expr} {f : M Val} (cw : Cw X' cFalse) (h : DE cl X' e f) : PE X' e (tD cl X'.K f) := ⟨fun pins s σ H Q I ⟨w, st, st', v, r, hf, k⟩ => h cFalse cw w st σ H Q (.ok v) st' r hf (fun w' H' l r' x hx => k w' H' x l r' hx) pins s I⟩
theorem pt_tDT {X' : Cx} {e : Expr} {f : M Bool} (cw : Cw X' cFalse) (h : DT cl X' e f) : PT X' e (tDT cl X'.K f) := ⟨fun pins s σ H Q I ⟨w, st, st', v, r, hf, k⟩ => h cFalse cw w st σ H Q (.ok v) st' r hf (fun w' H' l r' => k w' H' l r') pins s I⟩
theorem pg_tDG {X' : Cx} {e : Expr} {vs : List Nat} {g : Val → M Unit} (cw : Cw X' cFalse) (h : DG cl X' e vs g) : PG X' e (tDG cl X'.K vs g) := ⟨fun pins s σ H x u Q I ru ⟨w, st, st', v, r, hv, hf, k⟩ => h cFalse cw w st σ H Q v x u st' pins s r hv hf k I ru⟩
theorem cw_blk {s : Shared} {H : Hp} {scope : Scope} {env : Env} {fp : List Addr} : Cw (X.blk s H scope env fp) cFalse := ⟨takes0, PassesOwn.never⟩
/-- no test, or one -/
inductive DTs (cl : Cl) (X : Cx) : List Expr → M Bool → Prop
  | nil : DTs cl X [] (ret true)
  | one {c : Expr} {f : M Bool} : DT cl X c f → DTs cl X [c] f
theorem pts_tDT {X' : Cx} {es : List Expr} {f : M Bool} (cw : Cw X' cFalse) (h : DTs cl X' es f) : PTs X' es (tDT cl X'.K f) := by
  cases h with
  | nil => exact ⟨fun pins s σ H Q I ⟨w, st, st', v, r, hf, k⟩ => by cases hf; exact pts_nil.run pins s σ H Q I (k w H (Le.refl _ _) r)⟩
  | one h => exact pts_one (pt_tDT cw h)
def compL (vs : List Nat) (g : Val → M Unit) (t : M Bool) (e : M Val) (chk : DSt → Bool) : List Val → List T → M (List T)
  | [], acc => fun s => if chk s then some (.ok acc, s) else none
  | v :: r, acc => fun s => if chk s then bnd (g v) (fun _ => bnd t fun b => if b then bnd e fun x => bnd (frz x) fun y => fun s => if acc.length < sizeLine then compL vs g t e chk r (acc ++ [y]) { s with δ := wipeD s.δ vs } else none
      else fun s => compL vs g t e chk r acc { s with δ := wipeD s.δ vs }) s else none
/-- nothing raised within it -/
def hush {α : Type} (f : M α) : M α := fun s => match f s with
  | some (.ok a, s') => some (.ok a, s')
  | _ => none
theorem hush_some {α : Type} {f : M α} {s s' : DSt} {o : Out α} (h : hush f s = some (o, s')) : ∃ a, o = .ok a ∧ f s = some (.ok a, s') := by
  unfold hush at h
  split at h
  · rename_i a s1 e
    cases h
    exact ⟨a, rfl, e⟩
  · cases h
def dComp (vs : List Nat) (fi : M Its) (g : Val → M Unit) (t : M Bool) (e : M Val) : M Own := bnd fi fun I => fun s => if noOwn s.δ vs then
    match hush (compL vs g t e I.chk I.items []) { s with δ := wipeD s.δ vs } with
    | some (.ok ys, s2) => some (.ok (.lst ys), { s2 with δ := backD s.δ s2.δ vs })
    | _ => none
  else none
/-- an address that nobody speaks of may hold anything -/
theorem R.swap {K : PySem.W.Frag} {w : Wd} {st : DSt} {σ : L2.St} {H H' : Hp} (r : R K cl w st σ H) {D : Addr} (g : w.G D = none) (o : w.ω D = none) (hh : ∀ a, a ≠ D → H' a = H a) : R K cl w st σ H' := by
  refine ⟨⟨fun a u e => ?_, r.rc.len, fun n c a h1 h2 h3 => ?_, fun a u e => ?_, r.rc.fz⟩, r.slen, fun i s e => ?_⟩
  · have hne : a ≠ D := fun z => by rw [z, g] at e; cases e
    rw [hh a hne]; exact r.rc.sub a u e
  · obtain ⟨x, y⟩ := r.rc.cell n c a h1 h2 h3
    have hne : a ≠ D := fun z => by rw [z, o] at x; cases x
    exact ⟨x, y.keep (List.prefix_refl _) (Same.refl _) fun u q => by rw [hh a hne]; exact q⟩
  · have hne : a ≠ D := fun z => by rw [z, o] at e; cases e
    rw [hh a hne]; exact r.rc.own a u e
  · obtain ⟨x, h1, h2⟩ := r.slot i s e
    refine ⟨x, h1, ?_⟩
    cases s with
    | t y => exact h2
    | loc n => exact h2
    | own q =>
      obtain ⟨a, e1, e2, e3⟩ := h2
      have hne : a ≠ D := fun z => by rw [z, o] at e2; cases e2
      exact ⟨a, e1, e2, e3.keep (Same.refl _) fun u q => by rw [hh a hne]; exact q⟩
    | exc c fs => trivial
theorem Le.swap {w w' : Wd} {H H1 H2 : Hp} {D : Addr} (l : Le w H w' H1) (hD : H D = none) (hh : ∀ a, a ≠ D → H2 a = H1 a) : Le w H w' H2 :=
  ⟨l.as, l.g, l.own, fun a o h1 h2 => by rw [hh a (fun z => by rw [z, hD] at h2; cases h2)]; exact l.kp a o h1 h2, l.gk⟩
theorem Reps.snoc {K : PySem.W.Frag} {G : Hp} {ts : List T} {vs : List V} {t : T} {v : V} (h : Reps K cl G ts vs) (q : Rep K cl G t v) : Reps K cl G (ts ++ [t]) (vs ++ [v]) := h.append (.cons q .nil)
theorem R.free {K : PySem.W.Frag} {w : Wd} {st : DSt} {σ : L2.St} {H : Hp} (r : R K cl w st σ H) {D : Addr} (hD : H D = none) : w.G D = none ∧ w.ω D = none := by
  refine ⟨?_, ?_⟩
  · cases e : w.G D with
    | none => rfl
    | some u => rcases r.rc.sub D u e with h | ⟨_, _, h⟩ <;> (rw [hD] at h; cases h)
  · cases e : w.ω D with
    | none => rfl
    | some u => exact absurd hD (r.rc.own D u e).2
/-- what a comprehension asks, by its plain semantics -/
theorem comp_read {tg iter : Expr} {vs : List Nat} {fi : M Its} {g : Val → M Unit} {ft : M Bool} {fe : M Val} (hi : DI cl X tg iter fi) {W : WX} (cw : Cw X W) {w : Wd} {st st' : DSt} {σ : L2.St} {H : Hp} {Q : VK} {o : Out Own} (r : R X.K cl w st σ H) (h : dComp vs fi g ft fe st = some (o, st'))
    (p : Post cl X W σ w H o st' (fun v w' H' => ∀ (p : Addr) (ho : HO), H' p = none → (∀ H2, H2 p = some ho → OwnR X.K cl w'.G H2 v p) → Q (.ref p) (upd H' p ho))) :
    tLc (WI X tg iter) (tDG cl X.K vs g) (tDT cl X.K ft) (tD cl X.K fe) vs σ H Q := by
  unfold tLc
  rcases bnd_some h with ⟨c, fs, h1, rfl⟩ | ⟨its, st1, h1, h2⟩
  · exact hi W cw w st σ H _ _ st' r h1 p
  · refine hi W cw w st σ H _ _ st1 r h1 fun w1 H1 l1 r1 J hJ => ?_
    split at h2
    · rename_i no
      split at h2
      · rename_i ys s2 e2
        cases h2
        obtain ⟨_, z, e3⟩ := hush_some e2
        cases z
        intro D hD
        obtain ⟨gD, oD⟩ := r1.free hD
        refine ⟨fun i m H2 => m = its.items.length - i ∧ i ≤ its.items.length ∧ ∃ w2 st2 acc accV, Le w1 H1 w2 H2 ∧ R X.K cl w2 st2 (wipe σ vs) H2 ∧ w2.G D = none ∧ w2.ω D = none ∧ H2 D = some (.lst accV) ∧ Reps X.K cl w2.G acc accV ∧ compL vs g ft fe its.chk (its.items.drop i) acc st2 = some (.ok ys, s2),
          ⟨its.items.length, by simp, Nat.zero_le _, w1, _, [], [], (Le.refl w1 H1).swap hD (fun a ha => upd_ne ha), (r1.wiped vs).swap gD oD (fun a ha => upd_ne ha), gD, oD, upd_same, .nil, by simpa using e3⟩, ?_⟩
        rintro i m H2 ⟨rfl, hi2, w2, st2, acc, accV, l2, r2, g2, o2, hD2, q2, h3⟩
        cases e : its.items.drop i with
        | nil =>
          rw [e] at h3
          unfold compL at h3
          split at h3
          · rename_i hck
            cases h3
            refine .inl ⟨(hJ i w2 _ _ H2 l2.as l2.g r2 hck).1 (by have := congrArg List.length e; rw [List.length_drop, List.length_nil] at this; omega), ?_⟩
            have r3 := R.unwipe r1 l2 no r2 (by rw [wipe_agree (vs := vs) (σ := σ) (σ2 := wipe σ vs) (wipe_length ..) (fun j hj => wipe_out hj)])
            let H3 : Hp := fun a => if a = D then none else H2 a
            have hh : ∀ a, a ≠ D → H3 a = H2 a := fun a ha => if_neg ha
            have hfin := p w2 H3 (l1.trans (l2.swap hD hh)) (r3.swap g2 o2 hh) D (.lst accV) (if_pos rfl) (fun H4 e4 => ⟨accV, e4, q2⟩)
            have eH : upd H3 D (.lst accV) = H2 := by
              funext a
              by_cases ha : a = D
              · rw [ha, upd_same, hD2]
              · rw [upd_ne ha, hh a ha]
            rw [eH] at hfin
            exact hfin
          · cases h3
        | cons v rest =>
          obtain ⟨e1, e2'⟩ := drop_cons e
          rw [e] at h3
          unfold compL at h3
          split at h3
          · rename_i hck
            obtain ⟨go, yl⟩ := (hJ i w2 st2 _ H2 l2.as l2.g r2 hck).2 v e1
            have hlt : i < its.items.length := lt_of_get e1
            refine .inr ⟨go, fun H6 => ∃ w6 st6 acc6 accV6, Le w1 H1 w6 H6 ∧ R X.K cl w6 st6 (wipe σ vs) H6 ∧ w6.G D = none ∧ w6.ω D = none ∧ H6 D = some (.lst accV6) ∧ Reps X.K cl w6.G acc6 accV6 ∧ compL vs g ft fe its.chk (its.items.drop (i + 1)) acc6 st6 = some (.ok ys, s2),
              fun H6 ⟨w6, st6, acc6, accV6, q⟩ => ⟨its.items.length - (i + 1), by omega, rfl, hlt, w6, st6, acc6, accV6, q⟩, fun x H3 y => ?_⟩
            obtain ⟨w3, l3, r3, hx⟩ := yl x H3 y
            rcases bnd_some h3 with ⟨c, fs, h4, z⟩ | ⟨_, st3, h4, h5⟩
            · cases z
            · refine ⟨w3, st2, st3, v, r3, hx, h4, fun w4 σ4 H4 l4 r4 hl4 ha4 => ⟨?_, ?_⟩⟩
              · rw [wipe_agree (vs := vs) hl4 ha4]
                exact wipe_agree (vs := vs) (wipe_length ..) (fun j hj => wipe_out hj)
              have ew : wipe σ4 vs = wipe σ vs := by
                rw [wipe_agree (vs := vs) hl4 ha4]
                exact wipe_agree (vs := vs) (wipe_length ..) (fun j hj => wipe_out hj)
              rcases bnd_some h5 with ⟨c, fs, h6, z⟩ | ⟨b, st4, h6, h7⟩
              · cases z
              · refine ⟨w4, st3, st4, b, r4, h6, fun w5 H5 l5 r5 => ?_⟩
                have l25 := l3.trans (l4.trans l5)
                have ne2 : H2 D ≠ none := by rw [hD2]; exact fun z => nomatch z
                have g5 : w5.G D = none := (l25.gk D o2 ne2).trans g2
                have o5 : w5.ω D = none := l25.own D o2 ne2
                have hD5 : H5 D = some (.lst accV) := l25.kp D _ o2 hD2
                cases b with
                | false =>
                  have h7 : compL vs g ft fe its.chk rest acc { st4 with δ := wipeD st4.δ vs } = some (.ok ys, s2) := h7
                  refine iteF ?_
                  refine ⟨w5, _, acc, accV, l2.trans l25, ?_, g5, o5, hD5, q2.mono l25.g, by rw [e2']; exact h7⟩
                  have := r5.wiped vs
                  rw [ew] at this
                  exact this
                | true =>
                  refine iteT ?_
                  rcases bnd_some (show bnd fe _ st4 = some (.ok ys, s2) from h7) with ⟨c, fs, h8, z⟩ | ⟨xv, st5, h8, h9⟩
                  · cases z
                  · refine ⟨w5, st4, st5, xv, r5, h8, fun w6 H6 x6 l6 r6 hx6 => ?_⟩
                    have l26 := l25.trans l6
                    have g6 : w6.G D = none := (l26.gk D o2 ne2).trans g2
                    have o6 : w6.ω D = none := l26.own D o2 ne2
                    have hD6 : H6 D = some (.lst accV) := l26.kp D _ o2 hD2
                    rcases bnd_some h9 with ⟨c, fs, h10, z⟩ | ⟨ty, st6, h10, h11⟩
                    · exact absurd h10 (frz_quiet _ _ _ _ _)
                    · obtain ⟨ty', w7, z, l7, r7, q7⟩ := frz_at r6 hx6 h10
                      cases z
                      have h11 : (if acc.length < sizeLine then compL vs g ft fe its.chk rest (acc ++ [ty]) { st6 with δ := wipeD st6.δ vs } else none) = some (.ok ys, s2) := h11
                      split at h11
                      · rename_i hlen
                        have l27 := l26.trans l7
                        have g7 : w7.G D = none := (l27.gk D o2 ne2).trans g2
                        have o7 : w7.ω D = none := l27.own D o2 ne2
                        have qq := q2.mono l27.g
                        refine ⟨accV, hD6, by rw [← q2.length]; exact hlen, w7, _, acc ++ [ty], accV ++ [x6], (l2.trans l27).swap hD (fun a ha => upd_ne ha), ?_, g7, o7, upd_same, qq.snoc q7, by rw [e2']; exact h11⟩
                        have := (r7.wiped vs).swap g7 o7 (H' := upd H6 D (.lst (accV ++ [x6]))) (fun a ha => upd_ne ha)
                        rw [ew] at this
                        exact this
                      · cases h11
          · cases h3
      · cases h2
    · cases h2
theorem df_comp {elt tg iter : Expr} {ifs : List Expr} {scope : Scope} {own : List (Str × Nat)} {pos : Pos} {fi : M Its} {g : Val → M Unit} {ft : M Bool} {fe : M Val} (hc : X.calm = true) (hN : X.N.Nodup) (ok : BlkOk X.N X.env.scope scope own) (hs : ∀ x, foldedSetIterable iter X.env x = pure x)
    (hi : DI cl X tg iter fi) (hg : ∀ (s : Shared) (H : Hp) (C : Addr) (c : List (Str × Addr)) (fp : List Addr), DG cl (X.blk s H scope (compEnvC scope c C X.env) fp) tg (own.map (·.2)) g)
    (ht : ∀ (s : Shared) (H : Hp) (C : Addr) (c : List (Str × Addr)) (fp : List Addr), DTs cl (X.blk s H scope (compEnvC scope c C X.env) fp) ifs ft)
    (he : ∀ (s : Shared) (H : Hp) (C : Addr) (c : List (Str × Addr)) (fp : List Addr), DE cl (X.blk s H scope (compEnvC scope c C X.env) fp) elt fe) :
    DF cl X (.ListComp elt [⟨tg, iter, ifs, 0⟩] scope pos) (dComp (own.map (·.2)) fi g ft fe) := fun W cw w st σ H Q o st' r h p =>
  PE.we (pe_lc (g := tDG cl X.K (own.map (·.2)) g) (tt := tDT cl X.K ft) (te := tD cl X.K fe) hc hN piW ok (fun s H C c fp => pg_tDG cw_blk (hg s H C c fp)) (fun s H C c fp => pts_tDT cw_blk (ht s H C c fp)) (fun s H C c fp => pe_tD cw_blk (he s H C c fp)) hs) (comp_read hi cw r h p)
/-- y = [..], y a local -/
theorem ds_ownLc {i : Nat} {y : Str} {py : Pos} {elt tg iter : Expr} {ifs : List Expr} {scope : Scope} {own : List (Str × Nat)} {pos spos : Pos} {fi : M Its} {g : Val → M Unit} {ft : M Bool} {fe : M Val} (hc : X.calm = true) (hN : X.N.Nodup) (hy : X.N[i]? = some y) (hyl : X.env.scope.names.lookup y = some .local)
    (hsw : swapsWith (.ListComp elt [⟨tg, iter, ifs, 0⟩] scope pos) (some (.Name y py)) spos.line X.env = pure true) (ok : BlkOk X.N X.env.scope scope own) (hs : ∀ x, foldedSetIterable iter X.env x = pure x)
    (hi : DI cl X tg iter fi) (hg : ∀ (s : Shared) (H : Hp) (C : Addr) (c : List (Str × Addr)) (fp : List Addr), DG cl (X.blk s H scope (compEnvC scope c C X.env) fp) tg (own.map (·.2)) g)
    (ht : ∀ (s : Shared) (H : Hp) (C : Addr) (c : List (Str × Addr)) (fp : List Addr), DTs cl (X.blk s H scope (compEnvC scope c C X.env) fp) ifs ft)
    (he : ∀ (s : Shared) (H : Hp) (C : Addr) (c : List (Str × Addr)) (fp : List Addr), DE cl (X.blk s H scope (compEnvC scope c C X.env) fp) elt fe) :
    DS cl X (.Assign [.Name y py] (.ListComp elt [⟨tg, iter, ifs, 0⟩] scope pos) spos) (bnd (dComp (own.map (·.2)) fi g ft fe) fun v => bnd (putO i v) fun _ => ret .nx) := fun W cw w st σ H D o st' r h p => by
  intro pins s I
  refine (ps_setLc (g := tDG cl X.K (own.map (·.2)) g) (tt := tDT cl X.K ft) (te := tD cl X.K fe) hc hN hy hyl hsw piW ok (fun s H C c fp => pg_tDG cw_blk (hg s H C c fp)) (fun s H C c fp => pts_tDT cw_blk (ht s H C c fp)) (fun s H C c fp => pe_tD cw_blk (he s H C c fp)) hs).run pins s σ H D I ?_
  unfold tAsg gName
  rcases bnd_some h with ⟨c, fs, h1, rfl⟩ | ⟨v, st1, h1, h2⟩
  · exact comp_read hi cw r h1 p.toPost
  · refine comp_read hi cw r h1 fun w1 H1 l1 r1 a ho ha hO => ?_
    have hl : i < σ.length := by rw [I.len]; exact lt_of_get hy
    cases h2
    obtain ⟨w', l2, r2⟩ := r1.setO hl ha hO
    exact p w' _ _ (l1.trans l2) r2
/-- .. that stands still -/
def putK (i : Nat) (o : Own) : M Unit := bnd (keep o) fun v => put i v
theorem keep_at {K : PySem.W.Frag} {w : Wd} {st st' : DSt} {σ : L2.St} {H : Hp} (r : R K cl w st σ H) {ow : Own} {a : Addr} {ho : HO} (ha : H a = none) (hO : ∀ H2, H2 a = some ho → OwnR K cl w.G H2 ow a) {o : Out Val} (h : keep ow st = some (o, st')) :
    ∃ t w', o = .ok (.t t) ∧ st' = st ∧ Le w H w' (upd H a ho) ∧ R K cl w' st σ (upd H a ho) ∧ Rep K cl w'.G t (.ref a) := by
  obtain ⟨r2, l2⟩ := r.fresh ha ho
  unfold keep at h
  split at h
  · cases h
    obtain ⟨vs, e1, e2⟩ := hO (upd H a ho) upd_same
    rw [upd_same] at e1
    cases e1
    exact ⟨_, _, rfl, rfl, l2, r2, .lst upd_same (e2.mono l2.g)⟩
  · cases h
    obtain ⟨vs, e1, e2⟩ := hO (upd H a ho) upd_same
    rw [upd_same] at e1
    cases e1
    exact ⟨_, _, rfl, rfl, l2, r2, .dic upd_same (e2.mono l2.g)⟩
  · cases h
    obtain ⟨vs, e1, e2⟩ := hO (upd H a ho) upd_same
    rw [upd_same] at e1
    cases e1
    exact ⟨_, _, rfl, rfl, l2, r2, .dit upd_same (e2.mono l2.g)⟩
  · cases h
theorem ds_setLc {i : Nat} {y : Str} {py : Pos} {elt tg iter : Expr} {ifs : List Expr} {scope : Scope} {own : List (Str × Nat)} {pos spos : Pos} {fi : M Its} {g : Val → M Unit} {ft : M Bool} {fe : M Val} (hc : X.calm = true) (hN : X.N.Nodup) (hy : X.N[i]? = some y) (hyl : X.env.scope.names.lookup y = some .local)
    (hsw : swapsWith (.ListComp elt [⟨tg, iter, ifs, 0⟩] scope pos) (some (.Name y py)) spos.line X.env = pure true) (ok : BlkOk X.N X.env.scope scope own) (hs : ∀ x, foldedSetIterable iter X.env x = pure x)
    (hi : DI cl X tg iter fi) (hg : ∀ (s : Shared) (H : Hp) (C : Addr) (c : List (Str × Addr)) (fp : List Addr), DG cl (X.blk s H scope (compEnvC scope c C X.env) fp) tg (own.map (·.2)) g)
    (ht : ∀ (s : Shared) (H : Hp) (C : Addr) (c : List (Str × Addr)) (fp : List Addr), DTs cl (X.blk s H scope (compEnvC scope c C X.env) fp) ifs ft)
    (he : ∀ (s : Shared) (H : Hp) (C : Addr) (c : List (Str × Addr)) (fp : List Addr), DE cl (X.blk s H scope (compEnvC scope c C X.env) fp) elt fe) :
    DS cl X (.Assign [.Name y py] (.ListComp elt [⟨tg, iter, ifs, 0⟩] scope pos) spos) (bnd (bnd (dComp (own.map (·.2)) fi g ft fe) keep) fun v => bnd (put i v) fun _ => ret .nx) := fun W cw w st σ H D o st' r h p => by
  intro pins s I
  refine (ps_setLc (g := tDG cl X.K (own.map (·.2)) g) (tt := tDT cl X.K ft) (te := tD cl X.K fe) hc hN hy hyl hsw piW ok (fun s H C c fp => pg_tDG cw_blk (hg s H C c fp)) (fun s H C c fp => pts_tDT cw_blk (ht s H C c fp)) (fun s H C c fp => pe_tD cw_blk (he s H C c fp)) hs).run pins s σ H D I ?_
  unfold tAsg gName
  rcases bnd_some h with ⟨c, fs, h0, rfl⟩ | ⟨v, st0, h0, h2⟩
  · rcases bnd_some h0 with ⟨c, fs, h1, z⟩ | ⟨v, st1, h1, h3⟩
    · cases z
      exact comp_read hi cw r h1 p.toPost
    · exfalso
      unfold keep at h3
      split at h3 <;> cases h3
  · rcases bnd_some h0 with ⟨c, fs, h1, z⟩ | ⟨ow, st1, h1, h3⟩
    · cases z
    · refine comp_read hi cw r h1 fun w1 H1 l1 r1 a ho ha hO => ?_
      have hl : i < σ.length := by rw [I.len]; exact lt_of_get hy
      obtain ⟨t, w2, e, e', l2, r2, q2⟩ := keep_at r1 ha hO h3
      cases e
      subst e'
      cases h2
      exact p w2 _ _ (l1.trans l2) (r2.setP hl q2)
end
end Lf
namespace Lf
open PySem PySem.Spec L2
section
variable {cl : Cl} {X : Cx}
/-! ### calls of built-ins, by values -/
def DC (cl : Cl) (X : Cx) (f : Value) (g : List Val → M Val) : Prop :=
  ∀ (W : WX), Cw X W → ∀ (w : Wd) (st : DSt) (σ : L2.St) (H : Hp) (Q : VK) (o : Out Val) (st' : DSt) (vs : List Val) (xs : List V) (us : List Value) (pins : List (Addr × Obj)) (s : Shared), R X.K cl w st σ H → Paired (VR X.K cl w σ) vs xs → g vs st = some (o, st') →
  Post cl X W σ w H o st' (fun v w' H' => ∀ x, VR X.K cl w' σ v x → Q x H') → Inv X pins σ H s → Vals xs us → wpAny (model X.prog X.w) X.A (call f us) (EP X pins σ Q) X.xe s
section
variable {x : Str} {p pos : Pos} {e : Expr} {es : List Expr} {fa : M (List Val)} {id T : String} {g : List Val → M Val}
theorem de_callB (hc : DC cl X (.builtin id) g) (hg : Gl X x) (hm : X.mg x = none) (hv : bootBuiltins x = some (.builtin id)) (hn : x ≠ "__name__") (hdb : (x == ("__debug__" : Str)) = false)
    (he : starEach (e :: es) X.env = (false, eval e X.env) :: starEach es X.env) (hpl : (backTo pos (starEach es X.env)).any (·.1) = false) (ha : DA cl X (e :: es) fa) : DE cl X (.Call (.Name x p) (e :: es) [] pos) (bnd fa g) := fun W cw w st σ H Q o st' r h pp => by
  intro pins s I
  refine wpAny_Call_Name_kw (ld_blt I hg hm hv ?_ hn hdb)
  rcases bnd_some h with ⟨c, fs, h1, rfl⟩ | ⟨vs, st1, h1, h2⟩
  · exact PyProof.Rows.callWith_builtin1 (thn (ha W cw w st σ H (fun _ _ => False) _ st' r h1 pp pos pins s I) fun us s1 ⟨_, _, _, _, z⟩ => z.elim) he hpl
  · refine PyProof.Rows.callWith_builtin1 (thn (ha W cw w st σ H (fun xs H1 => ∃ w1, Le w H w1 H1 ∧ R X.K cl w1 st1 σ H1 ∧ Paired (VR X.K cl w1 σ) vs xs) _ st1 r h1 (fun w1 H1 l1 r1 xs hxs => ⟨w1, l1, r1, hxs⟩) pos pins s I) fun us s1 ⟨xs, H1, I1, rv, w1, l1, r1, hxs⟩ => ?_) he hpl
    exact hc W cw w1 st1 σ H1 Q o st' vs xs us pins s1 r1 hxs h2 (pp.after l1) I1 rv
theorem de_callTy (hc : DC cl X (.type T) g) (hg : Gl X x) (hm : X.mg x = none) (hv : bootBuiltins x = some (.type T)) (hn : x ≠ "__name__") (hdb : (x == ("__debug__" : Str)) = false)
    (he : starEach (e :: es) X.env = (false, eval e X.env) :: starEach es X.env) (hpl : (backTo pos (starEach es X.env)).any (·.1) = false) (ha : DA cl X (e :: es) fa) : DE cl X (.Call (.Name x p) (e :: es) [] pos) (bnd fa g) := fun W cw w st σ H Q o st' r h pp => by
  intro pins s I
  refine wpAny_Call_Name_kw (ld_blt I hg hm hv ?_ hn hdb)
  rcases bnd_some h with ⟨c, fs, h1, rfl⟩ | ⟨vs, st1, h1, h2⟩
  · exact PyProof.Rows.callWith_type1 (thn (ha W cw w st σ H (fun _ _ => False) _ st' r h1 pp pos pins s I) fun us s1 ⟨_, _, _, _, z⟩ => z.elim) he hpl
  · refine PyProof.Rows.callWith_type1 (thn (ha W cw w st σ H (fun xs H1 => ∃ w1, Le w H w1 H1 ∧ R X.K cl w1 st1 σ H1 ∧ Paired (VR X.K cl w1 σ) vs xs) _ st1 r h1 (fun w1 H1 l1 r1 xs hxs => ⟨w1, l1, r1, hxs⟩) pos pins s I) fun us s1 ⟨xs, H1, I1, rv, w1, l1, r1, hxs⟩ => ?_) he hpl
    exact hc W cw w1 st1 σ H1 Q o st' vs xs us pins s1 r1 hxs h2 (pp.after l1) I1 rv
/-- .. that make a new object -/
def DCF (cl : Cl) (X : Cx) (f : Value) (g : List Val → M Own) : Prop :=
  ∀ (W : WX), Cw X W → ∀ (w : Wd) (st : DSt) (σ : L2.St) (H : Hp) (Q : VK) (o : Out Own) (st' : DSt) (vs : List Val) (xs : List V) (us : List Value) (pins : List (Addr × Obj)) (s : Shared), R X.K cl w st σ H → Paired (VR X.K cl w σ) vs xs → g vs st = some (o, st') →
  Post cl X W σ w H o st' (fun v w' H' => ∀ (p : Addr) (ho : HO), H' p = none → (∀ H2, H2 p = some ho → OwnR X.K cl w'.G H2 v p) → Q (.ref p) (upd H' p ho)) → Inv X pins σ H s → Vals xs us → wpAny (model X.prog X.w) X.A (call f us) (EP X pins σ Q) X.xe s
theorem df_callB {g : List Val → M Own} (hc : DCF cl X (.builtin id) g) (hg : Gl X x) (hm : X.mg x = none) (hv : bootBuiltins x = some (.builtin id)) (hn : x ≠ "__name__") (hdb : (x == ("__debug__" : Str)) = false)
    (he : starEach (e :: es) X.env = (false, eval e X.env) :: starEach es X.env) (hpl : (backTo pos (starEach es X.env)).any (·.1) = false) (ha : DA cl X (e :: es) fa) : DF cl X (.Call (.Name x p) (e :: es) [] pos) (bnd fa g) := fun W cw w st σ H Q o st' r h pp => by
  intro pins s I
  refine wpAny_Call_Name_kw (ld_blt I hg hm hv ?_ hn hdb)
  rcases bnd_some h with ⟨c, fs, h1, rfl⟩ | ⟨vs, st1, h1, h2⟩
  · exact PyProof.Rows.callWith_builtin1 (thn (ha W cw w st σ H (fun _ _ => False) _ st' r h1 pp pos pins s I) fun us s1 ⟨_, _, _, _, z⟩ => z.elim) he hpl
  · refine PyProof.Rows.callWith_builtin1 (thn (ha W cw w st σ H (fun xs H1 => ∃ w1, Le w H w1 H1 ∧ R X.K cl w1 st1 σ H1 ∧ Paired (VR X.K cl w1 σ) vs xs) _ st1 r h1 (fun w1 H1 l1 r1 xs hxs => ⟨w1, l1, r1, hxs⟩) pos pins s I) fun us s1 ⟨xs, H1, I1, rv, w1, l1, r1, hxs⟩ => ?_) he hpl
    exact hc W cw w1 st1 σ H1 Q o st' vs xs us pins s1 r1 hxs h2 (pp.after l1) I1 rv
theorem df_callTy {g : List Val → M Own} (hc : DCF cl X (.type T) g) (hg : Gl X x) (hm : X.mg x = none) (hv : bootBuiltins x = some (.type T)) (hn : x ≠ "__name__") (hdb : (x == ("__debug__" : Str)) = false)
    (he : starEach (e :: es) X.env = (false, eval e X.env) :: starEach es X.env) (hpl : (backTo pos (starEach es X.env)).any (·.1) = false) (ha : DA cl X (e :: es) fa) : DF cl X (.Call (.Name x p) (e :: es) [] pos) (bnd fa g) := fun W cw w st σ H Q o st' r h pp => by
  intro pins s I
  refine wpAny_Call_Name_kw (ld_blt I hg hm hv ?_ hn hdb)
  rcases bnd_some h with ⟨c, fs, h1, rfl⟩ | ⟨vs, st1, h1, h2⟩
  · exact PyProof.Rows.callWith_type1 (thn (ha W cw w st σ H (fun _ _ => False) _ st' r h1 pp pos pins s I) fun us s1 ⟨_, _, _, _, z⟩ => z.elim) he hpl
  · refine PyProof.Rows.callWith_type1 (thn (ha W cw w st σ H (fun xs H1 => ∃ w1, Le w H w1 H1 ∧ R X.K cl w1 st1 σ H1 ∧ Paired (VR X.K cl w1 σ) vs xs) _ st1 r h1 (fun w1 H1 l1 r1 xs hxs => ⟨w1, l1, r1, hxs⟩) pos pins s I) fun us s1 ⟨xs, H1, I1, rv, w1, l1, r1, hxs⟩ => ?_) he hpl
    exact hc W cw w1 st1 σ H1 Q o st' vs xs us pins s1 r1 hxs h2 (pp.after l1) I1 rv
end
theorem one_of {w : Wd} {σ : L2.St} {v : Val} {xs : List V} (h : Paired (VR X.K cl w σ) [v] xs) : ∃ x, xs = [x] ∧ VR X.K cl w σ v x := by
  cases h with
  | cons a b => cases b; exact ⟨_, rfl, a⟩
theorem two_of {w : Wd} {σ : L2.St} {v u : Val} {xs : List V} (h : Paired (VR X.K cl w σ) [v, u] xs) : ∃ x y, xs = [x, y] ∧ VR X.K cl w σ v x ∧ VR X.K cl w σ u y := by
  cases h with
  | cons a b => cases b with
    | cons c d => cases d; exact ⟨_, _, rfl, a, c⟩
/-- len of a list, a tuple, a text -/
def dLen (vs : List Val) : M Val := fun s => match vs with
  | [.t (.str x)] => if x.length ≤ sizeLine then some (.ok (.t (.int x.length)), s) else none
  | [v] => match seqOf s v with
    | some (_, ts) => some (.ok (.t (.int ts.length)), s)
    | none => none
  | _ => none
theorem dc_len : DC cl X (.builtin "len") dLen := fun W cw w st σ H Q o st' vs xs us pins s r hv h p I rv => by
  unfold dLen at h
  split at h
  · split at h
    · rename_i hl
      cases h
      obtain ⟨x, rfl, hx⟩ := one_of hv
      cases hx
      exact call_len pins s σ H _ us Q I rv ⟨_, _, rfl, ⟨hl, rfl⟩, fin0 r p _ (.int _)⟩
    · cases h
  · split at h
    · rename_i b ts e
      cases h
      obtain ⟨x, rfl, hx⟩ := one_of hv
      obtain ⟨a, ws, rfl, g, pr⟩ := seq_at r e hx
      refine call_len pins s σ H _ us Q I rv ⟨_, ts.length, rfl, ?_, fin0 r p _ (.int _)⟩
      cases b with
      | true => exact .inr ⟨ws, g, pr.length⟩
      | false => exact .inl ⟨ws, g, pr.length⟩
    · cases h
  · cases h
/-- int(n), int(flag) -/
def dInt1 (vs : List Val) : M Val := fun s => match vs with
  | [.t (.int i)] => some (.ok (.t (.int i)), s)
  | [.t (.bl b)] => some (.ok (.t (.int (if b then 1 else 0))), s)
  | _ => none
theorem dc_int : DC cl X (.type "int") dInt1 := fun W cw w st σ H Q o st' vs xs us pins s r hv h p I rv => by
  unfold dInt1 at h
  split at h
  · cases h
    obtain ⟨x, rfl, hx⟩ := one_of hv
    cases hx
    exact call_int1 pins s σ H _ us Q I rv (.inl ⟨_, rfl, fin0 r p _ (.int _)⟩)
  · cases h
    obtain ⟨x, rfl, hx⟩ := one_of hv
    cases hx
    exact call_int1 pins s σ H _ us Q I rv (.inr ⟨_, rfl, fin0 r p _ (.int _)⟩)
  · cases h
def blsT : List T → Option (List Bool)
  | [] => some []
  | .bl b :: r => (blsT r).map (b :: ·)
  | _ :: _ => none
theorem bls_at {K : PySem.W.Frag} {G : Hp} : ∀ {ts : List T} {bs : List Bool} {vs : List V}, blsT ts = some bs → Reps K cl G ts vs → vs = bs.map V.bl
  | [], _, _, h, .nil => by cases h; rfl
  | .bl b :: r, bs, _, h, .cons a q => by
    unfold blsT at h
    cases e : blsT r with
    | none => rw [e] at h; cases h
    | some z => rw [e] at h; cases h; cases a; rw [bls_at e q]; rfl
  | .non :: _, _, _, h, _ => by cases h
  | .int _ :: _, _, _, h, _ => by cases h
  | .str _ :: _, _, _, h, _ => by cases h
  | .lst _ :: _, _, _, h, _ => by cases h
  | .tup _ :: _, _, _, h, _ => by cases h
  | .fro _ :: _, _, _, h, _ => by cases h
  | .dic _ :: _, _, _, h, _ => by cases h
  | .dit _ :: _, _, _, h, _ => by cases h
  | .obj _ _ :: _, _, _, h, _ => by cases h
def dAll (vs : List Val) : M Val := fun s => match vs with
  | [v] => match lstOf s v with
    | some ts => match blsT ts with
      | some bs => some (.ok (.t (.bl (bs.all id))), s)
      | none => none
    | none => none
  | _ => none
def dAny (vs : List Val) : M Val := fun s => match vs with
  | [v] => match lstOf s v with
    | some ts => match blsT ts with
      | some bs => some (.ok (.t (.bl (bs.any id))), s)
      | none => none
    | none => none
  | _ => none
theorem dc_all (hc : X.calm = true) : DC cl X (.builtin "all") dAll := fun W cw w st σ H Q o st' vs xs us pins s r hv h p I rv => by
  unfold dAll at h
  split at h
  · split at h
    · rename_i ts e
      split at h
      · rename_i bs e2
        cases h
        obtain ⟨x, rfl, hx⟩ := one_of hv
        obtain ⟨a, ws, rfl, g, q⟩ := lst_at r e hx
        rw [bls_at e2 q] at g
        exact cr_all hc pins s σ H _ us Q I rv ⟨a, bs, rfl, SqL.of g, fin0 r p _ (.bl _)⟩
      · cases h
    · cases h
  · cases h
theorem dc_any (hc : X.calm = true) : DC cl X (.builtin "any") dAny := fun W cw w st σ H Q o st' vs xs us pins s r hv h p I rv => by
  unfold dAny at h
  split at h
  · split at h
    · rename_i ts e
      split at h
      · rename_i bs e2
        cases h
        obtain ⟨x, rfl, hx⟩ := one_of hv
        obtain ⟨a, ws, rfl, g, q⟩ := lst_at r e hx
        rw [bls_at e2 q] at g
        exact cr_any hc pins s σ H _ us Q I rv ⟨a, bs, rfl, SqL.of g, fin0 r p _ (.bl _)⟩
      · cases h
    · cases h
  · cases h
def intsT : List T → Option (List Int)
  | [] => some []
  | .int b :: r => (intsT r).map (b :: ·)
  | _ :: _ => none
theorem intsT_at {K : PySem.W.Frag} {G : Hp} : ∀ {ts : List T} {bs : List Int} {vs : List V}, intsT ts = some bs → Reps K cl G ts vs → vs = bs.map V.int
  | [], _, _, h, .nil => by cases h; rfl
  | .int b :: r, bs, _, h, .cons a q => by
    unfold intsT at h
    cases e : intsT r with
    | none => rw [e] at h; cases h
    | some z => rw [e] at h; cases h; cases a; rw [intsT_at e q]; rfl
  | .non :: _, _, _, h, _ => by cases h
  | .bl _ :: _, _, _, h, _ => by cases h
  | .str _ :: _, _, _, h, _ => by cases h
  | .lst _ :: _, _, _, h, _ => by cases h
  | .tup _ :: _, _, _, h, _ => by cases h
  | .fro _ :: _, _, _, h, _ => by cases h
  | .dic _ :: _, _, _, h, _ => by cases h
  | .dit _ :: _, _, _, h, _ => by cases h
  | .obj _ _ :: _, _, _, h, _ => by cases h
def strsT : List T → Option (List Str)
  | [] => some []
  | .str b :: r => (strsT r).map (b :: ·)
  | _ :: _ => none
theorem strs_at {K : PySem.W.Frag} {G : Hp} : ∀ {ts : List T} {bs : List Str} {vs : List V}, strsT ts = some bs → Reps K cl G ts vs → vs = bs.map V.str
  | [], _, _, h, .nil => by cases h; rfl
  | .str b :: r, bs, _, h, .cons a q => by
    unfold strsT at h
    cases e : strsT r with
    | none => rw [e] at h; cases h
    | some z => rw [e] at h; cases h; cases a; rw [strs_at e q]; rfl
  | .non :: _, _, _, h, _ => by cases h
  | .bl _ :: _, _, _, h, _ => by cases h
  | .int _ :: _, _, _, h, _ => by cases h
  | .lst _ :: _, _, _, h, _ => by cases h
  | .tup _ :: _, _, _, h, _ => by cases h
  | .fro _ :: _, _, _, h, _ => by cases h
  | .dic _ :: _, _, _, h, _ => by cases h
  | .dit _ :: _, _, _, h, _ => by cases h
  | .obj _ _ :: _, _, _, h, _ => by cases h
/-- the least of some intsT -/
def minI : List Int → Int
  | [] => 0
  | [a] => a
  | a :: r => min a (minI r)
theorem minI_mem : ∀ {l : List Int}, l ≠ [] → minI l ∈ l
  | [], h => absurd rfl h
  | [a], _ => by simp [minI]
  | a :: b :: r, _ => by
    have ih := minI_mem (l := b :: r) (by simp)
    simp only [minI]
    rcases Int.le_total a (minI (b :: r)) with h | h
    · rw [Int.min_eq_left h]; simp
    · rw [Int.min_eq_right h]; exact List.mem_cons_of_mem _ ih
theorem minI_le : ∀ {l : List Int} {y : Int}, y ∈ l → minI l ≤ y
  | [a], y, h => by simp at h; simp [minI, h]
  | a :: b :: r, y, h => by
    simp only [minI]
    rcases List.mem_cons.mp h with rfl | h
    · exact Int.min_le_left _ _
    · exact Int.le_trans (Int.min_le_right _ _) (minI_le h)
def dMin (vs : List Val) : M Val := fun s => match vs with
  | [.t (.int i), .t (.int j)] => some (.ok (.t (.int (if j < i then j else i))), s)
  | [v] => match lstOf s v with
    | some ts => match intsT ts with
      | some bs => if bs.isEmpty then none else some (.ok (.t (.int (minI bs))), s)
      | none => none
    | none => none
  | _ => none
theorem dc_min (hc : X.calm = true) : DC cl X (.builtin "min") dMin := fun W cw w st σ H Q o st' vs xs us pins s r hv h p I rv => by
  unfold dMin at h
  split at h
  · cases h
    obtain ⟨x, y, rfl, hx, hy⟩ := two_of hv
    cases hx
    cases hy
    exact call_min2 hc pins s σ H _ us Q I rv ⟨_, _, rfl, fin0 r p _ (.int _)⟩
  · split at h
    · rename_i ts e
      split at h
      · rename_i bs e2
        split at h
        · cases h
        · rename_i hne
          cases h
          obtain ⟨x, rfl, hx⟩ := one_of hv
          obtain ⟨a, ws, rfl, g, q⟩ := lst_at r e hx
          rw [intsT_at e2 q] at g
          have hbs : bs ≠ [] := fun z => by rw [z] at hne; exact hne rfl
          refine cr_min hc pins s σ H _ us Q I rv ⟨a, bs, rfl, SqL.of g, List.length_pos_iff.mpr hbs, fun m hm hl => ?_⟩
          have : m = minI bs := Int.le_antisymm (hl _ (minI_mem hbs)) (minI_le hm)
          rw [this]
          exact fin0 r p _ (.int _)
      · cases h
    · cases h
  · cases h
def dSum (vs : List Val) : M Val := fun s => match vs with
  | [v] => match lstOf s v with
    | some ts => match intsT ts with
      | some bs => some (.ok (.t (.int bs.sum)), s)
      | none => none
    | none => none
  | _ => none
theorem dc_sum (hc : X.calm = true) : DC cl X (.builtin "sum") dSum := fun W cw w st σ H Q o st' vs xs us pins s r hv h p I rv => by
  unfold dSum at h
  split at h
  · split at h
    · rename_i ts e
      split at h
      · rename_i bs e2
        cases h
        obtain ⟨x, rfl, hx⟩ := one_of hv
        obtain ⟨a, ws, rfl, g, q⟩ := lst_at r e hx
        rw [intsT_at e2 q] at g
        exact cr_sum hc pins s σ H _ us Q I rv ⟨a, bs, rfl, SqL.of g, fin0 r p _ (.int _)⟩
      · cases h
    · cases h
  · cases h
/-- list(xs): a new list -/
def dList (vs : List Val) : M Own := fun s => match vs with
  | [v] => match seqOf s v with
    | some (_, ts) => match plains ts with
      | some xs => some (.ok (.lst xs), s)
      | none => none
    | none => none
  | _ => none
theorem dcf_list : DCF cl X (.type "list") dList := fun W cw w st σ H Q o st' vs xs us pins s r hv h p I rv => by
  unfold dList at h
  split at h
  · split at h
    · rename_i b ts e
      split at h
      · rename_i ys e2
        cases h
        obtain ⟨x, rfl, hx⟩ := one_of hv
        obtain ⟨a, ws, rfl, g, pr⟩ := seq_at r e hx
        have q := plains_reps e2 pr
        refine call_list_of pins s σ H _ us Q I rv ⟨a, ws, rfl, ?_, fun l hl => ?_⟩
        · cases b with
          | true => exact .inr g
          | false => exact .inl g
        · exact p w H (Le.refl _ _) r l (.lst ws) hl fun H2 e2 => ⟨ws, e2, q⟩
      · cases h
    · cases h
  · cases h
/-- tuple(xs) -/
def dTuple (vs : List Val) : M Val := fun s => match vs with
  | [v] => match seqOf s v with
    | some (_, ts) => match plains ts with
      | some xs => some (.ok (.t (.tup xs)), s)
      | none => none
    | none => none
  | _ => none
theorem dc_tuple : DC cl X (.type "tuple") dTuple := fun W cw w st σ H Q o st' vs xs us pins s r hv h p I rv => by
  unfold dTuple at h
  split at h
  · rename_i v
    split at h
    · rename_i b ts e
      split at h
      · rename_i ys e2
        cases h
        obtain ⟨x, rfl, hx⟩ := one_of hv
        obtain ⟨a, ws, rfl, g, pr⟩ := seq_at r e hx
        have q := plains_reps e2 pr
        refine call_tuple_of pins s σ H _ us Q I rv ⟨a, ws, rfl, ?_⟩
        cases b with
        | true =>
          refine .inr ⟨g, ?_⟩
          -- a tuple is itself
          cases v with
          | t y => cases y with
            | tup zs =>
              cases e
              have : zs = ys := by
                have := plains_map e2
                exact (List.map_inj_right (fun _ _ z => by cases z; rfl)).mp this
              subst this
              exact fin0 r p _ hx
            | _ => cases e
          | loc n =>
            unfold seqOf at e
            dsimp only at e
            split at e <;> cases e
          | sl n =>
            unfold seqOf at e
            dsimp only at e
            split at e <;> cases e
        | false => exact .inl ⟨g, fun l hl => finT r q p hl⟩
      · cases h
    · cases h
  · cases h
end
end Lf
namespace Lf
open PySem PySem.Spec L2
/-! ### tables -/
section
variable {κ α : Type} [DecidableEq κ]
def look : List (κ × α) → κ → Option α
  | [], _ => none
  | (k, a) :: r, j => if k = j then some a else look r j
def putA : List (κ × α) → κ → α → List (κ × α)
  | [], k, a => [(k, a)]
  | (j, b) :: r, k, a => if j = k then (j, a) :: r else (j, b) :: putA r k a
end
/-- keys stand once -/
def okKeys {κ α : Type} [DecidableEq κ] (l : List (κ × α)) : Bool := decide (l.map (·.1)).Nodup
section
variable {cl : Cl} {X : Cx}
theorem look_val {κ : Type} [DecidableEq κ] {K : PySem.W.Frag} {w : Wd} (k : κ) : ∀ {l : List (κ × Fv)} {m : List (κ × V)}, Paired (PvR K cl w) l m → (∀ f, look l k = some f → ∃ v, valV m k = some v ∧ FvR K cl w f v) ∧ (look l k = none → valV m k = none)
  | _, _, .nil => ⟨fun f h => (by cases h), fun _ => rfl⟩
  | _, _, .cons (a := p) (b := q) h t => by
    obtain ⟨e, hv⟩ := h
    obtain ⟨j, f⟩ := p
    obtain ⟨j', v⟩ := q
    cases (show j = j' from e)
    obtain ⟨i1, i2⟩ := look_val k t
    by_cases ej : j = k
    · refine ⟨fun f' h' => ?_, fun h' => ?_⟩
      · simp only [look, if_pos ej] at h'
        cases h'
        exact ⟨v, valV_pos (p := (j, v)) ej, hv⟩
      · simp only [look, if_pos ej] at h'
        cases h'
    · refine ⟨fun f' h' => ?_, fun h' => ?_⟩
      · simp only [look, if_neg ej] at h'
        obtain ⟨v', e1, e2⟩ := i1 f' h'
        exact ⟨v', (valV_neg (p := (j, v)) ej).trans e1, e2⟩
      · simp only [look, if_neg ej] at h'
        exact (valV_neg (p := (j, v)) ej).trans (i2 h')
theorem nomatch_any {κ : Type} [DecidableEq κ] {k : κ} : ∀ {m : List (κ × V)}, k ∉ m.map (·.1) → (m.any fun kv => decide (kv.1 = k)) = false ∧ m.map (fun kv => if kv.1 = k then (kv.1, (V.non)) else kv) = m
  | [], _ => ⟨rfl, rfl⟩
  | p :: r, h => by
    rw [List.map_cons, List.mem_cons, not_or] at h
    obtain ⟨i1, i2⟩ := nomatch_any (m := r) h.2
    have hp : ¬ p.1 = k := fun z => h.1 z.symm
    exact ⟨by rw [List.any_cons, i1, decide_eq_false hp]; rfl, by rw [List.map_cons, i2, if_neg hp]⟩
theorem map_same {κ : Type} [DecidableEq κ] {k : κ} {v : V} : ∀ {m : List (κ × V)}, k ∉ m.map (·.1) → m.map (fun kv => if kv.1 = k then (kv.1, v) else kv) = m
  | [], _ => rfl
  | p :: r, h => by
    rw [List.map_cons, List.mem_cons, not_or] at h
    have hp : ¬ p.1 = k := fun z => h.1 z.symm
    rw [List.map_cons, map_same (m := r) h.2, if_neg hp]
/-- the library's store is ours where each key stands once -/
theorem putK_put {κ : Type} [DecidableEq κ] {k : κ} {v : V} : ∀ {m : List (κ × V)}, (m.map (·.1)).Nodup → L2.putK m k v = putA m k v
  | [], _ => rfl
  | p :: r, h => by
    rw [List.map_cons, List.nodup_cons] at h
    have ih := putK_put (k := k) (v := v) (m := r) h.2
    obtain ⟨j, u⟩ := p
    by_cases e : j = k
    · subst e
      have h1 : (((j, u) :: r).any fun kv => decide (kv.1 = j)) = true := by simp
      unfold L2.putK
      rw [if_pos h1, List.map_cons, map_same h.1]
      simp [putA]
    · have h1 : (((j, u) :: r).any fun kv => decide (kv.1 = k)) = r.any fun kv => decide (kv.1 = k) := by rw [List.any_cons, decide_eq_false e, Bool.false_or]
      have e2 : putA ((j, u) :: r) k v = (j, u) :: putA r k v := by simp [putA, e]
      rw [e2, ← ih]
      unfold L2.putK
      rw [h1, List.map_cons, if_neg e]
      split
      · rfl
      · rfl
theorem put_pair {κ : Type} [DecidableEq κ] {K : PySem.W.Frag} {w : Wd} {k : κ} {f : Fv} {v : V} (h : FvR K cl w f v) : ∀ {l : List (κ × Fv)} {m : List (κ × V)}, Paired (PvR K cl w) l m → Paired (PvR K cl w) (putA l k f) (putA m k v)
  | _, _, .nil => .cons ⟨rfl, h⟩ .nil
  | _, _, .cons (a := p) (b := q) e t => by
    obtain ⟨e1, e2⟩ := e
    obtain ⟨j, g⟩ := p
    obtain ⟨j', u⟩ := q
    cases (show j = j' from e1)
    unfold putA
    by_cases ej : j = k
    · rw [if_pos ej, if_pos ej]; exact .cons ⟨rfl, h⟩ t
    · rw [if_neg ej, if_neg ej]; exact .cons ⟨rfl, e2⟩ (put_pair h t)
theorem keys_pair {κ : Type} {K : PySem.W.Frag} {w : Wd} : ∀ {l : List (κ × Fv)} {m : List (κ × V)}, Paired (PvR K cl w) l m → l.map (·.1) = m.map (·.1)
  | _, _, .nil => rfl
  | _, _, .cons e t => by rw [List.map_cons, List.map_cons, keys_pair t, e.1]
theorem RepD.pv {K : PySem.W.Frag} {w : Wd} : ∀ {l : List (Key × T)} {m : List (Key × V)}, RepD K cl w.G l m → Paired (PvR K cl w) (l.map fun p => (p.1, Fv.t p.2)) m
  | _, _, .nil => .nil
  | _, _, .cons h r => .cons ⟨rfl, h⟩ r.pv
theorem RepE.pv {K : PySem.W.Frag} {w : Wd} : ∀ {l : List (List Key × T)} {m : List (List Key × V)}, RepE K cl w.G l m → Paired (PvR K cl w) (l.map fun p => (p.1, Fv.t p.2)) m
  | _, _, .nil => .nil
  | _, _, .cons h r => .cons ⟨rfl, h⟩ r.pv
/-- a dict by its pairs -/
def dcK (s : DSt) : Val → Option (List (Key × Fv))
  | .t (.dic kvs) => some (kvs.map fun p => (p.1, Fv.t p.2))
  | .loc n => match s.μ[n]? with
    | some (.dic _ kvs) => some kvs
    | some (.fz (.dic kvs)) => some (kvs.map fun p => (p.1, Fv.t p.2))
    | _ => none
  | .sl i => match s.δ[i]? with
    | some (some (.own (.dic _ kvs))) => some (kvs.map fun p => (p.1, Fv.t p.2))
    | some (some (.t (.dic kvs))) => some (kvs.map fun p => (p.1, Fv.t p.2))
    | _ => none
  | _ => none
theorem dcK_at {w : Wd} {st : DSt} {σ : L2.St} {H : Hp} {K : PySem.W.Frag} (r : R K cl w st σ H) {v : Val} {x : V} {l : List (Key × Fv)} (h : dcK st v = some l) (hv : VR K cl w σ v x) : ∃ a m, x = .ref a ∧ Rd H a (.dK m) ∧ Paired (PvR K cl w) l m := by
  cases v with
  | t y => cases y with
    | dic xs =>
      cases h
      cases hv with
      | dic e q => exact ⟨_, _, rfl, r.rc.dK e, q.pv⟩
    | _ => cases h
  | loc n =>
    obtain ⟨a, ha, rfl⟩ := hv
    unfold dcK at h
    dsimp only at h
    split at h
    · rename_i lk kvs e
      cases h
      obtain ⟨_, q⟩ := r.rc.cell n _ a e ha rfl
      cases lk with
      | false => obtain ⟨m, e2, q⟩ := q; exact ⟨a, m, rfl, .inl e2, q⟩
      | true => obtain ⟨o, m, e2, q⟩ := q; exact ⟨a, m, rfl, .inr ⟨o, e2⟩, q⟩
    · rename_i kvs e
      cases h
      have q := r.rc.fz n _ a e ha
      cases q with
      | dic e q => exact ⟨_, _, rfl, r.rc.dK e, q.pv⟩
    · cases h
  | sl i =>
    unfold dcK at h
    dsimp only at h
    split at h
    · rename_i lk kvs e
      cases h
      obtain ⟨y, e1, a, e2, _, q⟩ := r.slot i _ e
      rw [show σ[i]? = some (some x) from hv] at e1
      cases e1
      cases lk with
      | false => obtain ⟨m, e3, q⟩ := q; exact ⟨a, m, e2, .inl e3, q.pv⟩
      | true => obtain ⟨o, m, e3, q⟩ := q; exact ⟨a, m, e2, .inr ⟨o, e3⟩, q.pv⟩
    · rename_i kvs e
      cases h
      obtain ⟨y, e1, q⟩ := r.slot i _ e
      rw [show σ[i]? = some (some x) from hv] at e1
      cases e1
      cases q with
      | dic e q => exact ⟨_, _, rfl, r.rc.dK e, q.pv⟩
    · cases h
def keyT : T → Option Key
  | .int i => some (.inl i)
  | .str x => some (.inr x)
  | _ => none
theorem keyT_at {K : PySem.W.Frag} {G : Hp} {t : T} {k : Key} {x : V} (h : keyT t = some k) (r : Rep K cl G t x) : x = kV k := by
  cases r <;> simp only [keyT] at h <;> first | (cases h; rfl) | cases h
/-- membership: in a dict too -/
def dInD (neg : Bool) (a b : Val) : M Val := fun s => match dcK s b with
  | some kvs => match a with
    | .t x => match keyT x with
      | some k => some (.ok (.t (.bl (if neg then !(look kvs k).isSome else (look kvs k).isSome))), s)
      | none => none
    | _ => none
  | none => dIn neg a b s
theorem op3_in_gen {neg : Bool} {k : Nat} (hr : Room k X.A) : DOp cl X (compareOp (if neg then .NotIn else .In)) (dInD neg) := fun W cw w st σ H Q o st' a b x y u v pins s r ha hb h p I ru rv => by
  unfold dInD at h
  split at h
  · rename_i kvs e
    split at h
    · rename_i t
      split at h
      · rename_i kk ek
        cases h
        obtain ⟨d, m, rfl, rd, pr⟩ := dcK_at r e hb
        cases (show v = Value.ref d from rv)
        have hx := keyT_at ek ha
        subst hx
        have g : DGet H d (kV kk) (valV m kk) := .inl ⟨m, kk, rd, rfl, rfl⟩
        have hs : (valV m kk).isSome = (look kvs kk).isSome := by
          obtain ⟨i1, i2⟩ := look_val kk pr
          cases q : look kvs kk with
          | none => rw [i2 q]; rfl
          | some f => obtain ⟨v', e1, _⟩ := i1 f q; rw [e1]; rfl
        cases neg with
        | false => exact d_in (hu_of hr) I g ru fun s3 I3 => ⟨.bl _, H, I3, rfl, by rw [hs]; exact fin0 r p _ (.bl _)⟩
        | true => exact d_notIn (hu_of hr) I g ru fun s3 I3 => ⟨.bl _, H, I3, rfl, by rw [hs]; exact fin0 r p _ (.bl _)⟩
      · cases h
    · cases h
  · exact op2_in_gen hr W cw w st σ H Q o st' a b x y u v pins s r ha hb h p I ru rv
theorem op3_in {k : Nat} (hr : Room k X.A) : DOp cl X (compareOp .In) (dInD false) := op3_in_gen (neg := false) hr
theorem op3_notin {k : Nat} (hr : Room k X.A) : DOp cl X (compareOp .NotIn) (dInD true) := op3_in_gen (neg := true) hr
/-! ### a[b] -/
def dIx (a b : Val) : M Val := fun s => match dcK s a with
  | some kvs => match b with
    | .t x => match keyT x with
      | some k => match look kvs k with
        | some f => some (.ok f.val, s)
        | none => none
      | none => none
    | _ => none
  | none => match a, b with
    | .t (.str x), .t (.int i) => if x.length ≤ sizeLine then match atI x.cps.toList i with
        | some c => some (.ok (.t (.str ⟨#[c]⟩)), s)
        | none => none
      else none
    | a, .t (.int i) => match seqOf s a with
      | some (_, ts) => match atI ts i with
        | some f => some (.ok f.val, s)
        | none => none
      | none => none
    | _, _ => none
theorem atI_pair {α β : Type} {F : α → β → Prop} {l : List α} {m : List β} {i : Int} {a : α} (h : Paired F l m) (e : atI l i = some a) : ∃ b, atI m i = some b ∧ F a b := by
  unfold atI at e ⊢
  rw [← h.length]
  cases q : ixN l.length i with
  | none => rw [q] at e; cases e
  | some j => rw [q] at e; exact paired_at h e
theorem de_ix {a b : Expr} {pos : Pos} {fa fb : M Val} {k : Nat} (hr : Room k X.A) (hs : PlainIx b) (ha : DE cl X a fa) (hb : DE cl X b fb) : DE cl X (.Subscript a b pos) (dBin dIx fa fb) := fun W cw w st σ H Q o st' r h p => by
  rcases bnd_some h with ⟨c, fs, h1, rfl⟩ | ⟨va, st1, h1, h2⟩
  · exact PE.we (pe_ix ix_seq peW peW hs) (ha W cw w st σ H _ _ st' r h1 p)
  · rcases bnd_some h2 with ⟨c, fs, h3, rfl⟩ | ⟨vb, st2, h3, h4⟩
    · refine PE.we (pe_ix ix_seq peW peW hs) (ha W cw w st σ H _ _ st1 r h1 fun w1 H1 l1 r1 x hx => ?_)
      exact hb W cw w1 st1 σ H1 _ _ st' r1 h3 (p.after l1)
    · unfold dIx at h4
      split at h4
      · rename_i kvs e
        split at h4
        · rename_i t
          split at h4
          · rename_i kk ek
            split at h4
            · rename_i f ef
              cases h4
              refine PE.we (pe_dget (hu_of hr) peW peW hs) (ha W cw w st σ H _ _ st1 r h1 fun w1 H1 l1 r1 x hx => ?_)
              refine hb W cw w1 st1 σ H1 _ _ _ r1 h3 fun w2 H2 l2 r2 y hy => ?_
              obtain ⟨d, m, rfl, rd, pr⟩ := dcK_at r2 e (hx.le l2)
              obtain ⟨v, e1, e2⟩ := (look_val kk pr).1 f ef
              refine ⟨d, v, rfl, .inl ⟨m, kk, rd, keyT_at ek hy, e1.symm⟩, p w2 H2 (l1.trans l2) r2 v e2.vr⟩
            · cases h4
          · cases h4
        · cases h4
      · refine PE.we (pe_ix ix_seq peW peW hs) (ha W cw w st σ H _ _ st1 r h1 fun w1 H1 l1 r1 x hx => ?_)
        split at h4
        · split at h4
          · rename_i hl
            split at h4
            · rename_i c ec
              cases h4
              refine hb W cw w1 st1 σ H1 _ _ _ r1 h3 fun w2 H2 l2 r2 y hy => ?_
              cases hx
              cases hy
              exact .inr (.inr ⟨_, _, c, rfl, rfl, hl, ec, p w2 H2 (l1.trans l2) r2 _ (.str _)⟩)
            · cases h4
          · cases h4
        · split at h4
          · rename_i tb ts e
            split at h4
            · rename_i f ef
              cases h4
              refine hb W cw w1 st1 σ H1 _ _ _ r1 h3 fun w2 H2 l2 r2 y hy => ?_
              cases hy
              obtain ⟨q, xs, rfl, g, pr⟩ := seq_at r2 e (hx.le l2)
              obtain ⟨v, e1, e2⟩ := atI_pair pr ef
              cases tb with
              | false => exact .inl ⟨q, xs, _, v, rfl, rfl, g, e1, p w2 H2 (l1.trans l2) r2 v e2.vr⟩
              | true => exact .inr (.inl ⟨q, xs, _, v, rfl, rfl, g, e1, p w2 H2 (l1.trans l2) r2 v e2.vr⟩)
            · cases h4
          · cases h4
        · cases h4
/-! ### slices of a list: a new list -/
def cutT {α : Type} (xs : List α) (lo hi : Option Int) : List α := (xs.drop (HT.sIx xs.length 0 lo)).take (HT.sIx xs.length xs.length hi - HT.sIx xs.length 0 lo)
theorem Reps.drop {K : PySem.W.Frag} {G : Hp} : ∀ (n : Nat) {a : List T} {x : List V}, Reps K cl G a x → Reps K cl G (a.drop n) (x.drop n)
  | 0, _, _, h => h
  | _ + 1, _, _, .nil => .nil
  | n + 1, _, _, .cons _ r => Reps.drop n r
theorem Reps.take {K : PySem.W.Frag} {G : Hp} : ∀ (n : Nat) {a : List T} {x : List V}, Reps K cl G a x → Reps K cl G (a.take n) (x.take n)
  | 0, _, _, _ => .nil
  | _ + 1, _, _, .nil => .nil
  | n + 1, _, _, .cons h r => .cons h (Reps.take n r)
theorem Reps.cut {K : PySem.W.Frag} {G : Hp} {a : List T} {x : List V} (h : Reps K cl G a x) (lo hi : Option Int) : Reps K cl G (cutT a lo hi) (cutV x lo hi) := by
  unfold cutT cutV
  rw [h.length]
  exact Reps.take _ (Reps.drop _ h)
/-- a part of a slice -/
inductive DPt (cl : Cl) (X : Cx) : Option Expr → M (Option Int) → Prop
  | dn : DPt cl X none (ret none)
  | ds {e : Expr} {f : M Val} : DE cl X e f → DPt cl X (some e) (bnd f fun v => match v with | .t (.int i) => ret (some i) | _ => stuck)
def WO (X : Cx) (e : Option Expr) : TO := fun σ H Q => ∀ pins s, Inv X pins σ H s → wpAny (model X.prog X.w) X.A (evalPart e X.env) (fun u s' => ∃ o H', Inv X pins σ H' s' ∧ IsPart u o ∧ Q o H') X.xe s
theorem poW {e : Option Expr} : PO X e (WO X e) := ⟨fun pins s σ H Q I h => h pins s I⟩
theorem DPt.run {e : Option Expr} {f : M (Option Int)} (h : DPt cl X e f) {W : WX} (cw : Cw X W) {w : Wd} {st st' : DSt} {σ : L2.St} {H : Hp} {Q : Option Int → Hp → Prop} {o : Out (Option Int)} (r : R X.K cl w st σ H) (hf : f st = some (o, st'))
    (p : Post cl X W σ w H o st' (fun i _ H' => Q i H')) : WO X e σ H Q := by
  cases h with
  | dn => cases hf; exact fun pins s I => po_none.run pins s σ H Q I (p w H (Le.refl _ _) r)
  | ds he =>
    intro pins s I
    refine (po_some peW).run pins s σ H Q I ?_
    unfold tPart
    rcases bnd_some hf with ⟨c, fs, h1, rfl⟩ | ⟨v, st1, h1, h2⟩
    · exact he W cw w st σ H _ _ st' r h1 p
    · refine he W cw w st σ H _ _ st1 r h1 fun w1 H1 l1 r1 x hx => ?_
      split at h2
      · cases h2
        cases hx
        exact ⟨_, rfl, p w1 H1 l1 r1⟩
      · cases h2
def dCut (fa : M Val) (fl fh : M (Option Int)) : M Own := bnd fa fun v => bnd fl fun lo => bnd fh fun hi => fun s => match lstOf s v with
  | some ts => some (.ok (.lst (cutT ts lo hi)), s)
  | none => none
theorem df_slice {e : Expr} {lo hi : Option Expr} {pos p2 : Pos} {f : M Val} {fl fh : M (Option Int)} (he : DE cl X e f) (hl : DPt cl X lo fl) (hh : DPt cl X hi fh) : DF cl X (.Subscript e (.Slice lo hi none p2) pos) (dCut f fl fh) := fun W cw w st σ H Q o st' r h p => by
  refine PE.we (pe_slice sl_list peW poW poW) ?_
  unfold tSl
  rcases bnd_some h with ⟨c, fs, h1, rfl⟩ | ⟨v, st1, h1, h2⟩
  · exact he W cw w st σ H _ _ st' r h1 p
  · refine he W cw w st σ H _ _ st1 r h1 fun w1 H1 l1 r1 x hx => ?_
    rcases bnd_some h2 with ⟨c, fs, h3, rfl⟩ | ⟨i, st2, h3, h4⟩
    · exact hl.run cw r1 h3 (p.after l1).exc
    · refine hl.run cw r1 h3 fun w2 H2 l2 r2 => ?_
      rcases bnd_some h4 with ⟨c, fs, h5, rfl⟩ | ⟨j, st3, h5, h6⟩
      · exact hh.run cw r2 h5 (p.after (l1.trans l2)).exc
      · refine hh.run cw r2 h5 fun w3 H3 l3 r3 => ?_
        split at h6
        · rename_i ts e6
          cases h6
          obtain ⟨a, vs, rfl, g, q⟩ := lst_at r3 e6 ((hx.le l2).le l3)
          exact ⟨a, vs, rfl, SqL.of g, fun q0 hq0 => p w3 H3 (l1.trans (l2.trans l3)) r3 q0 _ hq0 fun H4 e4 => ⟨_, e4, q.cut i j⟩⟩
        · cases h6
end
end Lf
namespace Lf
open PySem PySem.Spec L2
section
variable {cl : Cl} {X : Cx}
/-! ### what is owned changes -/
theorem R.updO {K : PySem.W.Frag} {w : Wd} {st : DSt} {σ : L2.St} {H : Hp} (r : R K cl w st σ H) {i : Nat} {o o' : Own} {a : Addr} {ho : HO} (e : st.δ[i]? = some (some (.own o))) (hx : σ[i]? = some (some (.ref a))) (hO : ∀ H2, H2 a = some ho → OwnR K cl w.G H2 o' a) :
    R K cl w { st with δ := st.δ.set i (some (.own o')) } σ (upd H a ho) ∧ Le w H w (upd H a ho) := by
  obtain ⟨x, e1, b, rfl, oa, _⟩ := r.slot i _ e
  rw [hx] at e1
  cases e1
  obtain ⟨ga, na⟩ := r.rc.own a _ oa
  have kH : ∀ b, b ≠ a → ∀ u, H b = some u → upd H a ho b = some u := fun b hb u q => by rw [upd_ne hb]; exact q
  refine ⟨⟨⟨fun b u q => ?_, r.rc.len, fun n c b q1 q2 q3 => ?_, fun b u q => ?_, r.rc.fz⟩, by rw [List.length_set]; exact r.slen, fun j s q => ?_⟩, ⟨List.prefix_refl _, Same.refl _, fun _ q _ => q, fun b u q1 q2 => kH b (fun z => by rw [z, oa] at q1; cases q1) u q2, fun _ _ _ => rfl⟩⟩
  · have hb : b ≠ a := fun z => by rw [z, ga] at q; cases q
    rw [upd_ne hb]; exact r.rc.sub b u q
  · obtain ⟨x1, x2⟩ := r.rc.cell n c b q1 q2 q3
    have hb : b ≠ a := fun z => by rw [z, oa] at x1; cases x1
    exact ⟨x1, x2.keep (List.prefix_refl _) (Same.refl _) (kH b hb)⟩
  · refine ⟨(r.rc.own b u q).1, ?_⟩
    by_cases hb : b = a
    · rw [hb, upd_same]; exact fun z => nomatch z
    · rw [upd_ne hb]; exact (r.rc.own b u q).2
  · have q' : (st.δ.set i (some (.own o')))[j]? = some (some s) := q
    by_cases hj : i = j
    · subst hj
      rw [List.getElem?_set_self (lt_of_get e)] at q'
      cases q'
      exact ⟨_, hx, a, rfl, oa, hO _ upd_same⟩
    · rw [List.getElem?_set_ne hj] at q'
      obtain ⟨y, y1, y2⟩ := r.slot j s q'
      refine ⟨y, y1, ?_⟩
      cases s with
      | t z => exact y2
      | loc n => exact y2
      | own o'' =>
        obtain ⟨b, z1, z2, z3⟩ := y2
        have hb : b ≠ a := fun z => by rw [z, oa] at z2; cases z2; exact hj rfl
        exact ⟨b, z1, z2, z3.keep (Same.refl _) (kH b hb)⟩
      | exc c fs => trivial
theorem R.updC {K : PySem.W.Frag} {w : Wd} {st : DSt} {σ : L2.St} {H : Hp} (r : R K cl w st σ H) {n : Nat} {c c' : Cell} {a : Addr} {ho : HO} (e : st.μ[n]? = some c) (ha : w.as[n]? = some a) (hl : c.live = true) (hl' : c'.live = true) (hO : ∀ H2, H2 a = some ho → CellR K cl w H2 c' a) :
    R K cl w { st with μ := st.μ.set n c' } σ (upd H a ho) ∧ Le w H w (upd H a ho) := by
  obtain ⟨oa, _⟩ := r.rc.cell n c a e ha hl
  obtain ⟨ga, na⟩ := r.rc.own a _ oa
  have kH : ∀ b, b ≠ a → ∀ u, H b = some u → upd H a ho b = some u := fun b hb u q => by rw [upd_ne hb]; exact q
  refine ⟨⟨⟨fun b u q => ?_, by rw [List.length_set]; exact r.rc.len, fun m c2 b q1 q2 q3 => ?_, fun b u q => ?_, fun m x b q1 q2 => ?_⟩, r.slen, fun j s q => ?_⟩, ⟨List.prefix_refl _, Same.refl _, fun _ q _ => q, fun b u q1 q2 => kH b (fun z => by rw [z, oa] at q1; cases q1) u q2, fun _ _ _ => rfl⟩⟩
  · have hb : b ≠ a := fun z => by rw [z, ga] at q; cases q
    rw [upd_ne hb]; exact r.rc.sub b u q
  · have q1' : (st.μ.set n c')[m]? = some c2 := q1
    by_cases hm : n = m
    · subst hm
      rw [List.getElem?_set_self (lt_of_get e)] at q1'
      cases q1'
      rw [ha] at q2
      cases q2
      exact ⟨oa, hO _ upd_same⟩
    · rw [List.getElem?_set_ne hm] at q1'
      obtain ⟨x1, x2⟩ := r.rc.cell m c2 b q1' q2 q3
      have hb : b ≠ a := fun z => by rw [z, oa] at x1; cases x1; exact hm rfl
      exact ⟨x1, x2.keep (List.prefix_refl _) (Same.refl _) (kH b hb)⟩
  · refine ⟨(r.rc.own b u q).1, ?_⟩
    by_cases hb : b = a
    · rw [hb, upd_same]; exact fun z => nomatch z
    · rw [upd_ne hb]; exact (r.rc.own b u q).2
  · have q1' : (st.μ.set n c')[m]? = some (Cell.fz x) := q1
    by_cases hm : n = m
    · subst hm
      rw [List.getElem?_set_self (lt_of_get e)] at q1'
      cases q1'
      cases hl'
    · rw [List.getElem?_set_ne hm] at q1'
      exact r.rc.fz m x b q1' q2
  · obtain ⟨y, y1, y2⟩ := r.slot j s q
    refine ⟨y, y1, ?_⟩
    cases s with
    | t z => exact y2
    | loc n => exact y2
    | own o'' =>
      obtain ⟨b, z1, z2, z3⟩ := y2
      have hb : b ≠ a := fun z => by rw [z, oa] at z2; cases z2
      exact ⟨b, z1, z2, z3.keep (Same.refl _) (kH b hb)⟩
    | exc c fs => trivial
theorem R.newC {K : PySem.W.Frag} {w : Wd} {st : DSt} {σ : L2.St} {H : Hp} (r : R K cl w st σ H) {c : Cell} {a : Addr} {ho : HO} (ha : H a = none)
    (hl : c.live = true) (hO : ∀ w' H2, w.as <+: w'.as → Same w.G w'.G → H2 a = some ho → CellR K cl w' H2 c a) :
    ∃ w', w'.as[st.μ.length]? = some a ∧ w'.G = w.G ∧ Le w H w' (upd H a ho) ∧ R K cl w' { st with μ := st.μ ++ [c] } σ (upd H a ho) := by
  let w' : Wd := { as := w.as ++ [a], G := w.G, ω := fun b => if b = a then some (.cell st.μ.length) else w.ω b }
  obtain ⟨ga, oa⟩ := r.free ha
  have pa : w.as <+: w'.as := List.prefix_append ..
  have kH : ∀ b u, H b = some u → upd H a ho b = some u := fun b u e => by rw [upd_ne (ne_of_none e ha)]; exact e
  have sg : Same w.G w'.G := Same.refl _
  refine ⟨w', ?_, rfl, ⟨pa, sg, fun b q1 q2 => ?_, fun b u _ q => kH b u q, fun _ _ _ => rfl⟩, ⟨⟨fun b u q => ?_, ?_, fun n c2 b q1 q2 q3 => ?_, fun b u q => ?_, fun n x b q1 q2 => ?_⟩, r.slen, fun j s q => ?_⟩⟩
  · show (w.as ++ [a])[st.μ.length]? = some a
    rw [← r.rc.len]; simp
  · show (if b = a then some (Owner.cell st.μ.length) else w.ω b) = none
    rw [if_neg (fun z => q2 (by rw [z]; exact ha))]; exact q1
  · rcases r.rc.sub b u q with h | ⟨d, z, h⟩
    · exact .inl (kH _ _ h)
    · exact .inr ⟨d, z, kH _ _ h⟩
  · show (w.as ++ [a]).length = (st.μ ++ [c]).length
    rw [List.length_append, List.length_append, r.rc.len]; rfl
  · have q1' : (st.μ ++ [c])[n]? = some c2 := q1
    have q2' : (w.as ++ [a])[n]? = some b := q2
    by_cases hn : n < st.μ.length
    · rw [List.getElem?_append_left hn] at q1'
      rw [List.getElem?_append_left (by rw [r.rc.len]; exact hn)] at q2'
      obtain ⟨x1, x2⟩ := r.rc.cell n c2 b q1' q2' q3
      have hb : b ≠ a := fun z => by rw [z, oa] at x1; cases x1
      refine ⟨?_, CellR.keep (w := w) (w' := w') pa sg (kH b) x2⟩
      show (if b = a then some (Owner.cell st.μ.length) else w.ω b) = _
      rw [if_neg hb]; exact x1
    · have hn' : n = st.μ.length := by
        have := lt_of_get q1'
        rw [List.length_append] at this
        have : n < st.μ.length + 1 := this
        omega
      subst hn'
      rw [List.getElem?_append_right (Nat.le_refl _)] at q1'
      rw [List.getElem?_append_right (by rw [r.rc.len]; exact Nat.le_refl _)] at q2'
      simp at q1'
      rw [r.rc.len] at q2'
      simp at q2'
      subst q1' q2'
      refine ⟨?_, hO w' _ pa sg upd_same⟩
      show (if a = a then some (Owner.cell st.μ.length) else w.ω a) = _
      rw [if_pos rfl]
  · have q' : (if b = a then some (Owner.cell st.μ.length) else w.ω b) = some u := q
    by_cases hb : b = a
    · rw [hb]
      exact ⟨ga, by rw [upd_same]; exact fun z => nomatch z⟩
    · rw [if_neg hb] at q'
      refine ⟨(r.rc.own b u q').1, ?_⟩
      rw [upd_ne hb]; exact (r.rc.own b u q').2
  · have q1' : (st.μ ++ [c])[n]? = some (Cell.fz x) := q1
    have q2' : (w.as ++ [a])[n]? = some b := q2
    by_cases hn : n < st.μ.length
    · rw [List.getElem?_append_left hn] at q1'
      rw [List.getElem?_append_left (by rw [r.rc.len]; exact hn)] at q2'
      exact r.rc.fz n x b q1' q2'
    · rw [List.getElem?_append_right (by omega)] at q1'
      cases e : n - st.μ.length with
      | zero => rw [e] at q1'; simp at q1'; subst q1'; cases hl
      | succ k => rw [e] at q1'; simp at q1'
  · obtain ⟨y, y1, y2⟩ := r.slot j s q
    refine ⟨y, y1, ?_⟩
    cases s with
    | t z => exact y2
    | loc n => obtain ⟨b, e1, e2⟩ := y2; exact ⟨b, pre_get pa e1, e2⟩
    | own o' =>
      obtain ⟨b, z1, z2, z3⟩ := y2
      have hb : b ≠ a := fun z => by rw [z, oa] at z2; cases z2
      refine ⟨b, z1, ?_, z3.keep sg (kH b)⟩
      show (if b = a then some (Owner.cell st.μ.length) else w.ω b) = _
      rw [if_neg hb]; exact z2
    | exc c fs => trivial
/-! ### methods of lists that change them -/
/-- a value as a cell's item -/
def asFv : Val → M Fv
  | .t x => ret (.t x)
  | .loc n => ret (.loc n)
  | .sl i => bnd (frz (.sl i)) fun x => ret (.t x)
theorem asFv_at {K : PySem.W.Frag} {w : Wd} {st st' : DSt} {σ : L2.St} {H : Hp} (r : R K cl w st σ H) {v : Val} {x : V} {o : Out Fv} (hv : VR K cl w σ v x) (h : asFv v st = some (o, st')) : ∃ f w', o = .ok f ∧ Le w H w' H ∧ R K cl w' st' σ H ∧ FvR K cl w' f x := by
  cases v with
  | t y => cases h; exact ⟨_, w, rfl, Le.refl _ _, r, hv⟩
  | loc n => cases h; exact ⟨_, w, rfl, Le.refl _ _, r, hv⟩
  | sl i =>
    unfold asFv at h
    rcases bnd_some h with ⟨c, fs, h1, rfl⟩ | ⟨t, st1, h1, h2⟩
    · obtain ⟨t, w', e, _⟩ := frz_at r hv h1
      cases e
    · obtain ⟨t', w1, e, l1, r1, q1⟩ := frz_at r hv h1
      cases e
      cases h2
      exact ⟨_, w1, rfl, l1, r1, q1⟩
/-- a list that may be changed: its items, and the store of others -/
def getL (s : DSt) : Val → Option (List Fv)
  | .loc n => match s.μ[n]? with
    | some (.lst xs) => some xs
    | _ => none
  | .sl i => match s.δ[i]? with
    | some (some (.own (.lst xs))) => some (xs.map .t)
    | _ => none
  | _ => none
def setL (s : DSt) (v : Val) (ys : List Fv) : Option DSt := match v with
  | .loc n => some { s with μ := s.μ.set n (.lst ys) }
  | .sl i => match plains ys with
    | some zs => some { s with δ := s.δ.set i (some (.own (.lst zs))) }
    | none => none
  | _ => none
theorem getL_at {K : PySem.W.Frag} {w : Wd} {st : DSt} {σ : L2.St} {H : Hp} (r : R K cl w st σ H) {v : Val} {x : V} {xs : List Fv} (hv : VR K cl w σ v x) (h : getL st v = some xs) : ∃ a vs, x = .ref a ∧ H a = some (.lst vs) ∧ Paired (FvR K cl w) xs vs ∧
    ∀ ys vs' st', setL st v ys = some st' → Paired (FvR K cl w) ys vs' → R K cl w st' σ (upd H a (.lst vs')) ∧ Le w H w (upd H a (.lst vs')) := by
  cases v with
  | t y => cases h
  | loc n =>
    obtain ⟨a, ha, rfl⟩ := hv
    unfold getL at h
    dsimp only at h
    split at h
    · rename_i ys e
      cases h
      obtain ⟨_, vs, e2, q⟩ := r.rc.cell n _ a e ha rfl
      refine ⟨a, vs, rfl, e2, q, fun ys vs' st' h1 h2 => ?_⟩
      cases h1
      exact r.updC e ha rfl rfl fun H2 e3 => ⟨vs', e3, h2⟩
    · cases h
  | sl i =>
    unfold getL at h
    dsimp only at h
    split at h
    · rename_i zs e
      cases h
      obtain ⟨y, e1, a, e2, _, vs, e3, q⟩ := r.slot i _ e
      rw [show σ[i]? = some (some x) from hv] at e1
      cases e1
      subst e2
      refine ⟨a, vs, rfl, e3, q.fv, fun ys vs' st' h1 h2 => ?_⟩
      unfold setL at h1
      dsimp only at h1
      split at h1
      · rename_i zs' e5
        cases h1
        exact r.updO e hv fun H2 e4 => ⟨vs', e4, plains_reps e5 h2⟩
      · cases h1
    · cases h
/-- o.m(e, ..) of a list: m by values -/
def DMt (cl : Cl) (X : Cx) (id : String) (g : Val → List Val → M Val) : Prop :=
  ∀ (W : WX), Cw X W → ∀ (w : Wd) (st : DSt) (σ : L2.St) (H : Hp) (Q : VK) (o : Out Val) (st' : DSt) (v : Val) (x : V) (u : Value) (vs : List Val) (xs : List V) (us : List Value) (pins : List (Addr × Obj)) (s : Shared), R X.K cl w st σ H → VR X.K cl w σ v x → Paired (VR X.K cl w σ) vs xs → g v vs st = some (o, st') →
  Post cl X W σ w H o st' (fun v w' H' => ∀ x, VR X.K cl w' σ v x → Q x H') → Inv X pins σ H s → RelV x u → Vals xs us → wpAny (model X.prog X.w) X.A (call (.builtin id) (u :: us)) (EP X pins σ Q) X.xe s
/-- the receiver's type -/
def isLst (s : DSt) (v : Val) : Bool := (seqOf s v).any fun p => !p.1
theorem isLst_at {w : Wd} {st : DSt} {σ : L2.St} {H : Hp} (r : R X.K cl w st σ H) {v : Val} {x : V} (hv : VR X.K cl w σ v x) (h : isLst st v = true) : tyV X.K "list" x H := by
  unfold isLst at h
  cases e : seqOf st v with
  | none => rw [e] at h; cases h
  | some p =>
    obtain ⟨b, ts⟩ := p
    rw [e] at h
    cases b with
    | true => cases h
    | false =>
      obtain ⟨a, vs, rfl, g, _⟩ := seq_at r e hv
      exact .inl ⟨rfl, vs, g⟩
def dMeth (fo : M Val) (fa : M (List Val)) (g : Val → List Val → M Val) : M Val := bnd fo fun v => fun s => if isLst s v then bnd fa (fun vs => g v vs) s else none
theorem de_lm {o e : Expr} {es : List Expr} {name : Str} {apos cpos : Pos} {id : String} {fo : M Val} {fa : M (List Val)} {g : Val → List Val → M Val} (slot : PySem.Slot "list" name id) (hty : typeOf (.builtin id) = pure (.type "method_descriptor")) (hm : DMt cl X id g)
    (hbase : attributeBase o name X.env (eval o X.env) = eval o X.env)
    (hfew : ((backTo cpos (starEach (e :: es) X.env)).all (fun x => !x.1) && (backToKw cpos (keywordEach [] X.env)).all (fun x => x.1.isSome)
      && decide ((e :: es).length + ([] : List Keyword).length + (if ([] : List Keyword).isEmpty then 0 else 1) < 30)) = true)
    (hline : (apos.endLine == cpos.line) = true) (hs : starEach (e :: es) X.env = (false, eval e X.env) :: starEach es X.env) (hplain : (backTo cpos (starEach es X.env)).any (·.1) = false)
    (ho : DE cl X o fo) (ha : DA cl X (e :: es) fa) : DE cl X (.Call (.Attribute o name apos) (e :: es) [] cpos) (dMeth fo fa g) := fun W cw w st σ H Q out st' r h p => by
  intro pins s I
  refine wpAny_Call_method_late hbase hfew hline rfl ?_
  rcases bnd_some h with ⟨c, fs, h1, rfl⟩ | ⟨v, st1, h1, h2⟩
  · refine thn (ho W cw w st σ H (fun _ _ => False) _ st' r h1 p pins s I) fun u s1 ⟨_, _, _, _, z⟩ => z.elim
  · refine thn (ho W cw w st σ H (fun x H1 => ∃ w1, Le w H w1 H1 ∧ R X.K cl w1 st1 σ H1 ∧ VR X.K cl w1 σ v x) _ st1 r h1 (fun w1 H1 l1 r1 x hx => ⟨w1, l1, r1, hx⟩) pins s I) fun u s1 ⟨x, H1, I1, ru, w1, l1, r1, hx⟩ => ?_
    have h2 : (if isLst st1 v then bnd fa (fun vs => g v vs) st1 else none) = some (out, st') := h2
    split at h2
    · rename_i hil
      obtain ⟨t1, t2⟩ := tyV_is I1 ru (isLst_at r1 hx hil)
      refine ⟨"list", id, PySem.F.plainAttrs_list, slot, hty, t1, t2, ?_⟩
      rcases bnd_some h2 with ⟨c, fs, h3, rfl⟩ | ⟨vs, st2, h3, h4⟩
      · have hA := ha W cw w1 st1 σ H1 (fun _ _ => False) _ st' r1 h3 (p.after l1) cpos pins s1 I1
        rw [hs] at hA ⊢
        refine Calls.callWith_builtin (by show (false || (backTo cpos (starEach es X.env)).any (·.1)) = false; rw [hplain] <;> rfl) (Calls.evalArgs_plain ?_)
        exact thn hA fun us s2 ⟨_, _, _, _, z⟩ => z.elim
      · have hA := ha W cw w1 st1 σ H1 (fun xs H2 => ∃ w2, Le w1 H1 w2 H2 ∧ R X.K cl w2 st2 σ H2 ∧ Paired (VR X.K cl w2 σ) vs xs) _ st2 r1 h3 (fun w2 H2 l2 r2 xs hxs => ⟨w2, l2, r2, hxs⟩) cpos pins s1 I1
        rw [hs] at hA ⊢
        refine Calls.callWith_builtin (by show (false || (backTo cpos (starEach es X.env)).any (·.1)) = false; rw [hplain] <;> rfl) (Calls.evalArgs_plain ?_)
        exact thn hA fun us s2 ⟨xs, H2, I2, rv, w2, l2, r2, hxs⟩ => hm W cw w2 st2 σ H2 Q out st' v x u vs xs us pins s2 r2 (hx.le l2) hxs h4 (p.after (l1.trans l2)) I2 ru rv
    · cases h2
def mAppend (v : Val) (vs : List Val) : M Val := match vs with
  | [a] => bnd (asFv a) fun f => fun s => match getL s v with
    | some xs => if xs.length < sizeLine then match setL s v (xs ++ [f]) with
        | some s' => some (.ok (.t .non), s')
        | none => none
      else none
    | none => none
  | _ => stuck
theorem dmt_append : DMt cl X "list.append" mAppend := fun W cw w st σ H Q o st' v x u vs xs us pins s r hv hvs h p I ru rv => by
  unfold mAppend at h
  split at h
  · obtain ⟨y, rfl, hy⟩ := one_of hvs
    rcases bnd_some h with ⟨c, fs, h1, rfl⟩ | ⟨f, st1, h1, h2⟩
    · obtain ⟨f, w', e, _⟩ := asFv_at r hy h1
      cases e
    · obtain ⟨f', w1, e, l1, r1, q1⟩ := asFv_at r hy h1
      cases e
      split at h2
      · rename_i ys e2
        split at h2
        · rename_i hl
          split at h2
          · rename_i s' e3
            cases h2
            obtain ⟨a, ws, rfl, g, pr, k⟩ := getL_at r1 (hv.le l1) e2
            obtain ⟨r2, l2⟩ := k _ (ws ++ [y]) _ e3 (pr.snoc q1)
            exact mt_append pins s σ H _ _ u us Q I ru rv ⟨a, ws, y, rfl, rfl, g, by rw [← pr.length]; exact hl, p w1 _ (l1.trans l2) r2 _ .non⟩
          · cases h2
        · cases h2
      · cases h2
    
  · cases h
def mPopAt (v : Val) (vs : List Val) : M Val := fun s => match vs with
  | [.t (.int i)] => match getL s v with
    | some xs => if decide (-(2 ^ 63) ≤ i) && decide (i < 2 ^ 63) then match seqIndex? i xs.length with
        | some k => match xs[k]? with
          | some f => match setL s v (xs.eraseIdx k) with
            | some s' => some (.ok f.val, s')
            | none => none
          | none => none
        | none => none
      else none
    | none => none
  | _ => none
theorem paired_erase {α β : Type} {F : α → β → Prop} : ∀ {l : List α} {m : List β} (k : Nat), Paired F l m → Paired F (l.eraseIdx k) (m.eraseIdx k)
  | _, _, _, .nil => by simp; exact .nil
  | _, _, 0, .cons h t => t
  | _, _, k + 1, .cons h t => .cons h (paired_erase k t)
theorem dmt_popAt : DMt cl X "list.pop" mPopAt := fun W cw w st σ H Q o st' v x u vs xs us pins s r hv hvs h p I ru rv => by
  unfold mPopAt at h
  split at h
  · obtain ⟨y, rfl, hy⟩ := one_of hvs
    cases hy
    split at h
    · rename_i ys e2
      split at h
      · rename_i hb
        split at h
        · rename_i k ek
          split at h
          · rename_i f ef
            split at h
            · rename_i s' e3
              cases h
              obtain ⟨a, ws, rfl, g, pr, kk⟩ := getL_at r hv e2
              obtain ⟨r2, l2⟩ := kk _ (ws.eraseIdx k) _ e3 (paired_erase k pr)
              obtain ⟨z, e4, q4⟩ := paired_at pr ef
              simp only [Bool.and_eq_true, decide_eq_true_eq] at hb
              rw [pr.length] at ek
              exact mt_popAt pins s σ H _ _ u us Q I ru rv ⟨a, ws, _, k, z, rfl, rfl, g, hb.1, hb.2, ek, e4, p w _ l2 r2 _ q4.vr⟩
            · cases h
          · cases h
        · cases h
      · cases h
    · cases h
  · cases h
/-! ### o[i] = e -/
def setIx (o i v : Val) : M Unit := bnd (asFv v) fun f => fun s => match dcK s o with
  | some kvs => match o, i with
    | .loc n, .t x => match s.μ[n]?, keyT x with
      | some (.dic false l), some k => if okKeys l && decide (l.length < sizeLine) then some (.ok (), { s with μ := s.μ.set n (.dic false (putA l k f)) }) else none
      | _, _ => none
    | .sl n, .t x => match s.δ[n]?, keyT x, f with
      | some (some (.own (.dic false l))), some k, .t z => if okKeys l && decide (l.length < sizeLine) then some (.ok (), { s with δ := s.δ.set n (some (.own (.dic false (putA l k z)))) }) else none
      | _, _, _ => none
    | _, _ => none
  | none => match i with
    | .t (.int j) => match getL s o with
      | some xs => match ixN xs.length j with
        | some k => match setL s o (xs.set k f) with
          | some s' => some (.ok (), s')
          | none => none
        | none => none
      | none => none
    | _ => none
theorem paired_set {α β : Type} {F : α → β → Prop} {a : α} {b : β} (h : F a b) : ∀ {l : List α} {m : List β} (k : Nat), Paired F l m → Paired F (l.set k a) (m.set k b)
  | _, _, _, .nil => .nil
  | _, _, 0, .cons _ t => .cons h t
  | _, _, k + 1, .cons q t => .cons q (paired_set h k t)
theorem putA_map {k : Key} {z : T} : ∀ {l : List (Key × T)}, (putA l k z).map (fun p => (p.1, Fv.t p.2)) = putA (l.map fun p => (p.1, Fv.t p.2)) k (.t z)
  | [] => rfl
  | (j, a) :: r => by
    have ih := putA_map (k := k) (z := z) (l := r)
    simp only [List.map_cons, putA]
    split
    · rfl
    · rw [List.map_cons, ih]
theorem RepD.of_pv {K : PySem.W.Frag} {w : Wd} : ∀ {l : List (Key × T)} {m : List (Key × V)}, Paired (PvR K cl w) (l.map fun p => (p.1, Fv.t p.2)) m → RepD K cl w.G l m
  | [], _, .nil => .nil
  | (k, t) :: r, _, .cons (b := q) h t' => by
    obtain ⟨j, v⟩ := q
    cases (show k = j from h.1)
    exact .cons h.2 (RepD.of_pv t')
theorem ds_setix {o i e : Expr} {pos pos' : Pos} {fo fi fe : M Val} {k : Nat} (hr : Room k X.A) (hs : swapsWith e (some (.Subscript o i pos')) pos.line X.env = pure false) (hso : swapsWithSole [.Subscript o i pos'] e pos.line X.env = pure false) (hw : swappedStores [.Subscript o i pos'] e X.env = pure none)
    (h1 : (assignEach [.Subscript o i pos'] X.env).map (·.2) = [assign (.Subscript o i pos') X.env])
    (hsub : ∀ v, assign (.Subscript o i pos') X.env v = (do
      let ov ← holding [v] (eval o X.env)
      let iv ← holding [v, ov] (eval i X.env)
      standAt pos'
      holding [v, ov, iv] (setItem ov iv v)
      release [v, ov, iv] []))
    (ho : DE cl X o fo) (hi : DE cl X i fi) (he : DE cl X e fe) : DS cl X (.Assign [.Subscript o i pos'] e pos) (bnd fe fun v => bnd fo fun a => bnd fi fun j => bnd (setIx a j v) fun _ => ret .nx) := fun W cw w st σ H D out st' r h p => by
  rcases bnd_some h with ⟨c, fs, g1, rfl⟩ | ⟨v, st1, g1, g2⟩
  · exact PS.ws (ps_dput (hu_of hr) peW peW peW hs) (he W cw w st σ H _ _ st' r g1 p.toPost)
  · rcases bnd_some g2 with ⟨c, fs, g3, rfl⟩ | ⟨a, st2, g3, g4⟩
    · exact PS.ws (ps_dput (hu_of hr) peW peW peW hs) (he W cw w st σ H _ _ st1 r g1 fun w1 H1 l1 r1 y hy => ho W cw w1 st1 σ H1 _ _ st' r1 g3 (p.after l1).toPost)
    · rcases bnd_some g4 with ⟨c, fs, g5, rfl⟩ | ⟨j, st3, g5, g6⟩
      · exact PS.ws (ps_dput (hu_of hr) peW peW peW hs) (he W cw w st σ H _ _ st1 r g1 fun w1 H1 l1 r1 y hy => ho W cw w1 st1 σ H1 _ _ st2 r1 g3 fun w2 H2 l2 r2 x hx => hi W cw w2 st2 σ H2 _ _ st' r2 g5 ((p.after l1).after l2).toPost)
      · rcases bnd_some g6 with ⟨c, fs, g7, rfl⟩ | ⟨_, st4, g7, g8⟩
        · exfalso
          unfold setIx at g7
          rcases bnd_some g7 with ⟨c, fs, g9, e9⟩ | ⟨f, st5, g9, g10⟩
          · cases v with
            | t x => cases g9
            | loc n => cases g9
            | sl n =>
              unfold asFv at g9
              rcases bnd_some g9 with ⟨c, fs, g11, _⟩ | ⟨f, st5, g11, g12⟩
              · exact frz_quiet _ _ _ _ _ g11
              · cases g12
          · repeat (first | (split at g10) | cases g10)
        · cases g8
          unfold setIx at g7
          rcases bnd_some g7 with ⟨c, fs, g9, z⟩ | ⟨f, st5, g9, g10⟩
          · cases z
          · split at g10
            · rename_i kvs ek
              refine PS.ws (ps_dput (hu_of hr) peW peW peW hs) (he W cw w st σ H _ _ st1 r g1 fun w1 H1 l1 r1 y hy => ho W cw w1 st1 σ H1 _ _ st2 r1 g3 fun w2 H2 l2 r2 x hx => hi W cw w2 st2 σ H2 _ _ st3 r2 g5 fun w3 H3 l3 r3 z hz => ?_)
              obtain ⟨f', w4, e4, l4, r4, q4⟩ := asFv_at r3 ((hy.le l2).le l3) g9
              cases e4
              have hx4 := (hx.le l3).le l4
              have hz4 := hz.le l4
              have l14 := l1.trans (l2.trans (l3.trans l4))
              split at g10
              · rename_i n t
                split at g10
                · rename_i l kk e5 e6
                  split at g10
                  · rename_i hok
                    cases g10
                    simp only [Bool.and_eq_true, decide_eq_true_eq, okKeys] at hok
                    obtain ⟨b, hb, rfl⟩ := hx4
                    obtain ⟨_, m, e7, pr⟩ := r4.rc.cell n _ b e5 hb rfl
                    have hk := keyT_at e6 hz4
                    subst hk
                    have nd : (m.map (·.1)).Nodup := by rw [← keys_pair pr]; exact hok.1
                    obtain ⟨r5, l5⟩ := r4.updC (c' := .dic false (putA l kk f)) (ho := .dK (putA m kk y)) e5 hb rfl rfl fun H5 e8 => ⟨_, e8, put_pair q4 pr⟩
                    refine ⟨b, _, rfl, DPut.k e7 (by rw [← pr.length]; exact hok.2), ?_⟩
                    rw [putK_put nd]
                    exact p w4 σ _ (l14.trans l5) r5
                  · cases g10
                · cases g10
              · rename_i n t
                split at g10
                · rename_i l kk z' e5 e6
                  split at g10
                  · rename_i hok
                    cases g10
                    simp only [Bool.and_eq_true, decide_eq_true_eq, okKeys] at hok
                    obtain ⟨xx, e7, b, e8, _, m, e9, q⟩ := r4.slot n _ e5
                    rw [show σ[n]? = some (some x) from hx4] at e7
                    cases e7
                    subst e8
                    have hk := keyT_at e6 hz4
                    subst hk
                    have pr := q.pv (w := w4)
                    have nd : (m.map (·.1)).Nodup := by rw [← keys_pair pr, List.map_map]; exact hok.1
                    have pr2 : RepD X.K cl w4.G (putA l kk z') (putA m kk y) := RepD.of_pv (w := w4) (by rw [putA_map]; exact put_pair (f := .t z') q4 pr)
                    obtain ⟨r5, l5⟩ := r4.updO (o' := .dic false (putA l kk z')) (ho := .dK (putA m kk y)) e5 hx4 fun H5 e10 => ⟨_, e10, pr2⟩
                    refine ⟨b, _, rfl, DPut.k e9 (by have := pr.length; rw [List.length_map] at this; rw [← this]; exact hok.2), ?_⟩
                    rw [putK_put nd]
                    exact p w4 σ _ (l14.trans l5) r5
                  · cases g10
                · cases g10
              · cases g10
            · split at g10
              · rename_i jj
                split at g10
                · rename_i xs e5
                  split at g10
                  · rename_i kk e6
                    split at g10
                    · rename_i s' e7
                      cases g10
                      refine PS.ws (ps_asg peW (pg_sub peW peW set_list hsub) hso hw h1) (he W cw w st σ H _ _ st1 r g1 fun w1 H1 l1 r1 y hy => ho W cw w1 st1 σ H1 _ _ st2 r1 g3 fun w2 H2 l2 r2 x hx => hi W cw w2 st2 σ H2 _ _ st3 r2 g5 fun w3 H3 l3 r3 z hz => ?_)
                      obtain ⟨f', w4, e4, l4, r4, q4⟩ := asFv_at r3 ((hy.le l2).le l3) g9
                      cases e4
                      have hx4 := (hx.le l3).le l4
                      cases hz
                      obtain ⟨b, ws, rfl, g, pr, kkk⟩ := getL_at r4 hx4 e5
                      obtain ⟨r5, l5⟩ := kkk _ (ws.set kk y) _ e7 (paired_set q4 kk pr)
                      exact ⟨b, ws, jj, kk, rfl, rfl, g, by rw [← pr.length]; exact e6, p w4 σ _ (l1.trans (l2.trans (l3.trans (l4.trans l5)))) r5⟩
                    · cases g10
                  · cases g10
                · cases g10
              · cases g10
end
end Lf
namespace Lf
open PySem PySem.Spec L2
section
variable {cl : Cl} {X : Cx}
/-! ### attributes -/
theorem lookup_pair {K : PySem.W.Frag} {w : Wd} {f : Str} : ∀ {l : List (Str × Fv)} {m : List (Str × V)} {g : Fv}, Paired (PvR K cl w) l m → look l f = some g → ∃ v, m.lookup f = some v ∧ FvR K cl w g v
  | _, _, _, .nil, h => by cases h
  | _, _, g, .cons (a := p) (b := q) e t, h => by
    obtain ⟨e1, e2⟩ := e
    obtain ⟨j, x⟩ := p
    obtain ⟨j', v⟩ := q
    cases (show j = j' from e1)
    unfold look at h
    by_cases ej : j = f
    · subst ej
      rw [if_pos rfl] at h
      cases h
      exact ⟨v, by simp [List.lookup], e2⟩
    · rw [if_neg ej] at h
      obtain ⟨v', h1, h2⟩ := lookup_pair t h
      refine ⟨v', ?_, h2⟩
      have : (f == j) = false := by simpa using fun z : f = j => ej z.symm
      simp only [List.lookup, this]
      exact h1
theorem lookup_none {K : PySem.W.Frag} {w : Wd} {f : Str} : ∀ {l : List (Str × Fv)} {m : List (Str × V)}, Paired (PvR K cl w) l m → look l f = none → m.lookup f = none
  | _, _, .nil, h => rfl
  | _, _, .cons (a := p) (b := q) e t, h => by
    obtain ⟨e1, e2⟩ := e
    obtain ⟨j, x⟩ := p
    obtain ⟨j', v⟩ := q
    cases (show j = j' from e1)
    unfold look at h
    by_cases ej : j = f
    · rw [if_pos ej] at h; cases h
    · rw [if_neg ej] at h
      have : (f == j) = false := by simpa using fun z : f = j => ej z.symm
      simp only [List.lookup, this]
      exact lookup_none t h
theorem putF_put (f : Str) (v : V) : ∀ m : List (Str × V), putF f v m = putA m f v
  | [] => rfl
  | (g, x) :: r => by unfold putF putA; rw [putF_put f v r]
theorem RepF.pv {K : PySem.W.Frag} {w : Wd} : ∀ {l : List (Str × T)} {m : List (Str × V)}, RepF K cl w.G l m → Paired (PvR K cl w) (l.map fun p => (p.1, Fv.t p.2)) m
  | _, _, .nil => .nil
  | _, _, .cons h r => .cons ⟨rfl, h⟩ r.pv
/-- an instance: its class, its attributes -/
def insOf (s : DSt) : Val → Option (Str × List (Str × Fv))
  | .t (.obj c fs) => some (c, fs.map fun p => (p.1, Fv.t p.2))
  | .loc n => match s.μ[n]? with
    | some (.ins c fs) => some (c, fs)
    | _ => none
  | _ => none
theorem ins_at {w : Wd} {st : DSt} {σ : L2.St} {H : Hp} {K : PySem.W.Frag} (r : R K cl w st σ H) {v : Val} {x : V} {c : Str} {l : List (Str × Fv)} (h : insOf st v = some (c, l)) (hv : VR K cl w σ v x) : ∃ a C dx m, x = .ref a ∧ cl c = some C ∧ H a = some (.ins C dx m) ∧ Paired (PvR K cl w) l m := by
  cases v with
  | t y => cases y with
    | obj c fs =>
      cases h
      cases hv with
      | obj e1 e2 q => exact ⟨_, _, _, _, rfl, e1, r.rc.ins e2, q.pv⟩
    | _ => cases h
  | loc n =>
    obtain ⟨a, ha, rfl⟩ := hv
    unfold insOf at h
    dsimp only at h
    split at h
    · rename_i c' fs e
      cases h
      obtain ⟨_, C, dx, m, e1, e2, q⟩ := r.rc.cell n _ a e ha rfl
      exact ⟨a, C, dx, m, rfl, e1, e2, q⟩
    · cases h
  | sl i => cases h
def dAttr (cs : List Str) (f : Str) (v : Val) : M Val := fun s => match insOf s v with
  | some (c, l) => if cs.contains c then match look l f with
      | some g => some (.ok g.val, s)
      | none => none
    else none
  | none => none
/-- the classes that have an attribute -/
def HasA (cl : Cl) (K : PySem.W.Frag) (cs : List Str) (f : Str) : Prop := ∀ c ∈ cs, ∀ C, cl c = some C → Cls K C ∧ NoAttr K C f
theorem de_attr {e : Expr} {f : Str} {pos : Pos} {cs : List Str} {fe : M Val} (hc : HasA cl X.K cs f) (hb : attributeBase e f X.env (eval e X.env) = eval e X.env) (he : DE cl X e fe) : DE cl X (.Attribute e f pos) (bnd fe (dAttr cs f)) := fun W cw w st σ H Q o st' r h p => by
  refine PE.we (pe_fld peW hb) ?_
  unfold tFld
  rcases bnd_some h with ⟨c, fs, h1, rfl⟩ | ⟨v, st1, h1, h2⟩
  · exact he W cw w st σ H _ _ st' r h1 p
  · unfold dAttr at h2
    split at h2
    · rename_i c l e1
      split at h2
      · rename_i hcs
        split at h2
        · rename_i g e2
          cases h2
          refine he W cw w st σ H _ _ _ r h1 fun w1 H1 l1 r1 x hx => ?_
          obtain ⟨a, C, dx, m, rfl, e3, e4, pr⟩ := ins_at r1 e1 hx
          obtain ⟨y, e5, q5⟩ := lookup_pair pr e2
          obtain ⟨k1, k2⟩ := hc c (List.contains_iff_mem.mp hcs) C e3
          exact ⟨a, C, dx, m, y, rfl, e4, k1, k2, e5, p w1 H1 l1 r1 y q5.vr⟩
        · cases h2
      · cases h2
    · cases h2
/-- o.f = v, o a cell -/
def setF (cs : List Str) (f : Str) (o : Val) (g : Fv) : M Unit := fun s => match o with
  | .loc n => match s.μ[n]? with
    | some (.ins c fs) => if cs.contains c && decide (fs.length < 1000) then some (.ok (), { s with μ := s.μ.set n (.ins c (putA fs f g)) }) else none
    | _ => none
  | _ => none
theorem setF_at {w : Wd} {st st' : DSt} {σ : L2.St} {H : Hp} (r : R X.K cl w st σ H) {cs : List Str} {f : Str} (hc : HasA cl X.K cs f) {o : Val} {g : Fv} {x y : V} {out : Out Unit} (ho : VR X.K cl w σ o x) (hg : FvR X.K cl w g y) (h : setF cs f o g st = some (out, st')) :
    out = .ok () ∧ ∃ a C dx m, x = .ref a ∧ H a = some (.ins C dx m) ∧ Cls X.K C ∧ NoAttr X.K C f ∧ m.length < 1000 ∧ Le w H w (upd H a (.ins C dx (putF f y m))) ∧ R X.K cl w st' σ (upd H a (.ins C dx (putF f y m))) := by
  unfold setF at h
  split at h
  · rename_i n
    split at h
    · rename_i c fs e
      split at h
      · rename_i hb
        cases h
        simp only [Bool.and_eq_true, decide_eq_true_eq] at hb
        obtain ⟨a, ha, rfl⟩ := ho
        obtain ⟨_, C, dx, m, e1, e2, pr⟩ := r.rc.cell n _ a e ha rfl
        obtain ⟨k1, k2⟩ := hc c (List.contains_iff_mem.mp hb.1) C e1
        obtain ⟨r2, l2⟩ := r.updC (c' := .ins c (putA fs f g)) (ho := .ins C dx (putF f y m)) e ha rfl rfl fun H2 e3 => ⟨C, dx, _, e1, e3, by rw [putF_put]; exact put_pair hg pr⟩
        exact ⟨rfl, a, C, dx, m, rfl, e2, k1, k2, by rw [← pr.length]; exact hb.2, l2, r2⟩
      · cases h
    · cases h
  · cases h
theorem ds_fld {o e : Expr} {f : Str} {pos pos' : Pos} {cs : List Str} {fo fe : M Val} (hc : HasA cl X.K cs f) (hs : swapsWith e (some (.Attribute o f pos')) pos.line X.env = pure false) (ho : DE cl X o fo) (he : DE cl X e fe) :
    DS cl X (.Assign [.Attribute o f pos'] e pos) (bnd fe fun v => bnd fo fun a => bnd (asFv v) fun g => bnd (setF cs f a g) fun _ => ret .nx) := fun W cw w st σ H D out st' r h p => by
  refine PS.ws (ps_fld peW peW hs) ?_
  unfold sFld
  rcases bnd_some h with ⟨c, fs, g1, rfl⟩ | ⟨v, st1, g1, g2⟩
  · exact he W cw w st σ H _ _ st' r g1 p.toPost
  · refine he W cw w st σ H _ _ st1 r g1 fun w1 H1 l1 r1 y hy => ?_
    rcases bnd_some g2 with ⟨c, fs, g3, rfl⟩ | ⟨a, st2, g3, g4⟩
    · exact ho W cw w1 st1 σ H1 _ _ st' r1 g3 (p.after l1).toPost
    · refine ho W cw w1 st1 σ H1 _ _ st2 r1 g3 fun w2 H2 l2 r2 x hx => ?_
      rcases bnd_some g4 with ⟨c, fs, g5, rfl⟩ | ⟨g, st3, g5, g6⟩
      · obtain ⟨f', w', e', _⟩ := asFv_at r2 (hy.le l2) g5
        cases e'
      · obtain ⟨f', w3, e', l3, r3, q3⟩ := asFv_at r2 (hy.le l2) g5
        cases e'
        rcases bnd_some g6 with ⟨c, fs, g7, rfl⟩ | ⟨_, st4, g7, g8⟩
        · obtain ⟨z, _⟩ := setF_at r3 hc (hx.le l3) q3 g7
          cases z
        · obtain ⟨_, b, C, dx, m, rfl, e1, k1, k2, k3, l4, r4⟩ := setF_at r3 hc (hx.le l3) q3 g7
          cases g8
          exact ⟨b, C, dx, m, rfl, e1, k1, k2, k3, p w3 σ _ (l1.trans (l2.trans (l3.trans l4))) r4⟩
/-- a new object as a cell -/
def Own.cell : Own → Cell
  | .lst xs => .lst (xs.map .t)
  | .dic l kvs => .dic l (kvs.map fun p => (p.1, Fv.t p.2))
  | .dit l kvs => .dit l (kvs.map fun p => (p.1, Fv.t p.2))
theorem own_cell {K : PySem.W.Frag} {w w' : Wd} {H : Hp} {o : Own} {a : Addr} (h : OwnR K cl w.G H o a) (pg : Same w.G w'.G) : CellR K cl w' H o.cell a := by
  cases o with
  | lst xs => obtain ⟨vs, e, q⟩ := h; exact ⟨vs, e, (q.mono pg).fv⟩
  | dic l kvs => cases l with
    | false => obtain ⟨vs, e, q⟩ := h; exact ⟨vs, e, (q.mono pg).pv⟩
    | true => obtain ⟨ob, vs, e, q⟩ := h; exact ⟨ob, vs, e, (q.mono pg).pv⟩
  | dit l kvs => cases l with
    | false => obtain ⟨vs, e, q⟩ := h; exact ⟨vs, e, (q.mono pg).pv⟩
    | true => obtain ⟨ob, vs, e, q⟩ := h; exact ⟨ob, vs, e, (q.mono pg).pv⟩
def newCell (o : Own) : M Nat := fun s => some (.ok s.μ.length, { s with μ := s.μ ++ [o.cell] })
theorem newCell_at {K : PySem.W.Frag} {w : Wd} {st : DSt} {σ : L2.St} {H : Hp} (r : R K cl w st σ H) {o : Own} {a : Addr} {ho : HO} (ha : H a = none) (hO : ∀ H2, H2 a = some ho → OwnR K cl w.G H2 o a) :
    ∃ w', w'.as[st.μ.length]? = some a ∧ Le w H w' (upd H a ho) ∧ R K cl w' { st with μ := st.μ ++ [o.cell] } σ (upd H a ho) := by
  obtain ⟨w', e1, _, l, r'⟩ := r.newC (c := o.cell) ha (by cases o <;> rfl) fun w' H2 _ pg e => own_cell (hO H2 e) pg
  exact ⟨w', e1, l, r'⟩
theorem ds_fldC {o e : Expr} {f : Str} {pos pos' : Pos} {cs : List Str} {fo : M Val} {fe : M Own} (hc : HasA cl X.K cs f) (hs : swapsWith e (some (.Attribute o f pos')) pos.line X.env = pure false) (ho : DE cl X o fo) (he : DF cl X e fe) :
    DS cl X (.Assign [.Attribute o f pos'] e pos) (bnd fe fun v => bnd (newCell v) fun n => bnd fo fun a => bnd (setF cs f a (.loc n)) fun _ => ret .nx) := fun W cw w st σ H D out st' r h p => by
  refine PS.ws (ps_fld peW peW hs) ?_
  unfold sFld
  rcases bnd_some h with ⟨c, fs, g1, rfl⟩ | ⟨v, st1, g1, g2⟩
  · exact he W cw w st σ H _ _ st' r g1 p.toPost
  · refine he W cw w st σ H _ _ st1 r g1 fun w1 H1 l1 r1 b hb ha hO => ?_
    obtain ⟨w2, e2, l2, r2⟩ := newCell_at r1 ha hO
    rcases bnd_some g2 with ⟨c, fs, g3, z⟩ | ⟨n, st2, g3, g4⟩
    · cases g3
    · cases g3
      rcases bnd_some g4 with ⟨c, fs, g5, rfl⟩ | ⟨a, st3, g5, g6⟩
      · exact ho W cw w2 _ σ _ _ _ st' r2 g5 (p.after (l1.trans l2)).toPost
      · refine ho W cw w2 _ σ _ _ _ st3 r2 g5 fun w3 H3 l3 r3 x hx => ?_
        rcases bnd_some g6 with ⟨c, fs, g7, rfl⟩ | ⟨_, st4, g7, g8⟩
        · obtain ⟨z, _⟩ := setF_at r3 hc hx (g := .loc st1.μ.length) ⟨b, pre_get l3.as e2, rfl⟩ g7
          cases z
        · obtain ⟨_, b', C, dx, m, rfl, e1, k1, k2, k3, l4, r4⟩ := setF_at r3 hc hx (g := .loc st1.μ.length) (y := .ref b) ⟨b, pre_get l3.as e2, rfl⟩ g7
          cases g8
          exact ⟨b', C, dx, m, rfl, e1, k1, k2, k3, p w3 σ _ (l1.trans (l2.trans (l3.trans l4))) r4⟩
/-- x = e, a new object into a cell -/
theorem ds_cell {i : Nat} {x : Str} {e : Expr} {pos pos' : Pos} {f : M Own} (hN : X.N.Nodup) (hi : X.N[i]? = some x) (hx : Loc X.env.scope x) (hs : swapsWith e (some (.Name x pos')) pos.line X.env = pure false) (hf : X.fn x = true ∨ X.env.scope.names.lookup x = some .local) (he : DF cl X e f) :
    DS cl X (.Assign [.Name x pos'] e pos) (bnd f fun v => bnd (newCell v) fun n => bnd (put i (.loc n)) fun _ => ret .nx) := fun W cw w st σ H D o st' r h p => by
  intro pins s I
  refine (L2.ps_set (X := X) (pos := pos) (pos' := pos') hN hi hx peW hs hf).run pins s σ H D I ?_
  unfold tAsg gName
  rcases bnd_some h with ⟨c, fs, h1, rfl⟩ | ⟨v, st1, h1, h2⟩
  · exact he W cw w st σ H _ _ st' r h1 p.toPost
  · refine he W cw w st σ H _ _ _ r h1 fun w1 H1 l1 r1 a ho ha hO => ?_
    have hl : i < σ.length := by rw [I.len]; exact lt_of_get hi
    cases h2
    obtain ⟨w2, e2, l2, r2⟩ := newCell_at r1 ha hO
    exact p w2 _ _ (l1.trans l2) (r2.setP hl (s := .loc st1.μ.length) ⟨a, e2, rfl⟩)
/-! ### {} -/
theorem df_dict {pos : Pos} : DF cl X (.Dict [] [] pos) (ret (.dic false [])) := fun W cw w st σ H Q o st' r h p => by
  cases h
  refine PE.we pe_dnewK ?_
  exact fun a ha => p w H (Le.refl _ _) r a (.dK []) ha fun H2 e => ⟨[], e, .nil⟩
theorem df_dictT {pos : Pos} : DF cl X (.Dict [] [] pos) (ret (.dit false [])) := fun W cw w st σ H Q o st' r h p => by
  cases h
  refine PE.we pe_dnewT ?_
  exact fun a ha => p w H (Le.refl _ _) r a (.dT []) ha fun H2 e => ⟨[], e, .nil⟩
/-! ### defs -/
inductive Ret where
  | val (v : Fv) | own (o : Own)
abbrev DFun := List Fv → List Cell → Option (Out Ret × List Cell)
/-- only cells are owned -/
def Wd.bare (w : Wd) : Prop := ∀ a i, w.ω a ≠ some (.slot i)
def CPost (cl : Cl) (K : PySem.W.Frag) (w : Wd) (H : Hp) (Q : VK) (E : XK) (o : Out Ret) (μ' : List Cell) : Prop := match o with
  | .ok (.val v) => ∀ w' H' x, Le w H w' H' → w'.bare → Rc K cl w' μ' H' → FvR K cl w' v x → Q x H'
  | .ok (.own v) => ∀ w' H', Le w H w' H' → w'.bare → Rc K cl w' μ' H' → ∀ (p : Addr) (ho : HO), H' p = none → (∀ H2, H2 p = some ho → OwnR K cl w'.G H2 v p) → Q (.ref p) (upd H' p ho)
  | .exc c fs => ∀ w' H' cv d, Le w H w' H' → w'.bare → Rc K cl w' μ' H' → ExR K cl w' H' c fs cv d → E cv d H'
/-- a def's promise, by a plain function -/
def spD (cl : Cl) (K : PySem.W.Frag) (n : Nat) (F : DFun) : Sp := fun vs H Q E => ∃ (w : Wd) (μ : List Cell) (args : List Fv) (o : Out Ret) (μ' : List Cell), args.length = n ∧ w.bare ∧ Rc K cl w μ H ∧ Paired (FvR K cl w) args vs ∧ F args μ = some (o, μ') ∧ CPost cl K w H Q E o μ'
def Fv.slot : Fv → Slot
  | .t x => .t x
  | .loc n => .loc n
def startD (n : Nat) (args : List Fv) : List (Option Slot) := args.map (fun f => some f.slot) ++ List.replicate (n - args.length) none
def Cell.sm : Cell → Cell → Bool
  | .lst a, .lst b => Fv.sms a b
  | .dic l a, .dic m b => l == m && decide (a.map (·.1) = b.map (·.1)) && Fv.sms (a.map (·.2)) (b.map (·.2))
  | .dit l a, .dit m b => l == m && decide (a.map (·.1) = b.map (·.1)) && Fv.sms (a.map (·.2)) (b.map (·.2))
  | .ins c a, .ins d b => c == d && decide (a.map (·.1) = b.map (·.1)) && Fv.sms (a.map (·.2)) (b.map (·.2))
  | .dnn a, .dnn b => decide (a = b)
  | .fz a, .fz b => T.sm a b
  | .dead, .dead => true
  | _, _ => false
def Cell.sms : List Cell → List Cell → Bool
  | [], [] => true
  | a :: r, b :: q => Cell.sm a b && Cell.sms r q
  | _, _ => false
theorem pairs_eq {κ α : Type} : ∀ {a b : List (κ × α)}, a.map (·.1) = b.map (·.1) → a.map (·.2) = b.map (·.2) → a = b
  | [], [], _, _ => rfl
  | (k, x) :: r, (j, y) :: q, h1, h2 => by
    simp only [List.map_cons, List.cons.injEq] at h1 h2
    rw [h1.1, h2.1, pairs_eq h1.2 h2.2]
  | [], _ :: _, h, _ => by cases h
  | _ :: _, [], h, _ => by cases h
theorem Cell.sm_eq {a b : Cell} (h : Cell.sm a b = true) : a = b := by
  cases a <;> cases b <;> simp only [Cell.sm, Bool.and_eq_true, beq_iff_eq, decide_eq_true_eq] at h <;> first | (cases h; done) | rfl | (rw [h]; done) | (rw [Fv.sms_eq h]) | (rw [T.sm_eq h]) | (rw [h.1.1, pairs_eq h.1.2 (Fv.sms_eq h.2)])
theorem Cell.sms_eq : ∀ {a b : List Cell}, Cell.sms a b = true → a = b
  | [], [], _ => rfl
  | a :: r, b :: q, h => by simp only [Cell.sms, Bool.and_eq_true] at h; rw [Cell.sm_eq h.1, Cell.sms_eq h.2]
  | [], _ :: _, h => by cases h
  | _ :: _, [], h => by cases h
theorem Cell.sm_refl (a : Cell) : Cell.sm a a = true := by
  cases a <;> simp [Cell.sm, Fv.sms_refl, T.sm_refl]
theorem Cell.sms_refl : ∀ a : List Cell, Cell.sms a a = true
  | [] => rfl
  | a :: r => by simp only [Cell.sms, Cell.sm_refl, Cell.sms_refl r, Bool.and_self]
/-- the store behind a def: its own cells go -/
def trunc0 (μ μ' : List Cell) : Option (List Cell) := if μ'.length = μ.length then some μ' else if Cell.sms (μ'.take μ.length) μ then some μ else none
def trunc (μ μ' : List Cell) : Option (List Cell) := some ((trunc0 μ μ').getD μ')
def runD (n : Nat) (body : M Fl) : DFun := fun args μ => match body ⟨startD n args, μ⟩ with
  | some (.ok .nx, s) => (trunc μ s.μ).map fun m => (.ok (.val (.t .non)), m)
  | some (.ok (.rt (.t x)), s) => (trunc μ s.μ).map fun m => (.ok (.val (.t x)), m)
  | some (.ok (.rt (.loc k)), s) => if s.μ.length = μ.length then some (.ok (.val (.loc k)), s.μ) else none
  | some (.ok (.rf o), s) => (trunc μ s.μ).map fun m => (.ok (.own o), m)
  | some (.exc c fs, s) => (trunc μ s.μ).map fun m => (.exc c fs, m)
  | _ => none
end
end Lf
namespace Lf
open PySem PySem.Spec L2
section
variable {cl : Cl} {X : Cx}
/-! ### the store behind a def -/
/-- the owners that are cells below n -/
def Wd.cut (w : Wd) (n : Nat) : Wd := { as := w.as.take n, G := w.G, ω := fun a => match w.ω a with | some (.cell m) => if m < n then some (.cell m) else none | _ => none }
theorem cut_bare {w : Wd} {n : Nat} : (w.cut n).bare := fun a i h => by
  have h : (match w.ω a with | some (.cell m) => if m < n then some (Owner.cell m) else none | _ => none) = some (.slot i) := h
  split at h
  · split at h <;> cases h
  · cases h
theorem cut_own {w : Wd} {n : Nat} {a : Addr} {m : Nat} (h : w.ω a = some (.cell m)) (hm : m < n) : (w.cut n).ω a = some (.cell m) := by
  show (match w.ω a with | some (.cell m) => if m < n then some (Owner.cell m) else none | _ => none) = _
  rw [h]; exact if_pos hm
theorem cut_some {w : Wd} {n : Nat} {a : Addr} {o : Owner} (h : (w.cut n).ω a = some o) : w.ω a = some o := by
  have h' : (match w.ω a with | some (.cell m) => if m < n then some (Owner.cell m) else none | _ => none) = some o := h
  split at h'
  · rename_i m e
    split at h'
    · cases h'; exact e
    · cases h'
  · cases h'
theorem cut_none {w : Wd} {n : Nat} {a : Addr} (h : w.ω a = none) : (w.cut n).ω a = none := by
  show (match w.ω a with | some (.cell m) => if m < n then some (Owner.cell m) else none | _ => none) = none
  rw [h]
theorem paired_cut {α : Type} {K : PySem.W.Frag} {w w1 : Wd} {n : Nat} (hn : w.as.length = n) (get : α → Fv) : ∀ {xs : List α} {vs0 vs1 : List V}, Paired (fun p v => FvR K cl w (get p) v) xs vs0 → Paired (fun p v => FvR K cl w1 (get p) v) xs vs1 → Paired (fun p v => FvR K cl (w1.cut n) (get p) v) xs vs1
  | _, _, _, .nil, .nil => .nil
  | _, _, _, .cons (a := f) h0 t0, .cons h1 t1 => by
    refine .cons ?_ (paired_cut hn get t0 t1)
    cases e : get f with
    | t x => rw [e] at h1; exact h1
    | loc m =>
      rw [e] at h0 h1
      obtain ⟨a0, e0, _⟩ := h0
      obtain ⟨a1, e1, e2⟩ := h1
      refine ⟨a1, ?_, e2⟩
      show (w1.as.take n)[m]? = some a1
      rw [List.getElem?_take_of_lt (by rw [← hn]; exact lt_of_get e0)]
      exact e1
theorem pv_split {κ : Type} {K : PySem.W.Frag} {w : Wd} : ∀ {l : List (κ × Fv)} {m : List (κ × V)}, Paired (PvR K cl w) l m → l.map (·.1) = m.map (·.1) ∧ Paired (fun (p : κ × Fv) v => FvR K cl w p.2 v) l (m.map (·.2))
  | _, _, .nil => ⟨rfl, .nil⟩
  | _, _, .cons h t => by
    obtain ⟨a, b⟩ := pv_split t
    exact ⟨by rw [List.map_cons, List.map_cons, a, h.1], .cons h.2 b⟩
theorem pv_join {κ : Type} {K : PySem.W.Frag} {w : Wd} : ∀ {l : List (κ × Fv)} {m : List (κ × V)}, l.map (·.1) = m.map (·.1) → Paired (fun (p : κ × Fv) v => FvR K cl w p.2 v) l (m.map (·.2)) → Paired (PvR K cl w) l m
  | [], [], _, _ => .nil
  | (k, f) :: r, (j, v) :: q, h, .cons a b => by
    simp only [List.map_cons, List.cons.injEq] at h
    exact .cons ⟨h.1, a⟩ (pv_join h.2 b)
  | [], _ :: _, h, _ => by cases h
  | _ :: _, [], h, _ => by cases h
theorem cell_cut {K : PySem.W.Frag} {w w1 : Wd} {H H1 : Hp} {n : Nat} (hn : w.as.length = n) {c : Cell} {a a1 : Addr} (h0 : CellR K cl w H c a) (h1 : CellR K cl w1 H1 c a1) : CellR K cl (w1.cut n) H1 c a1 := by
  have pv : ∀ {κ : Type} {l : List (κ × Fv)} {m0 m1 : List (κ × V)}, Paired (PvR K cl w) l m0 → Paired (PvR K cl w1) l m1 → Paired (PvR K cl (w1.cut n)) l m1 := fun {κ l m0 m1} q0 q1 => by
    obtain ⟨a0, b0⟩ := pv_split q0
    obtain ⟨a1, b1⟩ := pv_split q1
    exact pv_join a1 (paired_cut hn (fun (p : κ × Fv) => p.2) b0 b1)
  cases c with
  | lst xs => obtain ⟨v0, _, q0⟩ := h0; obtain ⟨v1, e1, q1⟩ := h1; exact ⟨v1, e1, paired_cut hn id q0 q1⟩
  | dic l kvs => cases l with
    | false => obtain ⟨v0, _, q0⟩ := h0; obtain ⟨v1, e1, q1⟩ := h1; exact ⟨v1, e1, pv q0 q1⟩
    | true => obtain ⟨_, v0, _, q0⟩ := h0; obtain ⟨o, v1, e1, q1⟩ := h1; exact ⟨o, v1, e1, pv q0 q1⟩
  | dit l kvs => cases l with
    | false => obtain ⟨v0, _, q0⟩ := h0; obtain ⟨v1, e1, q1⟩ := h1; exact ⟨v1, e1, pv q0 q1⟩
    | true => obtain ⟨_, v0, _, q0⟩ := h0; obtain ⟨o, v1, e1, q1⟩ := h1; exact ⟨o, v1, e1, pv q0 q1⟩
  | dnn kvs => exact h1
  | ins c fs => obtain ⟨_, _, v0, _, _, q0⟩ := h0; obtain ⟨C, dx, v1, e0, e1, q1⟩ := h1; exact ⟨C, dx, v1, e0, e1, pv q0 q1⟩
  | fz x => trivial
  | dead => trivial
theorem le_cut {w w1 : Wd} {H H1 : Hp} {n : Nat} (hn : w.as.length = n) (l : Le w H w1 H1) : Le w H (w1.cut n) H1 := by
  refine ⟨?_, l.g, fun a h1 h2 => cut_none (l.own a h1 h2), l.kp, l.gk⟩
  show w.as <+: w1.as.take n
  obtain ⟨m, e⟩ := l.as
  rw [← e, ← hn, List.take_left]
  exact List.prefix_refl _
/-- behind a def: the world of the caller's cells -/
theorem rc_cut {K : PySem.W.Frag} {w w1 : Wd} {μ μ1 m : List Cell} {H H1 : Hp} (r0 : Rc K cl w μ H) (l : Le w H w1 H1) (r1 : Rc K cl w1 μ1 H1) (h : trunc0 μ μ1 = some m) : Rc K cl (w1.cut μ.length) m H1 := by
  have hl : μ.length ≤ μ1.length := by
    rw [← r0.len, ← r1.len]; exact l.as.length_le
  have hlen : (w1.as.take μ.length).length = μ.length := by
    rw [List.length_take, r1.len]; omega
  unfold trunc0 at h
  split at h
  · rename_i e
    cases h
    refine ⟨r1.sub, by show (w1.as.take μ.length).length = _; rw [hlen, e], fun n c a h1 h2 h3 => ?_, fun a o h => ?_, fun n x a h1 h2 => ?_⟩
    · have hn : n < μ.length := by rw [← e]; exact lt_of_get h1
      have h2' : (w1.as.take μ.length)[n]? = some a := h2
      rw [List.getElem?_take_of_lt hn] at h2'
      obtain ⟨x1, x2⟩ := r1.cell n c a h1 h2' h3
      refine ⟨cut_own x1 hn, CellR.keep (w := w1) (w' := w1.cut μ.length) ?_ (Same.refl _) (fun _ z => z) x2⟩
      show w1.as <+: w1.as.take μ.length
      rw [List.take_of_length_le (by rw [r1.len, e]; exact Nat.le_refl _)]
      exact List.prefix_refl _
    · exact r1.own a o (cut_some h)
    · have hn : n < μ.length := by rw [← e]; exact lt_of_get h1
      have h2' : (w1.as.take μ.length)[n]? = some a := h2
      rw [List.getElem?_take_of_lt hn] at h2'
      exact r1.fz n x a h1 h2'
  · split at h
    · rename_i hs
      cases h
      have es := Cell.sms_eq hs
      refine ⟨r1.sub, hlen, fun n c a h1 h2 h3 => ?_, fun a o h => r1.own a o (cut_some h), fun n x a h1 h2 => ?_⟩
      case refine_2 =>
        have hn : n < μ.length := lt_of_get h1
        have h2' : (w1.as.take μ.length)[n]? = some a := h2
        rw [List.getElem?_take_of_lt hn] at h2'
        have h1' : μ1[n]? = some (Cell.fz x) := by
          rw [← es, List.getElem?_take_of_lt hn] at h1; exact h1
        exact r1.fz n x a h1' h2'
      have hn : n < μ.length := lt_of_get h1
      have h2' : (w1.as.take μ.length)[n]? = some a := h2
      rw [List.getElem?_take_of_lt hn] at h2'
      have h1' : μ1[n]? = some c := by
        rw [← es, List.getElem?_take_of_lt hn] at h1; exact h1
      obtain ⟨x1, x2⟩ := r1.cell n c a h1' h2' h3
      obtain ⟨a0, ha0⟩ : ∃ a0, w.as[n]? = some a0 := ⟨_, List.getElem?_eq_getElem (by rw [r0.len]; exact hn)⟩
      obtain ⟨_, y2⟩ := r0.cell n c a0 h1 ha0 h3
      exact ⟨cut_own x1 hn, cell_cut r0.len y2 x2⟩
    · cases h
/-! ### a def keeps its promise -/
theorem start_slots {K : PySem.W.Frag} {w : Wd} {μ : List Cell} {H : Hp} {n : Nat} {args : List Fv} {vs : List V} {N : List Str} (rc : Rc K cl w μ H) (h : Paired (FvR K cl w) args vs) (hn : N.length = n) : R K cl w ⟨startD n args, μ⟩ (L2.start N vs) H := by
  have hl := h.length
  refine ⟨rc, ?_, fun i s e => ?_⟩
  · show (startD n args).length = (L2.start N vs).length
    unfold startD L2.start
    rw [List.length_append, List.length_append, List.length_map, List.length_map, List.length_replicate, List.length_replicate, hn, hl]
  · have e' : (startD n args)[i]? = some (some s) := e
    unfold startD at e'
    by_cases hi : i < args.length
    · rw [List.getElem?_append_left (by rw [List.length_map]; exact hi), List.getElem?_map] at e'
      cases q : args[i]? with
      | none => rw [q] at e'; cases e'
      | some f =>
        rw [q] at e'
        cases e'
        obtain ⟨v, ev, fv⟩ := paired_at h q
        refine ⟨v, ?_, ?_⟩
        · unfold L2.start
          rw [List.getElem?_append_left (by rw [List.length_map, ← hl]; exact hi), List.getElem?_map, ev]; rfl
        · cases f with
          | t x => exact fv
          | loc m => exact fv
    · rw [List.getElem?_append_right (by rw [List.length_map]; omega), List.getElem?_replicate] at e'
      split at e' <;> cases e'
/-- the caller's cells alone -/
def Wd.cells (w : Wd) : Wd := { w with ω := fun a => match w.ω a with | some (.cell m) => some (.cell m) | _ => none }
theorem cells_bare {w : Wd} : w.cells.bare := fun a i h => by
  have h : (match w.ω a with | some (.cell m) => some (Owner.cell m) | _ => none) = some (.slot i) := h
  split at h <;> cases h
theorem cells_some {w : Wd} {a : Addr} {o : Owner} (h : w.cells.ω a = some o) : w.ω a = some o := by
  have h : (match w.ω a with | some (.cell m) => some (Owner.cell m) | _ => none) = some o := h
  split at h
  · rename_i m e; cases h; exact e
  · cases h
theorem rc_cells {K : PySem.W.Frag} {w : Wd} {μ : List Cell} {H : Hp} (r : Rc K cl w μ H) : Rc K cl w.cells μ H := by
  refine ⟨r.sub, r.len, fun n c a h1 h2 h3 => ?_, fun a o h => r.own a o (cells_some h), r.fz⟩
  obtain ⟨x1, x2⟩ := r.cell n c a h1 h2 h3
  refine ⟨?_, x2.keep (List.prefix_refl _) (Same.refl _) fun _ z => z⟩
  show (match w.ω a with | some (.cell m) => some (Owner.cell m) | _ => none) = _
  rw [x1]
theorem fin_at {K : PySem.W.Frag} {wd w1 : Wd} {μ m : List Cell} {st1 : DSt} {σ1 : L2.St} {H H1 : Hp} (rc : Rc K cl wd μ H) (l : Le wd H w1 H1) (r : R K cl w1 st1 σ1 H1) (ht : trunc μ st1.μ = some m) : ∃ w2 : Wd, Le wd H w2 H1 ∧ w2.bare ∧ Rc K cl w2 m H1 ∧ w2.G = w1.G := by
  unfold trunc at ht
  cases e : trunc0 μ st1.μ with
  | some m' =>
    rw [e] at ht
    cases ht
    exact ⟨w1.cut μ.length, le_cut rc.len l, cut_bare, rc_cut rc l r.rc e, rfl⟩
  | none =>
    rw [e] at ht
    cases ht
    refine ⟨w1.cells, ⟨l.as, l.g, fun a h1 h2 => ?_, l.kp, l.gk⟩, cells_bare, rc_cells r.rc, rfl⟩
    show (match w1.ω a with | some (.cell m) => some (Owner.cell m) | _ => none) = none
    rw [l.own a h1 h2]
theorem fn_ok {P : Program} {w : World} {K : PySem.W.Frag} {mg : Str → Option Value} {base : Heap} {x qual : Str} {st : Stmt} {f : Addr} {fd : FuncData} {N ps : List Str} {k : Nat} {body : M Fl} (F : Fun K x qual st f fd) (S : FnScope N ps (defScope st))
    (hb : ∀ (cdv : Value) (A : Around) (outer : List Env) (s : Shared) (H : Hp) (E : XK), Room k (A.deeper (PyProof.Rows.envOfC qual (defScope st) s.heap.objs.size f cdv)) → DSs cl (cxOf (L2.CX P w) P w K mg base N qual (defScope st) f cdv A outer s H E) (defBody st) body) :
    FnOk P w K mg base (L2.CX P w) (k + 1) f fd ps (spD cl K ps.length (runD N.length body)) := by
  refine F.okX S (fun vs H Q E h => ?_) (fun cdv A outer s H vs Q E hr h => ?_)
  · obtain ⟨w, μ, args, o, μ', h1, _, _, h2, _⟩ := h
    rw [← h2.length]; exact h1
  · obtain ⟨wd, μ, args, o, μ', h1, hbare, rc, h2, hF, hp⟩ := h
    refine ⟨_, pssW, ?_⟩
    let Y : Cx := cxOf (L2.CX P w) P w K mg base N qual (defScope st) f cdv A outer s H E
    have cw : Cw Y (fun cls d _ H => E cls d H) := ⟨takes_of rfl rfl rfl rfl, passes_of rfl⟩
    have ds : DSs cl Y (defBody st) body := hb cdv A outer s H E hr
    have r0 : R K cl wd ⟨startD N.length args, μ⟩ (L2.start N vs) H := start_slots rc h2 rfl
    show WSs Y (defBody st) _ (L2.start N vs) H
    unfold runD at hF
    split at hF
    · rename_i s1 e1
      cases et : trunc μ s1.μ with
      | none => rw [et] at hF; cases hF
      | some m =>
        rw [et] at hF
        cases hF
        refine ds _ cw wd _ _ H _ _ s1 r0 e1 fun w1 σ1 H1 l1 r1 => ?_
        obtain ⟨w2, a1, a2, a3, a4⟩ := fin_at rc l1 r1 et
        exact hp w2 H1 .non a1 a2 a3 .non
    · rename_i y s1 e1
      cases et : trunc μ s1.μ with
      | none => rw [et] at hF; cases hF
      | some m =>
        rw [et] at hF
        cases hF
        refine ds _ cw wd _ _ H _ _ s1 r0 e1 fun w1 σ1 H1 l1 r1 v hv => ?_
        obtain ⟨w2, a1, a2, a3, a4⟩ := fin_at rc l1 r1 et
        refine hp w2 H1 v a1 a2 a3 ?_
        show Rep K cl w2.G y v
        rw [a4]
        exact hv
    · rename_i n s1 e1
      split at hF
      · rename_i el
        cases hF
        refine ds _ cw wd _ _ H _ _ s1 r0 e1 fun w1 σ1 H1 l1 r1 v hv => ?_
        have et : trunc0 μ s1.μ = some s1.μ := by unfold trunc0; rw [if_pos el]
        have a1 := le_cut rc.len l1
        have a2 : (w1.cut μ.length).bare := cut_bare
        have a3 := rc_cut rc l1 r1.rc et
        obtain ⟨b, e2, e3⟩ := hv
        refine hp _ H1 v a1 a2 a3 ⟨b, ?_, e3⟩
        show (w1.as.take μ.length)[n]? = some b
        rw [List.getElem?_take_of_lt (by rw [← el, ← r1.rc.len]; exact lt_of_get e2)]
        exact e2
      · cases hF
    · rename_i y s1 e1
      cases et : trunc μ s1.μ with
      | none => rw [et] at hF; cases hF
      | some m =>
        rw [et] at hF
        cases hF
        refine ds _ cw wd _ _ H _ _ s1 r0 e1 fun w1 σ1 H1 l1 r1 b ho hb hO => ?_
        obtain ⟨w2, a1, a2, a3, a4⟩ := fin_at rc l1 r1 et
        exact hp w2 H1 a1 a2 a3 b ho hb (by rw [a4]; exact hO)
    · rename_i c fs s1 e1
      cases et : trunc μ s1.μ with
      | none => rw [et] at hF; cases hF
      | some m =>
        rw [et] at hF
        cases hF
        refine ds _ cw wd _ _ H _ _ s1 r0 e1 fun w1 σ1 H1 cv d l1 r1 hx => ?_
        obtain ⟨w2, a1, a2, a3, a4⟩ := fin_at rc l1 r1 et
        refine hp w2 H1 cv d a1 a2 a3 ?_
        obtain ⟨C, x1, x2, x3⟩ := hx
        refine ⟨C, x1, x2, ?_⟩
        rcases x3 with x3 | ⟨dd, vs, x3, x4, x5⟩
        · exact .inl x3
        · exact .inr ⟨dd, vs, x3, x4, by rw [a4]; exact x5⟩
    · cases hF
/-! ### calls -/
/-- behind a call: the caller's slots stand as they stood -/
theorem R.back {K : PySem.W.Frag} {w w1 : Wd} {st : DSt} {σ : L2.St} {H H1 : Hp} {μ1 : List Cell} (r : R K cl w st σ H) (l : Le w.cells H w1 H1) (hb : w1.bare) (rc : Rc K cl w1 μ1 H1) :
    ∃ w2, Le w H w2 H1 ∧ R K cl w2 { st with μ := μ1 } σ H1 ∧ w2.as = w1.as ∧ w2.G = w1.G := by
  let w2 : Wd := { as := w1.as, G := w1.G, ω := fun a => match w.ω a with | some (.slot i) => some (.slot i) | _ => w1.ω a }
  have nn : ∀ a, w.ω a = none → w.cells.ω a = none := fun a h => by
    show (match w.ω a with | some (.cell m) => some (Owner.cell m) | _ => none) = none
    rw [h]
  have ns : ∀ a i, w.ω a = some (.slot i) → w.cells.ω a = none := fun a i h => by
    show (match w.ω a with | some (.cell m) => some (Owner.cell m) | _ => none) = none
    rw [h]
  have w2c : ∀ a, (∀ i, w.ω a ≠ some (.slot i)) → w2.ω a = w1.ω a := fun a h => by
    show (match w.ω a with | some (.slot i) => some (Owner.slot i) | _ => w1.ω a) = _
    split
    · rename_i i e; exact absurd e (h i)
    · rfl
  have w2s : ∀ a i, w.ω a = some (.slot i) → w2.ω a = some (.slot i) := fun a i h => by
    show (match w.ω a with | some (.slot i) => some (Owner.slot i) | _ => w1.ω a) = _
    rw [h]
  have own1 : ∀ a i, w.ω a = some (.slot i) → w1.ω a = none ∧ w1.G a = none ∧ H a ≠ none ∧ ∀ o, H a = some o → H1 a = some o := fun a i h => by
    obtain ⟨g, n⟩ := r.rc.own a _ h
    exact ⟨l.own a (ns a i h) n, (l.gk a (ns a i h) n).trans g, n, fun o e => l.kp a o (ns a i h) e⟩
  refine ⟨w2, ⟨l.as, l.g, fun a h1 h2 => ?_, fun a o h1 h2 => l.kp a o (nn a h1) h2, fun a h1 h2 => l.gk a (nn a h1) h2⟩, ⟨⟨rc.sub, rc.len, fun n c a h1 h2 h3 => ?_, fun a o h => ?_, rc.fz⟩, r.slen, fun i s e => ?_⟩, rfl, rfl⟩
  · rw [w2c a fun i z => by rw [h1] at z; cases z]
    exact l.own a (nn a h1) h2
  · obtain ⟨x1, x2⟩ := rc.cell n c a h1 h2 h3
    refine ⟨?_, CellR.keep (w := w1) (w' := w2) (List.prefix_refl _) (Same.refl _) (fun _ z => z) x2⟩
    rw [w2c a fun i z => by rw [(own1 a i z).1] at x1; cases x1]
    exact x1
  · by_cases hs : ∃ i, w.ω a = some (.slot i)
    · obtain ⟨i, hs⟩ := hs
      obtain ⟨k1, k2, k3, k4⟩ := own1 a i hs
      refine ⟨k2, ?_⟩
      cases e : H a with
      | none => exact absurd e k3
      | some u => rw [k4 u e]; exact fun z => nomatch z
    · rw [w2c a fun i z => hs ⟨i, z⟩] at h
      exact rc.own a o h
  · obtain ⟨x, e1, e2⟩ := r.slot i s e
    refine ⟨x, e1, ?_⟩
    cases s with
    | t y => exact Rep.mono l.g e2
    | loc n => obtain ⟨a, z1, z2⟩ := e2; exact ⟨a, pre_get l.as z1, z2⟩
    | own o =>
      obtain ⟨a, z1, z2, z3⟩ := e2
      exact ⟨a, z1, w2s a i z2, z3.keep l.g (own1 a i z2).2.2.2⟩
    | exc c fs => trivial
def asFvs : List Val → M (List Fv)
  | [] => ret []
  | v :: vs => bnd (asFv v) fun f => bnd (asFvs vs) fun fs => ret (f :: fs)
theorem asFvs_at {K : PySem.W.Frag} {σ : L2.St} {H : Hp} : ∀ {vs : List Val} {xs : List V} {w : Wd} {st st' : DSt} {o : Out (List Fv)}, R K cl w st σ H → Paired (VR K cl w σ) vs xs → asFvs vs st = some (o, st') → ∃ fs w', o = .ok fs ∧ Le w H w' H ∧ R K cl w' st' σ H ∧ Paired (FvR K cl w') fs xs
  | [], _, w, st, st', o, r, .nil, h => by cases h; exact ⟨[], w, rfl, Le.refl _ _, r, .nil⟩
  | v :: vs, _, w, st, st', o, r, .cons hv hvs, h => by
    unfold asFvs at h
    rcases bnd_some h with ⟨c, fs, h1, rfl⟩ | ⟨t, st1, h1, h2⟩
    · obtain ⟨t, w', e, _⟩ := asFv_at r hv h1
      cases e
    · obtain ⟨t', w1, e, l1, r1, q1⟩ := asFv_at r hv h1
      cases e
      rcases bnd_some h2 with ⟨c, fs, h3, rfl⟩ | ⟨ts, st2, h3, h4⟩
      · obtain ⟨ts, w', e, _⟩ := asFvs_at r1 (hvs.mono fun _ _ z => z.le l1) h3
        cases e
      · obtain ⟨ts', w2, e, l2, r2, q2⟩ := asFvs_at r1 (hvs.mono fun _ _ z => z.le l1) h3
        cases e
        cases h4
        exact ⟨_, w2, rfl, l1.trans l2, r2, .cons (q1.mono l2.as l2.g) q2⟩
/-- a call of a plain function -/
def callF (F : DFun) (args : List Fv) : M Ret := fun s => match F args s.μ with
  | some (.ok v, m) => some (.ok v, { s with μ := m })
  | some (.exc c fs, m) => some (.exc c fs, { s with μ := m })
  | none => none
/-- how a call ends for the caller -/
theorem call_end {W : WX} {w : Wd} {st st' : DSt} {σ : L2.St} {H : Hp} {Q : VK} {F : DFun} {n : Nat} {args : List Fv} {xs : List V} {o : Out Ret} (r : R X.K cl w st σ H) (ha : Paired (FvR X.K cl w) args xs) (hn : args.length = n) (h : callF F args st = some (o, st'))
    (p : Post cl X W σ w H o st' (fun v w' H' => match v with
      | .val v => ∀ x, FvR X.K cl w' v x → Q x H'
      | .own v => ∀ (p : Addr) (ho : HO), H' p = none → (∀ H2, H2 p = some ho → OwnR X.K cl w'.G H2 v p) → Q (.ref p) (upd H' p ho))) : spD cl X.K n F xs H Q (fun c d H' => W c d σ H') := by
  unfold callF at h
  have fa : Paired (FvR X.K cl w.cells) args xs := ha.mono fun _ _ z => z.mono (List.prefix_refl _) (Same.refl _)
  split at h
  · rename_i v m e
    cases h
    refine ⟨w.cells, st.μ, args, _, m, hn, cells_bare, rc_cells r.rc, fa, e, ?_⟩
    cases v with
    | val v =>
      intro w1 H1 x l b rc fx
      obtain ⟨w2, l2, r2, e1, e2⟩ := r.back l b rc
      exact p w2 H1 l2 r2 x (fx.mono (by rw [e1]; exact List.prefix_refl _) (by rw [e2]; exact Same.refl _))
    | own v =>
      intro w1 H1 l b rc q ho hq hO
      obtain ⟨w2, l2, r2, e1, e2⟩ := r.back l b rc
      exact p w2 H1 l2 r2 q ho hq (by rw [e2]; exact hO)
  · rename_i c fs m e
    cases h
    refine ⟨w.cells, st.μ, args, _, m, hn, cells_bare, rc_cells r.rc, fa, e, ?_⟩
    intro w1 H1 cv d l b rc hx
    obtain ⟨w2, l2, r2, e1, e2⟩ := r.back l b rc
    refine p w2 H1 cv d l2 r2 ?_
    obtain ⟨C, k1, k2, k3⟩ := hx
    refine ⟨C, k1, k2, ?_⟩
    rcases k3 with k3 | ⟨dd, vs, k3, k4, k5⟩
    · exact .inl k3
    · exact .inr ⟨dd, vs, k3, k4, by rw [e2]; exact k5⟩
  · cases h
def retV : Ret → M Val
  | .val v => ret v.val
  | .own o => keep o
def retO : Ret → M Own
  | .val _ => stuck
  | .own o => ret o
def dCall (F : DFun) (fa : M (List Val)) : M Ret := bnd fa fun vs => bnd (asFvs vs) fun fs => callF F fs
/-- a call's end as a value -/
theorem ret_end {W : WX} {w : Wd} {st : DSt} {σ : L2.St} {H : Hp} {Q : VK} {f : M Ret} {o : Out Val} {st' : DSt} (h : bnd f retV st = some (o, st')) (p : Post cl X W σ w H o st' (fun v w' H' => ∀ x, VR X.K cl w' σ v x → Q x H')) :
    ∃ o1 st1, f st = some (o1, st1) ∧ Post cl X W σ w H o1 st1 (fun v w' H' => match v with
      | .val v => ∀ x, FvR X.K cl w' v x → Q x H'
      | .own v => ∀ (p : Addr) (ho : HO), H' p = none → (∀ H2, H2 p = some ho → OwnR X.K cl w'.G H2 v p) → Q (.ref p) (upd H' p ho)) := by
  rcases bnd_some h with ⟨c, fs, h1, rfl⟩ | ⟨v, st1, h1, h2⟩
  · exact ⟨_, _, h1, p⟩
  · refine ⟨_, _, h1, fun w1 H1 l1 r1 => ?_⟩
    cases v with
    | val v => cases h2; exact fun x fx => p w1 H1 l1 r1 x fx.vr
    | own v =>
      intro a ho ha hO
      obtain ⟨t, w2, e, e', l2, r2, q2⟩ := keep_at r1 ha hO (show keep v st1 = some (o, st') from h2)
      subst e e'
      exact p w2 _ (l1.trans l2) r2 _ q2
section
variable {k : Nat} {f C : Addr} {fd : FuncData} {ps : List Str} {F : DFun} {x m : Str} {p pos apos : Pos} {e o : Expr} {es : List Expr} {fa : M (List Val)} {fo : M Val}
theorem call_we {W : WX} (cw : Cw X W) (G : FnOk X.prog X.w X.K X.mg X.base (L2.CX X.prog X.w) k f fd ps (spD cl X.K ps.length F)) (hr : Room k X.A) (hb : Binds X.K fd ps []) {w : Wd} {st st' : DSt} {σ : L2.St} {H : Hp} {Q : VK} {vs : List Val} {xs : List V} {us : List Value} {ou : Out Ret} {pins : List (Addr × Obj)} {s : Shared}
    (r : R X.K cl w st σ H) (hv : Paired (VR X.K cl w σ) vs xs) (h : bnd (asFvs vs) (fun fs => callF F fs) st = some (ou, st')) (hl : vs.length = ps.length)
    (pp : Post cl X W σ w H ou st' (fun v w' H' => match v with
      | .val v => ∀ x, FvR X.K cl w' v x → Q x H'
      | .own v => ∀ (p : Addr) (ho : HO), H' p = none → (∀ H2, H2 p = some ho → OwnR X.K cl w'.G H2 v p) → Q (.ref p) (upd H' p ho))) (I : Inv X pins σ H s) (rv : Vals xs us) : wpAny (model X.prog X.w) X.A (call (.ref f) us) (EP X pins σ Q) X.xe s := by
  rcases bnd_some h with ⟨c, fs, h1, rfl⟩ | ⟨fs, st1, h1, h2⟩
  · obtain ⟨fs, w', e, _⟩ := asFvs_at r hv h1
    cases e
  · obtain ⟨fs', w1, e, l1, r1, q1⟩ := asFvs_at r hv h1
    cases e
    have hlen : fs.length = ps.length := by rw [q1.length, ← hv.length]; exact hl
    have sp := call_end (W := W) r1 q1 hlen h2 (pp.after l1)
    exact run_fnSD (E := fun σ c d H' => W c d σ H') (dvs := []) (ds := []) G hr hb .nil (passAt cw.tk σ) I rv (by rw [List.append_nil]; exact sp)
theorem de_callR {Y : Type} (G : FnOk X.prog X.w X.K X.mg X.base (L2.CX X.prog X.w) k f fd ps (spD cl X.K ps.length F)) (hr : Room k X.A) (hg : Gl X x) (hm : X.mg x = some (.ref f)) (hk : PySem.W.keepIn X.K (.ref f) = true) (hb : Binds X.K fd ps []) (hdb : (x == ("__debug__" : Str)) = false)
    (he : starEach (e :: es) X.env = (false, eval e X.env) :: starEach es X.env) (hpl : (backTo pos (starEach es X.env)).any (·.1) = false) (hl : (e :: es).length = ps.length) (hla : ∀ s vs s', fa s = some (.ok vs, s') → vs.length = (e :: es).length) (ha : DA cl X (e :: es) fa)
    {W : WX} (cw : Cw X W) {w : Wd} {st st' : DSt} {σ : L2.St} {H : Hp} {Q : VK} {ou : Out Ret} (r : R X.K cl w st σ H) (h : dCall F fa st = some (ou, st'))
    (pp : Post cl X W σ w H ou st' (fun v w' H' => match v with
      | .val v => ∀ x, FvR X.K cl w' v x → Q x H'
      | .own v => ∀ (p : Addr) (ho : HO), H' p = none → (∀ H2, H2 p = some ho → OwnR X.K cl w'.G H2 v p) → Q (.ref p) (upd H' p ho))) : WE X (.Call (.Name x p) (e :: es) [] pos) σ H Q := by
  intro pins s I
  refine wpAny_Call_Name_kw (ld_glob I hg hm ?_ hdb)
  rcases bnd_some h with ⟨c, fs, h1, rfl⟩ | ⟨vs, st1, h1, h2⟩
  · exact PySem.W.callWith_K (h₀ := X.base) I.ok.mod.kin hk (thn (ha W cw w st σ H (fun _ _ => False) _ st' r h1 pp pos pins s I) fun us s1 ⟨_, _, _, _, z⟩ => z.elim) he hpl
  · refine PySem.W.callWith_K (h₀ := X.base) I.ok.mod.kin hk (thn (ha W cw w st σ H (fun xs H1 => ∃ w1, Le w H w1 H1 ∧ R X.K cl w1 st1 σ H1 ∧ Paired (VR X.K cl w1 σ) vs xs) _ st1 r h1 (fun w1 H1 l1 r1 xs hxs => ⟨w1, l1, r1, hxs⟩) pos pins s I) fun us s1 ⟨xs, H1, I1, rv, w1, l1, r1, hxs⟩ => ⟨I1.kIn, ?_⟩) he hpl
    exact call_we cw G hr hb r1 hxs h2 ((hla _ _ _ h1).trans hl) (pp.after l1) I1 rv
end
end
end Lf
namespace Lf
open PySem PySem.Spec L2
section
variable {cl : Cl} {X : Cx}
def Len (n : Nat) (fa : M (List Val)) : Prop := ∀ s vs s', fa s = some (.ok vs, s') → vs.length = n
theorem len_nil : Len 0 (ret []) := fun s vs s' h => by cases h; rfl
theorem len_cons {n : Nat} {f : M Val} {g : M (List Val)} (h : Len n g) : Len (n + 1) (dCons f g) := fun s vs s' e => by
  unfold dCons at e
  rcases bnd_some e with ⟨c, fs, _, z⟩ | ⟨v, s1, h1, h2⟩
  · cases z
  · rcases bnd_some h2 with ⟨c, fs, _, z⟩ | ⟨vs, s2, h3, h4⟩
    · cases z
    · cases h4
      rw [List.length_cons, h _ _ _ h3]
section
variable {k : Nat} {f C : Addr} {fd : FuncData} {ps : List Str} {F : DFun} {x m : Str} {p pos apos : Pos} {e o : Expr} {es : List Expr} {fa : M (List Val)} {fo : M Val}
theorem de_call (G : FnOk X.prog X.w X.K X.mg X.base (L2.CX X.prog X.w) k f fd ps (spD cl X.K ps.length F)) (hr : Room k X.A) (hg : Gl X x) (hm : X.mg x = some (.ref f)) (hk : PySem.W.keepIn X.K (.ref f) = true) (hb : Binds X.K fd ps []) (hdb : (x == ("__debug__" : Str)) = false)
    (he : starEach (e :: es) X.env = (false, eval e X.env) :: starEach es X.env) (hpl : (backTo pos (starEach es X.env)).any (·.1) = false) (hla : Len ps.length fa) (ha : DA cl X (e :: es) fa) : DE cl X (.Call (.Name x p) (e :: es) [] pos) (bnd (dCall F fa) retV) := fun W cw w st σ H Q ou st' r h pp => by
  obtain ⟨o1, st1, h1, pp1⟩ := ret_end h pp
  intro pins s I
  refine wpAny_Call_Name_kw (ld_glob I hg hm ?_ hdb)
  rcases bnd_some h1 with ⟨c, fs, h2, rfl⟩ | ⟨vs, st2, h2, h3⟩
  · exact PySem.W.callWith_K (h₀ := X.base) I.ok.mod.kin hk (thn (ha W cw w st σ H (fun _ _ => False) _ st1 r h2 pp1.exc pos pins s I) fun us s1 ⟨_, _, _, _, z⟩ => z.elim) he hpl
  · refine PySem.W.callWith_K (h₀ := X.base) I.ok.mod.kin hk (thn (ha W cw w st σ H (fun xs H1 => ∃ w1, Le w H w1 H1 ∧ R X.K cl w1 st2 σ H1 ∧ Paired (VR X.K cl w1 σ) vs xs) _ st2 r h2 (fun w1 H1 l1 r1 xs hxs => ⟨w1, l1, r1, hxs⟩) pos pins s I) fun us s1 ⟨xs, H1, I1, rv, w1, l1, r1, hxs⟩ => ⟨I1.kIn, ?_⟩) he hpl
    exact call_we cw G hr hb r1 hxs h3 (hla _ _ _ h2) (pp1.after l1) I1 rv
/-- .. that hands back a new object -/
theorem df_call (G : FnOk X.prog X.w X.K X.mg X.base (L2.CX X.prog X.w) k f fd ps (spD cl X.K ps.length F)) (hr : Room k X.A) (hg : Gl X x) (hm : X.mg x = some (.ref f)) (hk : PySem.W.keepIn X.K (.ref f) = true) (hb : Binds X.K fd ps []) (hdb : (x == ("__debug__" : Str)) = false)
    (he : starEach (e :: es) X.env = (false, eval e X.env) :: starEach es X.env) (hpl : (backTo pos (starEach es X.env)).any (·.1) = false) (hla : Len ps.length fa) (ha : DA cl X (e :: es) fa) : DF cl X (.Call (.Name x p) (e :: es) [] pos) (bnd (dCall F fa) retO) := fun W cw w st σ H Q ou st' r h pp => by
  have key : ∃ o1 st1, dCall F fa st = some (o1, st1) ∧ Post cl X W σ w H o1 st1 (fun v w' H' => match v with
      | .val v => ∀ x, FvR X.K cl w' v x → Q x H'
      | .own v => ∀ (p : Addr) (ho : HO), H' p = none → (∀ H2, H2 p = some ho → OwnR X.K cl w'.G H2 v p) → Q (.ref p) (upd H' p ho)) := by
    rcases bnd_some h with ⟨c, fs, h1, rfl⟩ | ⟨v, st1, h1, h2⟩
    · exact ⟨_, _, h1, pp⟩
    · refine ⟨_, _, h1, fun w1 H1 l1 r1 => ?_⟩
      cases v with
      | val v => cases h2
      | own v => cases h2; exact pp w1 H1 l1 r1
  obtain ⟨o1, st1, h1, pp1⟩ := key
  intro pins s I
  refine wpAny_Call_Name_kw (ld_glob I hg hm ?_ hdb)
  rcases bnd_some h1 with ⟨c, fs, h2, rfl⟩ | ⟨vs, st2, h2, h3⟩
  · exact PySem.W.callWith_K (h₀ := X.base) I.ok.mod.kin hk (thn (ha W cw w st σ H (fun _ _ => False) _ st1 r h2 pp1.exc pos pins s I) fun us s1 ⟨_, _, _, _, z⟩ => z.elim) he hpl
  · refine PySem.W.callWith_K (h₀ := X.base) I.ok.mod.kin hk (thn (ha W cw w st σ H (fun xs H1 => ∃ w1, Le w H w1 H1 ∧ R X.K cl w1 st2 σ H1 ∧ Paired (VR X.K cl w1 σ) vs xs) _ st2 r h2 (fun w1 H1 l1 r1 xs hxs => ⟨w1, l1, r1, hxs⟩) pos pins s I) fun us s1 ⟨xs, H1, I1, rv, w1, l1, r1, hxs⟩ => ⟨I1.kIn, ?_⟩) he hpl
    exact call_we cw G hr hb r1 hxs h3 (hla _ _ _ h2) (pp1.after l1) I1 rv
/-! ### methods of own classes -/
def dMethC (c m : Str) (F : DFun) (fo : M Val) (fa : M (List Val)) : M Ret := bnd fo fun v => fun s => match insOf s v with
  | some (d, l) => if d = c ∧ look l m = none then bnd fa (fun vs => bnd (asFvs (v :: vs)) fun fs => callF F fs) s else none
  | none => none
theorem de_meth {pl : Sem Bool} {c : Str} (hC : cl c = some C) (hcl : Cls X.K C) (hm : Meth X.K C m f) (G : FnOk X.prog X.w X.K X.mg X.base (L2.CX X.prog X.w) k f fd ps (spD cl X.K ps.length F)) (hr : Room k X.A) (hb : Binds X.K fd ps [])
    (hst : starEach (e :: es) X.env = (false, eval e X.env) :: starEach es X.env) (hpl : (backTo pos (starEach es X.env)).any (·.1) = false)
    (ht : eval (.Call (.Attribute o m apos) (e :: es) [] pos) X.env = (do
      let ov ← eval o X.env
      standAt apos.atName
      let (f, first) ← holding [ov] (getMethod ov m pl)
      callWith pos f first (backTo pos (starEach (e :: es) X.env)) (backToKw pos (keywordEach [] X.env)))) {n : Nat} (hn : n + 1 = ps.length) (hla : Len n fa) (ho : DE cl X o fo) (ha : DA cl X (e :: es) fa) :
    DE cl X (.Call (.Attribute o m apos) (e :: es) [] pos) (bnd (dMethC c m F fo fa) retV) := fun W cw w st σ H Q ou st' r h pp => by
  obtain ⟨o1, st1, h1, pp1⟩ := ret_end h pp
  intro pins s I
  refine PySem.W.methodCall_KW (pl := pl) ?_ ht
  rcases bnd_some h1 with ⟨c, fs, h2, rfl⟩ | ⟨v, st2, h2, h3⟩
  · exact thn (ho W cw w st σ H (fun _ _ => False) _ st1 r h2 pp1.exc pins s I) fun us s1 ⟨_, _, _, _, z⟩ => z.elim
  · refine thn (ho W cw w st σ H (fun x H1 => ∃ w1, Le w H w1 H1 ∧ R X.K cl w1 st2 σ H1 ∧ VR X.K cl w1 σ v x) _ st2 r h2 (fun w1 H1 l1 r1 x hx => ⟨w1, l1, r1, hx⟩) pins s I) fun u s1 ⟨x, H1, I1, ru, w1, l1, r1, hx⟩ => ?_
    split at h3
    · rename_i d l e1
      split at h3
      · rename_i hd
        obtain ⟨rfl, hlk⟩ := hd
        obtain ⟨a, C', dx, mm, rfl, e3, e4, pr⟩ := ins_at r1 e1 hx
        rw [hC] at e3
        cases e3
        obtain rfl : u = Value.ref a := ru
        refine getmeth_ok I1 e4 hcl hm (lookup_none pr hlk) ?_
        rcases bnd_some h3 with ⟨c, fs, h4, rfl⟩ | ⟨vs, st3, h4, h5⟩
        · exact PySem.W.callWith_K (first := [.ref a]) (h₀ := X.base) I.ok.mod.kin hm.kp (thn (ha W cw w1 st2 σ H1 (fun _ _ => False) _ st1 r1 h4 (pp1.after l1).exc pos pins s1 I1) fun us s2 ⟨_, _, _, _, z⟩ => z.elim) hst hpl
        · refine PySem.W.callWith_K (first := [.ref a]) (h₀ := X.base) I.ok.mod.kin hm.kp (thn (ha W cw w1 st2 σ H1 (fun xs H2 => ∃ w2, Le w1 H1 w2 H2 ∧ R X.K cl w2 st3 σ H2 ∧ Paired (VR X.K cl w2 σ) vs xs) _ st3 r1 h4 (fun w2 H2 l2 r2 xs hxs => ⟨w2, l2, r2, hxs⟩) pos pins s1 I1) fun us s2 ⟨xs, H2, I2, rv, w2, l2, r2, hxs⟩ => ⟨I2.kIn, ?_⟩) hst hpl
          exact call_we (vs := v :: vs) (xs := .ref a :: xs) (us := .ref a :: us) cw G hr hb r2 (.cons (hx.le l2) hxs) h5 (by rw [List.length_cons, hla _ _ _ h4]; exact hn) (pp1.after (l1.trans l2)) I2 (.cons rfl rv)
      · cases h3
    · cases h3
theorem de_meth0 {pl : Sem Bool} {c : Str} (hC : cl c = some C) (hcl : Cls X.K C) (hm : Meth X.K C m f) (G : FnOk X.prog X.w X.K X.mg X.base (L2.CX X.prog X.w) k f fd ps (spD cl X.K ps.length F)) (hr : Room k X.A) (hb : Binds X.K fd ps [])
    (ht : eval (.Call (.Attribute o m apos) [] [] pos) X.env = (do
      let ov ← eval o X.env
      standAt apos.atName
      let (f, first) ← holding [ov] (getMethod ov m pl)
      callWith pos f first (backTo pos (starEach [] X.env)) (backToKw pos (keywordEach [] X.env)))) (hn : 1 = ps.length) (ho : DE cl X o fo) :
    DE cl X (.Call (.Attribute o m apos) [] [] pos) (bnd (dMethC c m F fo (ret [])) retV) := fun W cw w st σ H Q ou st' r h pp => by
  obtain ⟨o1, st1, h1, pp1⟩ := ret_end h pp
  intro pins s I
  refine PySem.W.methodCall_KW (pl := pl) ?_ ht
  rcases bnd_some h1 with ⟨c, fs, h2, rfl⟩ | ⟨v, st2, h2, h3⟩
  · exact thn (ho W cw w st σ H (fun _ _ => False) _ st1 r h2 pp1.exc pins s I) fun us s1 ⟨_, _, _, _, z⟩ => z.elim
  · refine thn (ho W cw w st σ H (fun x H1 => ∃ w1, Le w H w1 H1 ∧ R X.K cl w1 st2 σ H1 ∧ VR X.K cl w1 σ v x) _ st2 r h2 (fun w1 H1 l1 r1 x hx => ⟨w1, l1, r1, hx⟩) pins s I) fun u s1 ⟨x, H1, I1, ru, w1, l1, r1, hx⟩ => ?_
    split at h3
    · rename_i d l e1
      split at h3
      · rename_i hd
        obtain ⟨rfl, hlk⟩ := hd
        obtain ⟨a, C', dx, mm, rfl, e3, e4, pr⟩ := ins_at r1 e1 hx
        rw [hC] at e3
        cases e3
        obtain rfl : u = Value.ref a := ru
        refine getmeth_ok I1 e4 hcl hm (lookup_none pr hlk) ?_
        rcases bnd_some h3 with ⟨c, fs, h4, rfl⟩ | ⟨vs, st3, h4, h5⟩
        · cases h4
        · cases h4
          refine PySem.W.callWith_K0 (first := [.ref a]) I1.kIn hm.kp ?_
          exact call_we (vs := [v]) (xs := [.ref a]) (us := [.ref a]) cw G hr hb r1 (.cons hx .nil) h5 hn (pp1.after l1) I1 (.cons rfl .nil)
      · cases h3
    · cases h3
/-! ### a new instance, which stands still behind its __init__ -/
def plainD {κ : Type} : List (κ × Fv) → Option (List (κ × T))
  | [] => some []
  | (k, .t x) :: r => (plainD r).map ((k, x) :: ·)
  | (_, .loc _) :: _ => none
/-- a cell as plain data -/
def thawC (m : List Cell) (n j : Nat) : Option T := if j < n then none else match m[j]? with
  | some (.lst xs) => (plains xs).map .lst
  | some (.dic false kvs) => (plainD kvs).map .dic
  | some (.dit false kvs) => (plainD kvs).map .dit
  | some (Cell.fz x) => some x
  | _ => none
def thawF (m : List Cell) (n : Nat) : List (Str × Fv) → Option (List (Str × T))
  | [] => some []
  | (k, .t x) :: r => (thawF m n r).map ((k, x) :: ·)
  | (k, .loc j) :: r => match thawC m n j, thawF m n r with
    | some x, some l => some ((k, x) :: l)
    | _, _ => none
def mkObj (c : Str) (F : DFun) (fs : List Fv) : M Val := fun s => match F (.loc s.μ.length :: fs) (s.μ ++ [.ins c []]) with
  | some (.ok (.val (.t .non)), m) => if Cell.sms (m.take s.μ.length) s.μ then match m[s.μ.length]? with
      | some (.ins d l) => match thawF m s.μ.length l with
        | some ts => some (.ok (.t (.obj d ts)), s)
        | none => none
      | _ => none
    else none
  | some (.exc d l, m) => if Cell.sms (m.take s.μ.length) s.μ then some (.exc d l, s) else none
  | _ => none
end
theorem R.thaw {K : PySem.W.Frag} {w0 w : Wd} {δ : List (Option Slot)} {μ m : List Cell} {σ : L2.St} {H0 H : Hp} (r0 : R K cl w0 ⟨δ, μ⟩ σ H0) (l : Le w0 H0 w H) (r : R K cl w ⟨δ, m⟩ σ H) (hs : Cell.sms (m.take μ.length) μ = true) :
    ∃ w3 : Wd, Le w0 H0 w3 H ∧ R K cl w3 ⟨δ, μ⟩ σ H ∧ Same w.G w3.G ∧ ∀ a k, w.ω a = some (.cell k) → ¬ k < μ.length → w3.G a = H a := by
  let w3 : Wd := { as := w.as.take μ.length, G := fun a => match w.ω a with | some (.cell k) => if k < μ.length then w.G a else H a | _ => w.G a, ω := fun a => match w.ω a with | some (.cell k) => if k < μ.length then some (.cell k) else none | o => o }
  have es := Cell.sms_eq hs
  have hl : μ.length ≤ m.length := by rw [← r0.rc.len, ← r.rc.len]; exact l.as.length_le
  have ga : ∀ a, (∀ k, w.ω a = some (.cell k) → k < μ.length) → w3.G a = w.G a := fun a h => by
    show (match w.ω a with | some (.cell k) => if k < μ.length then w.G a else H a | _ => w.G a) = _
    split
    · rename_i k e; rw [if_pos (h k e)]
    · rfl
  have gb : ∀ a k, w.ω a = some (.cell k) → ¬ k < μ.length → w3.G a = H a := fun a k e h => by
    show (match w.ω a with | some (.cell k) => if k < μ.length then w.G a else H a | _ => w.G a) = _
    rw [e]; exact if_neg h
  have oc : ∀ a k, w.ω a = some (.cell k) → k < μ.length → w3.ω a = some (.cell k) := fun a k e h => by
    show (match w.ω a with | some (.cell k) => if k < μ.length then some (Owner.cell k) else none | o => o) = _
    rw [e]; exact if_pos h
  have os : ∀ a i, w.ω a = some (.slot i) → w3.ω a = some (.slot i) := fun a i e => by
    show (match w.ω a with | some (.cell k) => if k < μ.length then some (Owner.cell k) else none | o => o) = _
    rw [e]
  have on : ∀ a, w.ω a = none → w3.ω a = none := fun a e => by
    show (match w.ω a with | some (.cell k) => if k < μ.length then some (Owner.cell k) else none | o => o) = _
    rw [e]
  have ob : ∀ a o, w3.ω a = some o → w.ω a = some o ∧ ∀ k, w.ω a = some (.cell k) → k < μ.length := fun a o h => by
    have h' : (match w.ω a with | some (.cell k) => if k < μ.length then some (Owner.cell k) else none | o => o) = some o := h
    split at h'
    · rename_i k e
      split at h'
      · rename_i hk
        cases h'
        exact ⟨e, fun k' e' => by rw [e] at e'; cases e'; exact hk⟩
      · cases h'
    · rename_i nc
      exact ⟨h', fun k e => absurd e (nc k)⟩
  have sg : Same w.G w3.G := fun a u e => by
    rw [ga a fun k ek => by rw [(r.rc.own a _ ek).1] at e; cases e]; exact e
  refine ⟨w3, ⟨?_, l.g.trans sg, fun a h1 h2 => on a (l.own a h1 h2), l.kp, fun a h1 h2 => ?_⟩, ⟨⟨fun a u e => ?_, ?_, fun n c a h1 h2 h3 => ?_, fun a o h => ?_, fun n x a h1 h2 => ?_⟩, r.slen, fun i s e => ?_⟩, sg, gb⟩
  · show w0.as <+: w.as.take μ.length
    obtain ⟨mm, e⟩ := l.as
    rw [← e, ← r0.rc.len, List.take_left]
    exact List.prefix_refl _
  · rw [ga a fun k ek => by rw [l.own a h1 h2] at ek; cases ek]
    exact l.gk a h1 h2
  · by_cases hk : ∃ k, w.ω a = some (.cell k) ∧ ¬ k < μ.length
    · obtain ⟨k, e1, e2⟩ := hk
      rw [gb a k e1 e2] at e
      exact .inl e
    · rw [ga a fun k ek => by
        cases Nat.lt_or_ge k μ.length with
        | inl q => exact q
        | inr q => exact absurd ⟨k, ek, Nat.not_lt.mpr q⟩ hk] at e
      exact r.rc.sub a u e
  · show (w.as.take μ.length).length = μ.length
    rw [List.length_take, r.rc.len]
    show min μ.length m.length = μ.length
    omega
  · have h1 : μ[n]? = some c := h1
    have hn : n < μ.length := lt_of_get h1
    have h2' : (w.as.take μ.length)[n]? = some a := h2
    rw [List.getElem?_take_of_lt hn] at h2'
    have h1' : m[n]? = some c := by rw [← es, List.getElem?_take_of_lt hn] at h1; exact h1
    obtain ⟨x1, x2⟩ := r.rc.cell n c a h1' h2' h3
    obtain ⟨a0, ha0⟩ : ∃ a0, w0.as[n]? = some a0 := ⟨_, List.getElem?_eq_getElem (by rw [r0.rc.len]; exact hn)⟩
    obtain ⟨_, y2⟩ := r0.rc.cell n c a0 h1 ha0 h3
    have z := cell_cut (n := μ.length) r0.rc.len y2 x2
    exact ⟨oc a n x1 hn, CellR.keep (w := w.cut μ.length) (w' := w3) (List.prefix_refl _) sg (fun _ z => z) z⟩
  · obtain ⟨e1, e2⟩ := ob a o h
    obtain ⟨q1, q2⟩ := r.rc.own a o e1
    exact ⟨by rw [ga a e2]; exact q1, q2⟩
  · have h1 : μ[n]? = some (Cell.fz x) := h1
    have hn : n < μ.length := lt_of_get h1
    have h2' : (w.as.take μ.length)[n]? = some a := h2
    rw [List.getElem?_take_of_lt hn] at h2'
    have h1' : m[n]? = some (Cell.fz x) := by rw [← es, List.getElem?_take_of_lt hn] at h1; exact h1
    exact (r.rc.fz n x a h1' h2').mono sg
  · obtain ⟨x, e1, e2⟩ := r.slot i s e
    refine ⟨x, e1, ?_⟩
    cases s with
    | t y => exact Rep.mono sg e2
    | loc j =>
      obtain ⟨a, z1, z2⟩ := e2
      obtain ⟨x0, y1, a0, y2, y3⟩ := r0.slot i _ e
      refine ⟨a, ?_, z2⟩
      show (w.as.take μ.length)[j]? = some a
      rw [List.getElem?_take_of_lt (by rw [← r0.rc.len]; exact lt_of_get y2)]
      exact z1
    | own o =>
      obtain ⟨a, z1, z2, z3⟩ := e2
      exact ⟨a, z1, os a i z2, z3.keep sg fun _ z => z⟩
    | exc c fs => trivial
theorem plainD_at {K : PySem.W.Frag} {w : Wd} : ∀ {l : List (Key × Fv)} {ts : List (Key × T)} {m : List (Key × V)}, plainD l = some ts → Paired (PvR K cl w) l m → RepD K cl w.G ts m
  | [], _, _, h, .nil => by cases h; exact .nil
  | (k, .t x) :: r, ts, _, h, .cons (b := q) a b => by
    unfold plainD at h
    cases e : plainD r with
    | none => rw [e] at h; cases h
    | some z =>
      rw [e] at h
      cases h
      obtain ⟨j, v⟩ := q
      cases (show k = j from a.1)
      exact .cons a.2 (plainD_at e b)
  | (_, .loc _) :: _, _, _, h, _ => by cases h
theorem plainE_at {K : PySem.W.Frag} {w : Wd} : ∀ {l : List (List Key × Fv)} {ts : List (List Key × T)} {m : List (List Key × V)}, plainD l = some ts → Paired (PvR K cl w) l m → RepE K cl w.G ts m
  | [], _, _, h, .nil => by cases h; exact .nil
  | (k, .t x) :: r, ts, _, h, .cons (b := q) a b => by
    unfold plainD at h
    cases e : plainD r with
    | none => rw [e] at h; cases h
    | some z =>
      rw [e] at h
      cases h
      obtain ⟨j, v⟩ := q
      cases (show k = j from a.1)
      exact .cons a.2 (plainE_at e b)
  | (_, .loc _) :: _, _, _, h, _ => by cases h
theorem thawC_at {K : PySem.W.Frag} {w w3 : Wd} {m : List Cell} {H : Hp} {n : Nat} (r : Rc K cl w m H) (sg : Same w.G w3.G) (hg : ∀ a k, w.ω a = some (.cell k) → ¬ k < n → w3.G a = H a) {j : Nat} {t : T} {v : V} (h : thawC m n j = some t) (hv : FvR K cl w (.loc j) v) : Rep K cl w3.G t v := by
  obtain ⟨a, ha, rfl⟩ := hv
  unfold thawC at h
  split at h
  · cases h
  · rename_i hj
    split at h
    · rename_i xs e
      obtain ⟨o, vs, e2, q⟩ := r.cell j _ a e ha rfl
      cases ep : plains xs with
      | none => rw [ep] at h; cases h
      | some ts =>
        rw [ep] at h
        cases h
        exact .lst ((hg a j o hj).trans e2) ((plains_reps ep q).mono sg)
    · rename_i kvs e
      obtain ⟨o, vs, e2, q⟩ := r.cell j _ a e ha rfl
      cases ep : plainD kvs with
      | none => rw [ep] at h; cases h
      | some ts =>
        rw [ep] at h
        cases h
        exact .dic ((hg a j o hj).trans e2) ((plainD_at ep q).mono sg)
    · rename_i kvs e
      obtain ⟨o, vs, e2, q⟩ := r.cell j _ a e ha rfl
      cases ep : plainD kvs with
      | none => rw [ep] at h; cases h
      | some ts =>
        rw [ep] at h
        cases h
        exact .dit ((hg a j o hj).trans e2) ((plainE_at ep q).mono sg)
    · rename_i x e
      cases h
      exact (r.fz j _ a e ha).mono sg
    · cases h
theorem thawF_at {K : PySem.W.Frag} {w w3 : Wd} {m : List Cell} {H : Hp} {n : Nat} (r : Rc K cl w m H) (sg : Same w.G w3.G) (hg : ∀ a k, w.ω a = some (.cell k) → ¬ k < n → w3.G a = H a) : ∀ {l : List (Str × Fv)} {ts : List (Str × T)} {vs : List (Str × V)}, thawF m n l = some ts → Paired (PvR K cl w) l vs → RepF K cl w3.G ts vs
  | [], _, _, h, .nil => by cases h; exact .nil
  | (k, .t x) :: rr, ts, _, h, .cons (b := q) a b => by
    unfold thawF at h
    cases e : thawF m n rr with
    | none => rw [e] at h; cases h
    | some z =>
      rw [e] at h
      cases h
      obtain ⟨j, v⟩ := q
      cases (show k = j from a.1)
      exact .cons (Rep.mono sg a.2) (thawF_at r sg hg e b)
  | (k, .loc j) :: rr, ts, _, h, .cons (b := q) a b => by
    unfold thawF at h
    split at h
    · rename_i x z e1 e2
      cases h
      obtain ⟨j', v⟩ := q
      cases (show k = j' from a.1)
      exact .cons (thawC_at r sg hg e1 a.2) (thawF_at r sg hg e2 b)
    · cases h
/-- run_make, where what is raised is wished for at the caller's slots -/
theorem run_makeS {CX : CXT} {k : Nat} {f C : Addr} {fd : FuncData} {ps : List Str} {sp : Sp} {E : XK} {pins : List (Addr × Obj)} {σ : L2.St} {H : Hp} {s : Shared} {Q : VK} {us : List Value} {vs : List V} (M : Mk X.K C f) (F : FnOk X.prog X.w X.K X.mg X.base CX k f fd ps sp) (hr : Room (k + 1) X.A) (hb : Binds X.K fd ps [])
    (hx : PassesAt CX X σ E) (I : Inv X pins σ H s) (r : Vals vs us)
    (h : ∀ x dx, H x = none → H dx = none → dx ≠ x → sp (.ref x :: vs) (upd (upd H dx (.own x)) x (.ins C dx [])) (fun v H2 => v = .non ∧ Q (.ref x) H2) E) :
    wpAny (model X.prog X.w) X.A (call (.ref C) us) (EP X pins σ Q) X.xe s := by
  have hq := h (s.heap.objs.size + 1) s.heap.objs.size (I.hok.fresh (Nat.le_succ _)) (I.hok.fresh (Nat.le_refl _)) (Nat.ne_of_lt (Nat.lt_succ_self _))
  have I2 := Inv.made (C := C) I
  have r2 : Vals (V.ref (s.heap.objs.size + 1) :: vs) (Value.ref (s.heap.objs.size + 1) :: us) := .cons rfl r
  have hl : (Value.ref (s.heap.objs.size + 1) :: us ++ []).length = ps.length := by
    have e := r2.length
    rw [F.len _ _ _ _ hq] at e
    rw [List.append_nil]
    exact e.symm
  refine wpAny_call (make_map (f := f) I.kIn M.makes M.init (beq_iff_eq.mp M.fn) (codeAny_mono (F.run _ X.stack _ _ ⟨Value.ref (s.heap.objs.size + 1) :: us, []⟩ (Value.ref (s.heap.objs.size + 1) :: us) _ _ E (hr.make C us [])
    (I2.env0.make C us []) (by have := hb _ (Value.ref (s.heap.objs.size + 1) :: us) I2.kIn hl; rw [List.append_nil] at this; exact this) r2 hq) fun r s' hq' => ?_))
  cases r with
  | error e => exact hx pins _ _ e s' I2 hq'
  | ok fl =>
    cases fl with
    | ret u =>
      obtain ⟨v, H', I3, rv, ev, q3⟩ := I2.after hq'
      subst ev
      exact ⟨rv, ⟨V.ref (s.heap.objs.size + 1), H', I3, rfl, q3⟩⟩
    | next => exact False.elim hq'
    | brk => exact False.elim hq'
    | cont => exact False.elim hq'
theorem de_make {k : Nat} {f C : Addr} {fd : FuncData} {ps : List Str} {F : DFun} {x c : Str} {p pos : Pos} {e : Expr} {es : List Expr} {fa : M (List Val)} (hC : cl c = some C) (Mm : Mk X.K C f) (G : FnOk X.prog X.w X.K X.mg X.base (L2.CX X.prog X.w) k f fd ps (spD cl X.K ps.length F)) (hr : Room (k + 1) X.A) (hg : Gl X x) (hm : X.mg x = some (.ref C)) (hb : Binds X.K fd ps []) (hdb : (x == ("__debug__" : Str)) = false)
    (he : starEach (e :: es) X.env = (false, eval e X.env) :: starEach es X.env) (hpl : (backTo pos (starEach es X.env)).any (·.1) = false) {n : Nat} (hn : n + 1 = ps.length) (hla : Len n fa) (ha : DA cl X (e :: es) fa) :
    DE cl X (.Call (.Name x p) (e :: es) [] pos) (bnd fa fun vs => bnd (asFvs vs) fun fs => mkObj c F fs) := fun W cw w st σ H Q ou st' r h pp => by
  intro pins s I
  refine wpAny_Call_Name_kw (ld_glob I hg hm ?_ hdb)
  rcases bnd_some h with ⟨c, fs, h2, rfl⟩ | ⟨vs, st2, h2, h3⟩
  · exact PySem.W.callWith_K (h₀ := X.base) I.ok.mod.kin Mm.kp (thn (ha W cw w st σ H (fun _ _ => False) _ st' r h2 pp.exc pos pins s I) fun us s1 ⟨_, _, _, _, z⟩ => z.elim) he hpl
  · refine PySem.W.callWith_K (h₀ := X.base) I.ok.mod.kin Mm.kp (thn (ha W cw w st σ H (fun xs H1 => ∃ w1, Le w H w1 H1 ∧ R X.K cl w1 st2 σ H1 ∧ Paired (VR X.K cl w1 σ) vs xs) _ st2 r h2 (fun w1 H1 l1 r1 xs hxs => ⟨w1, l1, r1, hxs⟩) pos pins s I) fun us s1 ⟨xs, H1, I1, rv, w1, l1, r1, hxs⟩ => ⟨I1.kIn, ?_⟩) he hpl
    rcases bnd_some h3 with ⟨c, fs, h4, rfl⟩ | ⟨fs, st3, h4, h5⟩
    · obtain ⟨fs, w', z, _⟩ := asFvs_at r1 hxs h4
      cases z
    · obtain ⟨fs', w2, z, l2, r2, q2⟩ := asFvs_at r1 hxs h4
      cases z
      have hlen : fs.length + 1 = ps.length := by rw [q2.length, ← hxs.length, hla _ _ _ h2]; exact hn
      have l12 := l1.trans l2
      refine run_makeS (E := fun c d H' => W c d σ H') Mm G hr hb (passAt cw.tk σ) I1 rv fun y dx hy hdx hne => ?_
      -- the new instance is a cell
      obtain ⟨gdx, odx⟩ := r2.free hdx
      have r3 : R X.K cl w2 st3 σ (upd H1 dx (.own y)) := r2.swap gdx odx fun a ha => upd_ne ha
      have l3 : Le w2 H1 w2 (upd H1 dx (.own y)) := (Le.refl w2 H1).swap hdx fun a ha => upd_ne ha
      obtain ⟨w4, e4, eG, l4, r4⟩ := r3.newC (c := .ins c []) (ho := .ins C dx []) (a := y) (by rw [upd_ne (Ne.symm hne)]; exact hy) rfl fun w' H2 _ _ e => ⟨C, dx, [], hC, e, .nil⟩
      have l24 := l3.trans l4
      unfold mkObj at h5
      -- its end
      have fin : ∀ {o1 : Out Ret} {m : List Cell}, F (.loc st3.μ.length :: fs) (st3.μ ++ [.ins c []]) = some (o1, m) → Cell.sms (m.take st3.μ.length) st3.μ = true →
          (∀ w5 H5 w6, Le w4 (upd (upd H1 dx (.own y)) y (.ins C dx [])) w5 H5 → R X.K cl w5 ⟨st3.δ, m⟩ σ H5 → Le w2 H1 w6 H5 → R X.K cl w6 st3 σ H5 → Same w5.G w6.G → (∀ a k, w5.ω a = some (.cell k) → ¬ k < st3.μ.length → w6.G a = H5 a) →
            match o1 with
            | .ok (.val v) => v = .t .non ∧ Q (.ref y) H5
            | .ok (.own _) => False
            | .exc c fs => ∀ cv d, ExR X.K cl w5 H5 c fs cv d → W cv d σ H5) →
          spD cl X.K ps.length F (.ref y :: xs) (upd (upd H1 dx (.own y)) y (.ins C dx [])) (fun v H2 => v = .non ∧ Q (.ref y) H2) (fun c d H' => W c d σ H') := fun {o1 m} eF hs kk => by
        refine call_end (W := W) (X := X) r4 (args := .loc st3.μ.length :: fs) (.cons ⟨y, e4, rfl⟩ (q2.mono fun _ _ z => z.mono l24.as l24.g)) hlen (o := o1) (st' := ⟨st3.δ, m⟩) ?_ ?_
        · unfold callF
          rw [eF]
          cases o1 <;> rfl
        · cases o1 with
          | ok v =>
            intro w5 H5 l5 r5
            obtain ⟨w6, a1, a2, a3, a4⟩ := R.thaw (w0 := w2) (H0 := H1) (δ := st3.δ) (μ := st3.μ) r2 (l24.trans l5) r5 hs
            have := kk w5 H5 w6 l5 r5 a1 a2 a3 a4
            cases v with
            | val v =>
              obtain ⟨z1, z2⟩ := this
              subst z1
              intro x' hx'
              cases hx'
              exact ⟨rfl, z2⟩
            | own v => exact this.elim
          | exc c fs =>
            intro w5 H5 cv d l5 r5 hx
            obtain ⟨w6, a1, a2, a3, a4⟩ := R.thaw (w0 := w2) (H0 := H1) (δ := st3.δ) (μ := st3.μ) r2 (l24.trans l5) r5 hs
            exact kk w5 H5 w6 l5 r5 a1 a2 a3 a4 cv d hx
      split at h5
      · rename_i m eF
        split at h5
        · rename_i hs
          split at h5
          · rename_i d l em
            split at h5
            · rename_i ts et
              cases h5
              refine fin eF hs fun w5 H5 w6 l5 r5 a1 a2 a3 a4 => ⟨rfl, ?_⟩
              refine pp w6 H5 (l12.trans a1) a2 (.ref y) ?_
              have e5 := pre_get l5.as e4
              obtain ⟨o5, C5, dx5, v5, k1, k2, k3⟩ := r5.rc.cell _ _ y em e5 rfl
              exact .obj k1 ((a4 y _ o5 (Nat.lt_irrefl _)).trans k2) (thawF_at r5.rc a3 a4 et k3)
            · cases h5
          · cases h5
        · cases h5
      · rename_i d l m eF
        split at h5
        · rename_i hs
          cases h5
          refine fin eF hs fun w5 H5 w6 l5 r5 a1 a2 a3 a4 cv dd hx => ?_
          refine pp w6 H5 cv dd (l12.trans a1) a2 ?_
          obtain ⟨C5, k1, k2, k3⟩ := hx
          refine ⟨C5, k1, k2, ?_⟩
          rcases k3 with k3 | ⟨d5, vs5, k3, k4, k5⟩
          · exact .inl k3
          · exact .inr ⟨d5, vs5, k3, k4, k5.mono a3⟩
        · cases h5
      · cases h5
end
end Lf
namespace Lf
open PySem PySem.Spec L2
open PyProof.Rows in
section
variable {prog : Program} {w : World} {A : Around} {E : Value → Shared → Prop} {s : Shared} {r d : Addr} {n : Nat} {Ty : String} {P : Nat → Value → Prop} {OK : Heap → Prop}
theorem collect_kdl {Q : List Value → Shared → Prop} (K : PySem.W.KdlSrc prog w Ty r d n P OK) (hh : A.handled = none) (hok : OK s.heap) (hn : n ≤ sizeLine)
    (hQ : ∀ (h' : Heap) (tk : Nat) (acc : Array Value), (∀ b o, s.heap.get? b = some o → h'.get? b = some o) → ItemsOf P acc n → Q acc.toList { s with heap := h', toks := tk }) :
    wpAny (model prog w) A (collect (.ref r)) Q E s := by
  unfold collect
  refine wpAny_bind (wpAny_runValue (codeAny_builtin F.entry_proto_collect ?_))
  rw [Around.under_plainId F.plain_proto_collect _]
  show wpAny _ A.in1 (newList [] >>= fun l => again (.builtin "list.__iadd__" ⟨[l, .ref r], []⟩)) _ _ s
  refine wpAny_bind (wpAny_newObj_type ?_)
  refine wpAny_pure ⟨plainId_quiet F.plain_list_iadd _, codeAny_builtin F.entry_list_iadd ?_⟩
  rw [Around.under_plainId F.plain_list_iadd _]
  show wpAny _ A.in1 (Builtin.List.listExtendWith (.ref s.heap.objs.size) (.ref r) (.ref s.heap.objs.size)) _ _ _
  have hS : (s.heap.push { cls := .type "list", data := .seq ([] : List Value).toArray }).get? s.heap.objs.size = some { cls := .type "list", data := .seq #[] 0 } := Heap.get?_push_size _ rfl
  have hlt := K.there _ hok
  refine wpAny_mono (PySem.W.kdl_extend (A := A) (R := fun rr s' => rr = .ok (.ret (.ref s.heap.objs.size)) ∧ ∃ (h' : Heap) (tk : Nat) (acc : Array Value) (c' : Nat), s' = { s with heap := h', toks := tk } ∧
      (∀ b o, s.heap.get? b = some o → h'.get? b = some o) ∧ h'.get? s.heap.objs.size = some { cls := .type "list", dict := none, data := .seq acc c', slots := #[] } ∧ ItemsOf P acc n)
    (s := { s with heap := s.heap.push { cls := .type "list", data := .seq ([] : List Value).toArray } }) K hh (K.keep _ _ hok fun b _ o e => Heap.get?_push_of_some _ e) _ (Nat.ne_of_gt hlt.1) (Nat.ne_of_gt hlt.2) _ 0 hS
    (fun h' tk acc c' hk e hi => ⟨rfl, h', tk, acc, c', rfl, fun b o q => hk b o (Nat.ne_of_lt (Heap.lt_size q)) (Heap.get?_push_of_some _ q), e, hi⟩) hn) (fun fin s' h => ?_) (fun e s' h => ?_)
  · cases fin with
    | done f =>
      obtain ⟨e, h', tk, acc, c', rfl, hk, hS', hi⟩ := h
      cases e
      show wpAny _ A (load s.heap.objs.size >>= _) _ _ _
      exact wpAny_bind (wpAny_load hS' (wpAny_pure (hQ h' tk acc hk hi)))
    | again c' =>
      refine ⟨h.1, codeAny_mono h.2 fun rr s'' hr' => ?_⟩
      obtain ⟨rfl, h', tk, acc, c', rfl, hk, hS', hi⟩ := hr'
      show wpAny _ A (load s.heap.objs.size >>= _) _ _ _
      exact wpAny_bind (wpAny_load hS' (wpAny_pure (hQ h' tk acc hk hi)))
  · exact absurd h.1 (by simp)
theorem code_tuple_new_kdl {Q₁ : Value → Shared → Prop} (K : PySem.W.KdlSrc prog w Ty r d n P OK) (hh : A.handled = none) (hok : OK s.heap) (hn : n ≤ sizeLine) (hT : s.TypeIs (.ref r) Ty)
    (h : ∀ (h' : Heap) (tk : Nat) (acc : Array Value), (∀ b o, s.heap.get? b = some o → h'.get? b = some o) → ItemsOf P acc n →
      Q₁ (.ref h'.objs.size) { s with heap := h'.push { cls := .type "tuple", data := .seq acc }, toks := tk }) :
    codeAny (model prog w) A (.call (.builtin "tuple.__new__") ⟨[.type "tuple", .ref r], []⟩) (wants Q₁ E) s := by
  refine codeAny_of_tree ?_
  show wpAny _ A.in1 (do checkBuiltinCall "tuple.__new__" ⟨[.type "tuple", .ref r], []⟩; again (.builtin "tuple.__new__" ⟨[.type "tuple", .ref r], []⟩)) _ _ s
  refine wpAny_bind (wpAny_of_eq (F.newCall_tuple_1 _) (wpAny_pure ⟨plainId_quiet F.plain_tuple_new _, codeAny_builtin F.entry_tuple_new ?_⟩))
  rw [Around.under_plainId F.plain_tuple_new _]
  have hsub := sub_tuple_self
  have hinit := init_tuple_lookup
  have hmh := madeHere_tuple
  have hTI : s.TypeIs (.ref r) Ty := hT
  have hh1 : A.in1.handled = none := hh
  have hnt := K.notTuple
  wp_walk using wpAny_typeOf hTI, collect_kdl (A := A.in1) K hh1 hok hn
  intro h' tk acc hk hacc
  show wpAny _ _ (Builtin.Tuple.tupleExact acc.toList.toArray >>= fun v => PySem.ret v) _ _ _
  unfold Builtin.Tuple.tupleExact
  refine wpAny_bind (wpAny_newObj_type ?_ (by show acc.toList.toArray.size ≤ sizeLine; simp only [Array.toArray_toList]; rw [hacc.1]; exact hn))
  refine wpAny_pure ?_
  have e : acc.toList.toArray = acc := by simp
  rw [e]
  exact h h' tk acc hk hacc
theorem call_tuple_kdl {Q : Value → Shared → Prop} (K : PySem.W.KdlSrc prog w Ty r d n P OK) (hh : A.handled = none) (hok : OK s.heap) (hn : n ≤ sizeLine)
    (hQ : ∀ (h' : Heap) (tk : Nat) (acc : Array Value), (∀ b o, s.heap.get? b = some o → h'.get? b = some o) → ItemsOf P acc n →
      Q (.ref h'.objs.size) { s with heap := h'.push { cls := .type "tuple", data := .seq acc }, toks := tk }) :
    wpAny (model prog w) A (call (.type "tuple") [.ref r]) Q E s := by
  refine callType_codes (Q₁ := fun obj s₁ => s₁.TypeIs obj "tuple" ∧ Q obj s₁) F.called_tuple (F.typeCall_tuple_1 _) F.entry_object_init
    (code_tuple_new_kdl (A := A.in1) K hh hok hn (K.type _ hok) fun h' tk acc hk hacc => ⟨⟨_, Heap.get?_push_size _ rfl, rfl⟩, hQ h' tk acc hk hacc⟩) fun obj s₁ h₁ => ?_
  exact ⟨h₁.1, F.args_object_init_2 obj _, object_init_meets F.called_tuple.init.lookup F.called_tuple.made (by decide) prog w A.in1 _ s₁ ⟨h₁.1, rfl, h₁.2⟩⟩
end
section
variable {cl : Cl} {X : Cx}
/-- tuple(d): the keys -/
theorem call_tuple_dK (hc : X.calm = true) : CallR X (.type "tuple") (fun xs H Q => ∃ p kvs, xs = [.ref p] ∧ Rd H p (.dK kvs) ∧ ∀ q, H q = none → Q (.ref q) (upd H q (.tup (kvs.map fun kv => kV kv.1)))) := by
  intro pins s σ H xs us Q I r h
  obtain ⟨p, kvs, e, hk, q⟩ := h
  subst e
  obtain ⟨u, eu, rx⟩ := vals1 r
  subst eu
  obtain rfl : u = Value.ref p := rx
  obtain ⟨z, lo, vs, rk, hd⟩ := (show ObjOk X.prog X.w H s.heap p (.dK kvs) from hk.ok I.hok)
  obtain ⟨ep, hat⟩ := hd.dictAt
  have hl : kvs.length = vs.length := Paired.length rk
  refine call_tuple_kdl (PySem.W.kdl_dict (knd := mixKind X.prog X.w) (kvs := vs) (ep := ep) lo) (I.ok.hd hc) hat (by rw [← hl]; exact z) fun h' tk acc' hkeep hacc => ?_
  have I2 : Inv X pins σ H { s with heap := h', toks := tk } := I.kept hkeep
  refine ⟨.ref h'.objs.size, upd H h'.objs.size (.tup (kvs.map fun kv => kV kv.1)), I2.laid (t' := tk) (fun c o e => Heap.get?_push_of_some _ e) (Nat.le_refl _) (show ObjOk X.prog X.w _ _ _ (.tup (kvs.map fun kv => kV kv.1)) from ⟨?_, acc'.toList, ?_, ?_⟩), rfl, q _ (I2.hok.fresh (Nat.le_refl _))⟩
  · rw [List.length_map]; exact z
  · have el : acc'.toList.length = acc'.size := by simp
    refine vals_of_at (by rw [List.length_map, el, hacc.1, hl]) fun j x w h1 h2 => ?_
    obtain ⟨k, y, hky, hi⟩ := hacc.2 j w (by rw [← Array.getElem?_toList]; exact h2)
    have e1 : (kvs.map (·.1))[j]? = some k := by
      rw [KV.keys rk, List.getElem?_map, hky] <;> rfl
    have e2 : (kvs.map fun kv => kV kv.1)[j]? = some (kV k) := by
      have e3 : (kvs.map fun kv => kV kv.1) = (kvs.map (·.1)).map kV := by rw [List.map_map] <;> rfl
      rw [e3, List.getElem?_map, e1] <;> rfl
    rw [e2] at h1
    cases h1
    exact keyIs_rel hi
  · rw [Array.toArray_toList]; exact PyProof.Rows.IsTup.new _ _
def keyTree : Key → T
  | .inl i => .int i
  | .inr x => .str x
theorem keys_reps {K : PySem.W.Frag} {G : Hp} : ∀ ks : List Key, Reps K cl G (ks.map keyTree) (ks.map kV)
  | [] => .nil
  | .inl i :: r => .cons (.int i) (keys_reps r)
  | .inr x :: r => .cons (.str x) (keys_reps r)
/-- tuple(x): of a dict too -/
def dTupleD (vs : List Val) : M Val := fun s => match vs with
  | [v] => match dcK s v with
    | some kvs => some (.ok (.t (.tup (kvs.map fun p => keyTree p.1))), s)
    | none => dTuple vs s
  | _ => none
theorem dc_tupleD (hc : X.calm = true) : DC cl X (.type "tuple") dTupleD := fun W cw w st σ H Q o st' vs xs us pins s r hv h p I rv => by
  unfold dTupleD at h
  split at h
  · split at h
    · rename_i v kvs e
      cases h
      obtain ⟨x, rfl, hx⟩ := one_of hv
      obtain ⟨a, m, rfl, rd, pr⟩ := dcK_at r e hx
      refine call_tuple_dK hc pins s σ H _ us Q I rv ⟨a, m, rfl, rd, fun q hq => ?_⟩
      have e1 : (m.map fun kv => kV kv.1) = (kvs.map (·.1)).map kV := by rw [keys_pair pr, List.map_map]; rfl
      have e2 : (kvs.map fun p => keyTree p.1) = (kvs.map (·.1)).map keyTree := by rw [List.map_map]; rfl
      rw [e1]
      rw [e2] at p
      exact finT r (keys_reps _) p hq
    · exact dc_tuple W cw w st σ H Q o st' _ xs us pins s r hv h p I rv
  · cases h
/-! ### a < b < c -/
theorem chain_at {op op' : CmpOp} {g g' : Val → Val → M Val} (ho : DOp cl X (compareOp op) g) (ho' : DOp cl X (compareOp op') g') {a b c : Expr} {fa fb fc : M Val} (ha : DE cl X a fa) (hb : DE cl X b fb) (hc : DE cl X c fc) {W : WX} (cw : Cw X W) {w : Wd} {st st' : DSt} {σ : L2.St} {H : Hp} {Q : VK} {o : Out Val} (r : R X.K cl w st σ H)
    (h : dChain g g' fa fb fc st = some (o, st')) (p : Post cl X W σ w H o st' (fun v w' H' => ∀ x, VR X.K cl w' σ v x → Q x H')) :
    WE X a σ H fun x H1 => WE X b σ H1 fun y H2 => ∀ (pins : List (Addr × Obj)) (s : Shared) (u v : Value), Inv X pins σ H2 s → RelV x u → RelV y v → wpAny (model X.prog X.w) X.A (compareOp op u v) (EP X pins σ fun z H3 => ∃ k, z = .bl k ∧
      (if k = true then WE X c σ H3 fun x2 H4 => ∀ (pins : List (Addr × Obj)) (s : Shared) (u v : Value), Inv X pins σ H4 s → RelV y u → RelV x2 v → wpAny (model X.prog X.w) X.A (compareOp op' u v) (EP X pins σ Q) X.xe s else Q (.bl false) H3)) X.xe s := by
  unfold dChain at h
  rcases bnd_some h with ⟨c, fs, h1, rfl⟩ | ⟨va, st1, h1, h2⟩
  · exact ha W cw w st σ H _ _ st' r h1 p
  · refine ha W cw w st σ H _ _ st1 r h1 fun w1 H1 l1 r1 x hx => ?_
    rcases bnd_some h2 with ⟨c, fs, h3, rfl⟩ | ⟨vb, st2, h3, h4⟩
    · exact hb W cw w1 st1 σ H1 _ _ st' r1 h3 (p.after l1)
    · refine hb W cw w1 st1 σ H1 _ _ st2 r1 h3 fun w2 H2 l2 r2 y hy => ?_
      intro pins s u v I ru rv
      have l12 := l1.trans l2
      rcases bnd_some h4 with ⟨c, fs, h5, rfl⟩ | ⟨vz, st3, h5, h6⟩
      · exact ho W cw w2 st2 σ H2 _ _ st' va vb x y u v pins s r2 (hx.le l2) hy h5 (p.after l12) I ru rv
      · refine ho W cw w2 st2 σ H2 _ _ st3 va vb x y u v pins s r2 (hx.le l2) hy h5 (fun w3 H3 l3 r3 z hz => ?_) I ru rv
        obtain ⟨k, rfl, h7⟩ := bl_bnd h6
        cases hz
        refine ⟨k, rfl, ?_⟩
        cases k with
        | false =>
          refine iteF ?_
          have h7 : ret (.t (.bl false)) st3 = some (o, st') := h7
          cases h7
          exact p w3 H3 (l12.trans l3) r3 _ (.bl _)
        | true =>
          refine iteT ?_
          rcases bnd_some (show bnd fc (fun c => g' vb c) st3 = some (o, st') from h7) with ⟨c, fs, h8, rfl⟩ | ⟨vc, st4, h8, h9⟩
          · exact hc W cw w3 st3 σ H3 _ _ st' r3 h8 (p.after (l12.trans l3))
          · refine hc W cw w3 st3 σ H3 _ _ st4 r3 h8 fun w4 H4 l4 r4 x2 hx2 => ?_
            intro pins s u v I ru rv
            exact ho' W cw w4 st4 σ H4 Q o st' vb vc y x2 u v pins s r4 ((hy.le l3).le l4) hx2 h9 (p.after (l12.trans (l3.trans l4))) I ru rv
theorem de_chain {op op' : CmpOp} {g g' : Val → Val → M Val} {a b c : Expr} {pos : Pos} {fa fb fc : M Val} (ho : DOp cl X (compareOp op) g) (ho' : DOp cl X (compareOp op') g') (hm : lastMarks [op, op'] [b, c] = false) (ha : DE cl X a fa) (hb : DE cl X b fb) (hc : DE cl X c fc) : DE cl X (.Compare a [op, op'] [b, c] pos) (dChain g g' fa fb fc) := fun W cw w st σ H Q o st' r h p => by
  intro pins s I
  have q := chain_at ho ho' ha hb hc cw r h p
  refine PyProof.Rows.Compare_chain (thn (q pins s I) fun v s1 ⟨x, H1, I1, r1, q1⟩ => PyProof.Rows.chain_link (thn (q1 pins s1 I1) fun u s2 ⟨y, H2, I2, r2, q2⟩ =>
    thn (q2 pins s2 v u I2 r1 r2) fun d s3 ⟨z, H3, I3, r3, k, e, q3⟩ => ?_)) hm
  subst e
  cases r3
  refine wpAny_truthy_bool ?_
  cases k with
  | false => exact PyProof.Rows.ite_ff ⟨.bl false, H3, I3, rfl, q3⟩
  | true => exact PyProof.Rows.ite_tt (PyProof.Rows.chain_last (thn (q3 pins s3 I3) fun w' s4 ⟨z', H4, I4, r4, q4⟩ => q4 pins s4 u w' I4 r2 r4))
theorem dt_chain {op op' : CmpOp} {g g' : Val → Val → M Val} {a b c : Expr} {pos : Pos} {fa fb fc : M Val} (ho : DOp cl X (compareOp op) g) (ho' : DOp cl X (compareOp op') g') (hm : lastMarks [op, op'] [b, c] = false) (ha : DE cl X a fa) (hb : DE cl X b fb) (hc : DE cl X c fc) : DT cl X (.Compare a [op, op'] [b, c] pos) (bnd (dChain g g' fa fb fc) asBl) := fun W cw w st σ H Q o st' r h p => by
  intro pins s I
  obtain ⟨o1, st1, h1, p1⟩ : ∃ o1 st1, dChain g g' fa fb fc st = some (o1, st1) ∧ Post cl X W σ w H o1 st1 (fun v w' H' => ∀ x, VR X.K cl w' σ v x → ∃ k, x = .bl k ∧ Q k H') := by
    rcases bnd_some h with ⟨c', fs, h1, rfl⟩ | ⟨v, st1, h1, h2⟩
    · exact ⟨_, _, h1, p.exc⟩
    · obtain ⟨b', rfl, rfl, rfl⟩ := asBl_some h2
      refine ⟨_, _, h1, fun w1 H1 l1 r1 x hx => ?_⟩
      cases hx
      exact ⟨b', rfl, p w1 H1 l1 r1⟩
  have q := chain_at (Q := fun x H' => ∃ k, x = .bl k ∧ Q k H') ho ho' ha hb hc cw r h1 p1
  refine PyProof.Rows.isTrue_chain (thn (q pins s I) fun v s1 ⟨x, H1, I1, r1, q1⟩ => PyProof.Rows.test_link (thn (q1 pins s1 I1) fun u s2 ⟨y, H2, I2, r2, q2⟩ =>
    thn (q2 pins s2 v u I2 r1 r2) fun d s3 ⟨z, H3, I3, r3, k, e, q3⟩ => ?_)) hm
  subst e
  cases r3
  refine wpAny_truthy_bool ?_
  cases k with
  | false =>
    obtain ⟨k', e', q'⟩ := q3
    cases e'
    exact PyProof.Rows.ite_ff ⟨H3, I3, q'⟩
  | true =>
    refine PyProof.Rows.ite_tt (PyProof.Rows.test_last (thn (q3 pins s3 I3) fun w' s4 ⟨z', H4, I4, r4, q4⟩ => thn (q4 pins s4 u w' I4 r2 r4) fun d' s5 ⟨z2, H5, I5, r5, k2, e2, q5⟩ => ?_))
    subst e2
    cases r5
    exact wpAny_truthy_bool ⟨H5, I5, q5⟩
end
end Lf
namespace Lf
open PySem PySem.Spec L2
section
variable {cl : Cl} {X : Cx}
/-! ### a cell stands still from then on -/
theorem R.freezeC {K : PySem.W.Frag} {w : Wd} {st : DSt} {σ : L2.St} {H : Hp} (r : R K cl w st σ H) {n : Nat} {c : Cell} {a : Addr} {ho : HO} {x : T} (e : st.μ[n]? = some c) (ha : w.as[n]? = some a) (hl : c.live = true) (hH : H a = some ho) (hx : ∀ G', Same w.G G' → G' a = some ho → Rep K cl G' x (.ref a)) :
    ∃ w', Le w H w' H ∧ R K cl w' { st with μ := st.μ.set n (.fz x) } σ H ∧ Rep K cl w'.G x (.ref a) := by
  obtain ⟨oa, _⟩ := r.rc.cell n c a e ha hl
  obtain ⟨ga, na⟩ := r.rc.own a _ oa
  let w' : Wd := { w with G := upd w.G a ho, ω := fun b => if b = a then none else w.ω b }
  have sg : Same w.G w'.G := fun b u q => by
    show upd w.G a ho b = some u
    rw [upd_ne (ne_of_none q ga)]; exact q
  have rp : Rep K cl w'.G x (.ref a) := hx _ sg upd_same
  have hne : ∀ {b o'}, w.ω b = some o' → o' ≠ .cell n → b ≠ a := fun {b o'} q q' z => by rw [z, oa] at q; cases q; exact q' rfl
  refine ⟨w', ⟨List.prefix_refl _, sg, fun b q _ => ?_, fun b u _ q => q, fun b q _ => ?_⟩, ⟨⟨fun b u q => ?_, by rw [List.length_set]; exact r.rc.len, fun m c2 b q1 q2 q3 => ?_, fun b u q => ?_, fun m y b q1 q2 => ?_⟩, r.slen, fun j s q => ?_⟩, rp⟩
  · show (if b = a then none else w.ω b) = none
    split
    · rfl
    · exact q
  · show upd w.G a ho b = w.G b
    exact upd_ne fun z => by rw [z, oa] at q; cases q
  · by_cases hb : b = a
    · subst hb
      have q' : upd w.G b ho b = some u := q
      rw [upd_same] at q'
      cases q'
      exact .inl hH
    · have q' : upd w.G a ho b = some u := q
      rw [upd_ne hb] at q'
      exact r.rc.sub b u q'
  · have q1' : (st.μ.set n (.fz x))[m]? = some c2 := q1
    by_cases hm : n = m
    · subst hm
      rw [List.getElem?_set_self (lt_of_get e)] at q1'
      cases q1'
      cases q3
    · rw [List.getElem?_set_ne hm] at q1'
      obtain ⟨x1, x2⟩ := r.rc.cell m c2 b q1' q2 q3
      have hb := hne x1 (fun z => by cases z; exact hm rfl)
      refine ⟨?_, CellR.keep (w := w) (w' := w') (List.prefix_refl _) sg (fun _ z => z) x2⟩
      show (if b = a then none else w.ω b) = _
      rw [if_neg hb]; exact x1
  · have q' : (if b = a then none else w.ω b) = some u := q
    by_cases hb : b = a
    · rw [if_pos hb] at q'; cases q'
    · rw [if_neg hb] at q'
      refine ⟨?_, (r.rc.own b u q').2⟩
      show upd w.G a ho b = none
      rw [upd_ne hb]; exact (r.rc.own b u q').1
  · have q1' : (st.μ.set n (.fz x))[m]? = some (Cell.fz y) := q1
    by_cases hm : n = m
    · subst hm
      rw [List.getElem?_set_self (lt_of_get e)] at q1'
      cases q1'
      rw [ha] at q2
      cases q2
      exact rp
    · rw [List.getElem?_set_ne hm] at q1'
      exact (r.rc.fz m y b q1' q2).mono sg
  · obtain ⟨y, y1, y2⟩ := r.slot j s q
    refine ⟨y, y1, ?_⟩
    cases s with
    | t z => exact Rep.mono sg y2
    | loc n => exact y2
    | own o' =>
      obtain ⟨b, z1, z2, z3⟩ := y2
      have hb := hne z2 (fun z => by cases z)
      refine ⟨b, z1, ?_, z3.keep sg fun _ z => z⟩
      show (if b = a then none else w.ω b) = _
      rw [if_neg hb]; exact z2
    | exc c fs => trivial
/-- a dict that is walked -/
def stillD (v : Val) : M (List (Key × T)) := fun s => match v with
  | .t (.dic kvs) => some (.ok kvs, s)
  | .loc n => match s.μ[n]? with
    | some (.dic false kvs) => match plainD kvs with
      | some ts => some (.ok ts, { s with μ := s.μ.set n (.fz (.dic ts)) })
      | none => none
    | some (.fz (.dic kvs)) => some (.ok kvs, s)
    | _ => none
  | .sl i => match s.δ[i]? with
    | some (some (.own (.dic _ kvs))) => some (.ok kvs, { s with δ := s.δ.set i (some (.t (.dic kvs))) })
    | some (some (.t (.dic kvs))) => some (.ok kvs, s)
    | _ => none
  | _ => none
theorem stillD_at {K : PySem.W.Frag} {w : Wd} {st st' : DSt} {σ : L2.St} {H : Hp} (r : R K cl w st σ H) {v : Val} {x : V} {o : Out (List (Key × T))} (hv : VR K cl w σ v x) (h : stillD v st = some (o, st')) : ∃ kvs w', o = .ok kvs ∧ Le w H w' H ∧ R K cl w' st' σ H ∧ Rep K cl w'.G (.dic kvs) x := by
  unfold stillD at h
  split at h
  · cases h; exact ⟨_, w, rfl, Le.refl _ _, r, hv⟩
  · rename_i n
    obtain ⟨a, ha, rfl⟩ := hv
    split at h
    · rename_i kvs e
      split at h
      · rename_i ts et
        cases h
        obtain ⟨_, vs, e2, q⟩ := r.rc.cell n _ a e ha rfl
        obtain ⟨w', l, r', rp⟩ := r.freezeC (x := .dic ts) e ha rfl e2 fun G' sg e3 => .dic e3 ((plainD_at et q).mono sg)
        exact ⟨ts, w', rfl, l, r', rp⟩
      · cases h
    · rename_i kvs e
      cases h
      exact ⟨kvs, w, rfl, Le.refl _ _, r, r.rc.fz n _ a e ha⟩
    · cases h
  · rename_i i
    split at h
    · rename_i lk kvs e
      cases h
      obtain ⟨a, w', e1, l, r', rp⟩ := r.freeze e
      rw [show σ[i]? = some (some x) from hv] at e1
      cases e1
      exact ⟨kvs, w', rfl, l, r', rp⟩
    · rename_i kvs e
      cases h
      obtain ⟨z, e1, q⟩ := r.slot i _ e
      rw [show σ[i]? = some (some x) from hv] at e1
      cases e1
      exact ⟨kvs, w, rfl, Le.refl _ _, r, q⟩
    · cases h
  · cases h
/-- behind the walk what was locked is as it was -/
def unl (X : Cx) (P : Hp → Prop) : Hp → Prop := fun H => P H ∨ ∃ d od u, (∀ o' u', X.H_0 d ≠ some (.frz o' u')) ∧ H d = some (.frz od u) ∧ P (upd H d u)
theorem ws_unlock {st : Stmt} {D : Ends} {σ : L2.St} {H : Hp} (h : WS X st ⟨fun σ' => unl X (D.nx σ'), fun v => unl X (D.rt v), fun σ' => unl X (D.bk σ'), fun σ' => unl X (D.ct σ')⟩ σ H) : WS X st D σ H := fun pins s I => by
  refine thn (h pins s I) fun f s1 q => ?_
  cases f with
  | next =>
    obtain ⟨σ', H', I2, q | ⟨d, od, u, hn, e, q⟩⟩ := q
    · exact ⟨σ', H', I2, q⟩
    · exact ⟨σ', _, I2.unlock e hn, q⟩
  | brk =>
    obtain ⟨σ', H', I2, q | ⟨d, od, u, hn, e, q⟩⟩ := q
    · exact ⟨σ', H', I2, q⟩
    · exact ⟨σ', _, I2.unlock e hn, q⟩
  | cont =>
    obtain ⟨σ', H', I2, q | ⟨d, od, u, hn, e, q⟩⟩ := q
    · exact ⟨σ', H', I2, q⟩
    · exact ⟨σ', _, I2.unlock e hn, q⟩
  | ret v =>
    obtain ⟨x, σ', H', I2, rr, q | ⟨d, od, u, hn, e, q⟩⟩ := q
    · exact ⟨x, σ', H', I2, rr, q⟩
    · exact ⟨x, σ', _, I2.unlock e hn, rr, q⟩
theorem cw_unlock {W : WX} (cw : Cw X W) : Cw X (fun c d σ => unl X (W c d σ)) := by
  refine ⟨fun u s' xx => ?_, cw.po⟩
  obtain ⟨a, B, sI, pins, σ, H, cls, d, e, I, nb, up, sky, na, os, ag, w | ⟨dd, od, uu, hn, e2, w⟩⟩ := xx
  · exact cw.tk u s' ⟨a, B, sI, pins, σ, H, cls, d, e, I, nb, up, sky, na, os, ag, w⟩
  · refine cw.tk u s' ⟨a, B, sI, pins, σ, upd H dd uu, cls, d, e, I.unlock e2 hn, nb, up, sky, ?_, os, ag, w⟩
    rw [upd_ne (fun z => by rw [z, e2] at na; cases na)]
    exact na
/-- the dict is locked when it has come -/
theorem pe_locked {e : Expr} : PE X e (fun σ H Q => WE X e σ H fun x H1 => ∃ d vs, x = .ref d ∧ ((∃ o, H1 d = some (.frz o (.dK vs)) ∧ Q x H1) ∨ (H1 d = some (.dK vs) ∧ ∀ od, (∀ o' u', X.H_0 d ≠ some (.frz o' u')) → Q x (upd H1 d (.frz od (.dK vs)))))) := by
  refine ⟨fun pins s σ H Q I h => thn (h pins s I) fun u s1 ⟨x, H1, I1, rx, d, vs, ex, q⟩ => ?_⟩
  rcases q with ⟨o, e1, q⟩ | ⟨e1, q⟩
  · exact ⟨x, H1, I1, rx, q⟩
  · obtain ⟨od, I2⟩ := I1.lock e1 trivial
    exact ⟨x, _, I2, rx, q od (I1.nofrz e1 trivial)⟩
def keysV (kvs : List (Key × T)) : List Val := kvs.map fun p => .t (keyTree p.1)
def dForK (fe : M Val) (g : Val → M Unit) (b : M Fl) : M Fl := bnd fe fun v => bnd (stillD v) fun kvs => forL g b (fun _ => true) (keysV kvs)
theorem RepD.at {K : PySem.W.Frag} {G : Hp} : ∀ {l : List (Key × T)} {m : List (Key × V)} {i : Nat} {p : Key × T}, RepD K cl G l m → l[i]? = some p → ∃ v, m[i]? = some (p.1, v)
  | _, _, i, p, .nil, h => by simp at h
  | _, _, 0, p, .cons _ _, h => by simp at h; subst h; exact ⟨_, rfl⟩
  | _, _, i + 1, p, .cons _ t, h => by
    obtain ⟨v, e⟩ := RepD.at (i := i) t (by simpa using h)
    exact ⟨v, by simpa using e⟩
theorem RepD.length {K : PySem.W.Frag} {G : Hp} : ∀ {l : List (Key × T)} {m : List (Key × V)}, RepD K cl G l m → l.length = m.length
  | _, _, .nil => rfl
  | _, _, .cons _ t => by rw [List.length_cons, List.length_cons, t.length]
theorem key_rep {K : PySem.W.Frag} {G : Hp} (k : Key) : Rep K cl G (keyTree k) (kV k) := by
  cases k with
  | inl i => exact .int i
  | inr x => exact .str x
/-- the world while a dict that stands still is locked -/
theorem R.locked {K : PySem.W.Frag} {w : Wd} {st : DSt} {σ : L2.St} {H : Hp} (r : R K cl w st σ H) {d : Addr} {vs : List (Key × V)} (g : w.G d = some (.dK vs)) (od : Obj) : R K cl w st σ (upd H d (.frz od (.dK vs))) := by
  have no : ∀ a o, w.ω a = some o → a ≠ d := fun a o h z => by rw [z] at h; rw [(r.rc.own d o h).1] at g; cases g
  refine ⟨⟨fun a u e => ?_, r.rc.len, fun n c a h1 h2 h3 => ?_, fun a o h => ?_, r.rc.fz⟩, r.slen, fun i s e => ?_⟩
  · by_cases hb : a = d
    · rw [hb] at e ⊢
      rw [g] at e
      cases e
      exact .inr ⟨rfl, od, upd_same⟩
    · rw [upd_ne hb]; exact r.rc.sub a u e
  · obtain ⟨x1, x2⟩ := r.rc.cell n c a h1 h2 h3
    exact ⟨x1, x2.keep (List.prefix_refl _) (Same.refl _) fun u q => by rw [upd_ne (no a _ x1)]; exact q⟩
  · refine ⟨(r.rc.own a o h).1, ?_⟩
    rw [upd_ne (no a o h)]; exact (r.rc.own a o h).2
  · obtain ⟨x, h1, h2⟩ := r.slot i s e
    refine ⟨x, h1, ?_⟩
    cases s with
    | t y => exact h2
    | loc n => exact h2
    | own q =>
      obtain ⟨a, e1, e2, e3⟩ := h2
      exact ⟨a, e1, e2, e3.keep (Same.refl _) fun u q => by rw [upd_ne (no a _ e2)]; exact q⟩
    | exc c fs => trivial
theorem R.unlocked {K : PySem.W.Frag} {w : Wd} {st : DSt} {σ : L2.St} {H : Hp} (r : R K cl w st σ H) {d : Addr} {vs : List (Key × V)} (g : w.G d = some (.dK vs)) : R K cl w st σ (upd H d (.dK vs)) := by
  have no : ∀ a o, w.ω a = some o → a ≠ d := fun a o h z => by rw [z] at h; rw [(r.rc.own d o h).1] at g; cases g
  refine ⟨⟨fun a u e => ?_, r.rc.len, fun n c a h1 h2 h3 => ?_, fun a o h => ?_, r.rc.fz⟩, r.slen, fun i s e => ?_⟩
  · by_cases hb : a = d
    · rw [hb] at e ⊢
      rw [g] at e
      cases e
      exact .inl upd_same
    · rw [upd_ne hb]; exact r.rc.sub a u e
  · obtain ⟨x1, x2⟩ := r.rc.cell n c a h1 h2 h3
    exact ⟨x1, x2.keep (List.prefix_refl _) (Same.refl _) fun u q => by rw [upd_ne (no a _ x1)]; exact q⟩
  · refine ⟨(r.rc.own a o h).1, ?_⟩
    rw [upd_ne (no a o h)]; exact (r.rc.own a o h).2
  · obtain ⟨x, h1, h2⟩ := r.slot i s e
    refine ⟨x, h1, ?_⟩
    cases s with
    | t y => exact h2
    | loc n => exact h2
    | own q =>
      obtain ⟨a, e1, e2, e3⟩ := h2
      exact ⟨a, e1, e2, e3.keep (Same.refl _) fun u q => by rw [upd_ne (no a _ e2)]; exact q⟩
    | exc c fs => trivial
theorem Le.unlocked {w w2 : Wd} {H H2 : Hp} {d : Addr} {vs : List (Key × V)} {od : Obj} (h : H d = some (.dK vs)) (l : Le w (upd H d (.frz od (.dK vs))) w2 H2) : Le w H w2 (upd H2 d (.dK vs)) := by
  have nn : ∀ a, H a ≠ none → upd H d (.frz od (.dK vs)) a ≠ none := fun a ha => by
    by_cases hb : a = d
    · rw [hb, upd_same]; exact fun z => nomatch z
    · rw [upd_ne hb]; exact ha
  refine ⟨l.as, l.g, fun a h1 h2 => l.own a h1 (nn a h2), fun a o h1 h2 => ?_, fun a h1 h2 => l.gk a h1 (nn a h2)⟩
  by_cases hb : a = d
  · rw [hb] at h2 ⊢
    rw [h] at h2
    cases h2
    exact upd_same
  · rw [upd_ne hb]
    exact l.kp a o h1 (by rw [upd_ne hb]; exact h2)
theorem ds_forK {tg iter : Expr} {body : List Stmt} {pos : Pos} {fe : M Val} {g : Val → M Unit} {fb : M Fl} {is : List Nat} (hcalm : X.calm = true) (hsf : ∀ x, foldedSetIterable iter X.env x = pure x) (hq : Quiet g) (hi : DE cl X iter fe) (hg : DG cl X tg is g) (hb : DSs cl X body fb) : DS cl X (.For tg iter body [] pos) (dForK fe g fb) := fun W cw w st σ H D o st' r h p => by
  refine ws_unlock ?_
  intro pins s I
  have cwU := cw_unlock cw
  have pg : PG X tg (fun v σ H Q => ∃ (w : Wd) (st st' : DSt) (a : Val), R X.K cl w st σ H ∧ VR X.K cl w σ a v ∧ g a st = some (.ok (), st') ∧ ∀ w' σ' H', Le w H w' H' → R X.K cl w' st' σ' H' → Q σ' H') :=
    ⟨fun pins s σ H v u Q I ru ⟨w, st, st', a, r, ha, hga, k⟩ => hg _ cwU w st σ H Q a v u st' pins s r ha hga (fun w' σ' H' l r' _ _ => k w' σ' H' l r') I ru⟩
  refine (L2.ps_for (X := X) (pos := pos) cw.po hcalm (pi_keys pe_locked) pg pssW hsf).run pins s σ H _ I ?_
  unfold tFor iKeys
  rcases bnd_some h with ⟨c, fs, h1, rfl⟩ | ⟨v, st1, h1, h2⟩
  · refine hi _ cwU w st σ H _ _ st' r h1 ?_
    intro w' H' cv d l r' x
    exact .inl (p w' σ H' cv d l r' x)
  · refine hi _ cwU w st σ H _ _ st1 r h1 fun w1 H1 l1 r1 x hx => ?_
    rcases bnd_some h2 with ⟨c, fs, h3, rfl⟩ | ⟨kvs, st2, h3, h4⟩
    · obtain ⟨kvs, w', e, _⟩ := stillD_at r1 hx h3
      cases e
    · obtain ⟨kvs', w2, e, l2, r2, rp⟩ := stillD_at r1 hx h3
      cases e
      have l12 := l1.trans l2
      cases rp with
      | @dic d vs _ gd rd =>
        -- the loop, over a heap HL in which the dict is locked; P0 brings an end of it to the end that is wanted
        have loop : ∀ (od : Obj) (HL : Hp), HL d = some (.frz od (.dK vs)) → R X.K cl w2 st2 σ HL → w2.ω d = none →
            (∀ (P : Hp → Prop) (w3 : Wd) (H3 : Hp), Le w2 HL w3 H3 → (∀ H4, Le w H w3 H4 → (H4 = H3 ∨ H4 = upd H3 d (.dK vs)) → P H4) → unl X P H3) →
            ∃ W' : Nat → Nat → L2.St → Hp → Prop, (∃ m, W' 0 m σ HL) ∧ ∀ i m σ H, W' i m σ H → ((Itk d od vs).stop i H ∧ unl X (D.nx σ) H) ∨ ((Itk d od vs).go i H ∧ ∃ N : L2.St → Hp → Prop, (∀ σ' H', N σ' H' → ∃ m', m' < m ∧ W' (i + 1) m' σ' H') ∧ ∀ x H', (Itk d od vs).yld i H x H' →
              (fun v σ H Q => ∃ (w : Wd) (st st' : DSt) (a : Val), R X.K cl w st σ H ∧ VR X.K cl w σ a v ∧ g a st = some (.ok (), st') ∧ ∀ w' σ' H', Le w H w' H' → R X.K cl w' st' σ' H' → Q σ' H') x σ H' fun σ2 H2 => WSs X body ⟨N, fun v => unl X (D.rt v), fun σ' => unl X (D.nx σ'), N⟩ σ2 H2) := by
          intro od HL eL rL oD fin
          have rU : ∀ {w3 : Wd} {st3 : DSt} {σ3 : L2.St} {H3 H4 : Hp}, Le w2 HL w3 H3 → R X.K cl w3 st3 σ3 H3 → (H4 = H3 ∨ H4 = upd H3 d (.dK vs)) → R X.K cl w3 st3 σ3 H4 := fun {w3 st3 σ3 H3 H4} l3 r3 e4 => by
            rcases e4 with e4 | e4
            · rw [e4]; exact r3
            · rw [e4]; exact r3.unlocked (l3.g _ _ gd)
          refine ⟨fun i m σ2 H2 => m = kvs.length - i ∧ i ≤ kvs.length ∧ ∃ w3 st3, Le w2 HL w3 H2 ∧ R X.K cl w3 st3 σ2 H2 ∧ forL g fb (fun _ => true) ((keysV kvs).drop i) st3 = some (o, st'), ⟨kvs.length, by simp, Nat.zero_le _, w2, st2, Le.refl _ _, rL, by simpa using h4⟩, ?_⟩
          rintro i m σ2 H2 ⟨rfl, hi2, w3, st3, l3, r3, h5⟩
          have eD : H2 d = some (.frz od (.dK vs)) := l3.kp d _ oD eL
          have klen : (keysV kvs).length = kvs.length := by simp [keysV]
          cases e : (keysV kvs).drop i with
          | nil =>
            rw [e] at h5
            unfold forL at h5
            cases h5
            have hlen : kvs.length ≤ i := by have := congrArg List.length e; rw [List.length_drop, List.length_nil, klen] at this; omega
            refine .inl ⟨⟨eD, by rw [← rd.length]; exact hlen⟩, ?_⟩
            exact fin _ w3 H2 l3 fun H4 l4 e4 => p w3 σ2 H4 l4 (rU l3 r3 e4)
          | cons vv rest =>
            obtain ⟨e1, e2⟩ := drop_cons e
            rw [e] at h5
            unfold forL at h5
            have hlt : i < kvs.length := by rw [← klen]; exact lt_of_get e1
            have e1' : (keysV kvs)[i]? = some vv := e1
            unfold keysV at e1'
            rw [List.getElem?_map, Option.map_eq_some_iff] at e1'
            obtain ⟨pk, ek, rfl⟩ := e1'
            obtain ⟨vk, evk⟩ := rd.at ek
            refine .inr ⟨⟨eD, by rw [← rd.length]; exact hlt⟩, fun σ3 H3 => ∃ w4 st4, Le w2 HL w4 H3 ∧ R X.K cl w4 st4 σ3 H3 ∧ forL g fb (fun _ => true) ((keysV kvs).drop (i + 1)) st4 = some (o, st'), fun σ3 H3 ⟨w4, st4, q1, q2, q3⟩ => ⟨kvs.length - (i + 1), by omega, rfl, hlt, w4, st4, q1, q2, q3⟩, fun x H3 yl => ?_⟩
            obtain ⟨eh, kk, v', e3, e4⟩ := yl
            subst eh
            rw [evk] at e3
            cases e3
            subst e4
            rcases bnd_some h5 with ⟨c, fs, h6, z⟩ | ⟨_, st4, h6, h7⟩
            · exact absurd h6 (hq _ _ _ _ _)
            · refine ⟨w3, st3, st4, .t (keyTree pk.1), r3, key_rep _, h6, fun w4 σ4 H4 l4 r4 => ?_⟩
              have l24 := l3.trans l4
              rcases bnd_some h7 with ⟨c, fs, h8, rfl⟩ | ⟨fl, st5, h8, h9⟩
              · refine hb _ cwU w4 st4 σ4 H4 _ _ st' r4 h8 ?_
                intro w5 σ5 H5 cv dd l5 r5 hx5
                refine fin _ w5 H5 (l24.trans l5) fun H6 l6 e6 => ?_
                refine p w5 σ5 H6 cv dd l6 (rU (l24.trans l5) r5 e6) ?_
                obtain ⟨C5, k1, k2, k3⟩ := hx5
                refine ⟨C5, k1, k2, ?_⟩
                rcases k3 with k3 | ⟨d5, vs5, k3, k4, k5⟩
                · exact .inl k3
                · refine .inr ⟨d5, vs5, k3, ?_, k5⟩
                  rcases e6 with e6 | e6
                  · rw [e6]; exact k4
                  · have e5 : H5 d = some (.frz od (.dK vs)) := (l24.trans l5).kp d _ oD eL
                    rw [e6, upd_ne (fun z => by rw [z, e5] at k4; cases k4)]; exact k4
              · cases fl with
                | nx => exact hb _ cwU w4 st4 σ4 H4 _ _ st5 r4 h8 fun w5 σ5 H5 l5 r5 => ⟨w5, st5, l24.trans l5, r5, by rw [e2]; exact h9⟩
                | ct => exact hb _ cwU w4 st4 σ4 H4 _ _ st5 r4 h8 fun w5 σ5 H5 l5 r5 => ⟨w5, st5, l24.trans l5, r5, by rw [e2]; exact h9⟩
                | bk => cases h9; exact hb _ cwU w4 st4 σ4 H4 _ _ _ r4 h8 fun w5 σ5 H5 l5 r5 => fin _ w5 H5 (l24.trans l5) fun H6 l6 e6 => p w5 σ5 H6 l6 (rU (l24.trans l5) r5 e6)
                | rt v => cases h9; exact hb _ cwU w4 st4 σ4 H4 _ _ _ r4 h8 fun w5 σ5 H5 l5 r5 x5 hx5 => fin _ w5 H5 (l24.trans l5) fun H6 l6 e6 => p w5 σ5 H6 l6 (rU (l24.trans l5) r5 e6) x5 hx5
                | rf v =>
                  cases h9
                  refine hb _ cwU w4 st4 σ4 H4 _ _ _ r4 h8 fun w5 σ5 H5 l5 r5 q0 ho hq0 hO => ?_
                  have e5 : H5 d = some (.frz od (.dK vs)) := (l24.trans l5).kp d _ oD eL
                  have hne : q0 ≠ d := fun z => by rw [z, e5] at hq0; cases hq0
                  rcases fin (fun H6 => H6 q0 = none ∧ D.rt (.ref q0) (upd H6 q0 ho)) w5 H5 (l24.trans l5) (fun H6 l6 e6 => by
                    have h60 : H6 q0 = none := by
                      rcases e6 with e6 | e6
                      · rw [e6]; exact hq0
                      · rw [e6, upd_ne hne]; exact hq0
                    exact ⟨h60, p w5 σ5 H6 l6 (rU (l24.trans l5) r5 e6) q0 ho h60 hO⟩) with ⟨_, z⟩ | ⟨d1, od1, u1, a1, a2, _, a3⟩
                  · exact .inl z
                  · have hne1 : d1 ≠ q0 := fun z => by rw [z, hq0] at a2; cases a2
                    refine .inr ⟨d1, od1, u1, a1, by rw [upd_ne hne1]; exact a2, ?_⟩
                    have ecomm : upd (upd H5 q0 ho) d1 u1 = upd (upd H5 d1 u1) q0 ho := by
                      funext b
                      by_cases b1 : b = d1
                      · rw [b1, upd_same, upd_ne hne1, upd_same]
                      · by_cases b2 : b = q0
                        · rw [b2, upd_ne (Ne.symm hne1), upd_same, upd_same]
                        · rw [upd_ne b1, upd_ne b2, upd_ne b2, upd_ne b1]
                    rw [ecomm]; exact a3
        have oD : w2.ω d = none := by
          cases e : w2.ω d with
          | none => rfl
          | some u => rw [(r2.rc.own d u e).1] at gd; cases gd
        refine ⟨d, vs, rfl, ?_⟩
        rcases r2.rc.dK gd with e1 | ⟨q, e1⟩
        · refine .inr ⟨e1, fun od hn => ⟨d, od, rfl, .inl ⟨vs, upd_same, ?_⟩⟩⟩
          refine loop od _ upd_same (r2.locked gd od) oD fun P w3 H3 l3 k => .inr ⟨d, od, .dK vs, hn, l3.kp d _ oD upd_same, k _ (l12.trans (Le.unlocked e1 l3)) (.inr rfl)⟩
        · refine .inl ⟨q, e1, d, q, rfl, .inl ⟨vs, e1, ?_⟩⟩
          exact loop q H1 e1 r2 oD fun P w3 H3 l3 k => .inl (k H3 (l12.trans l3) (.inl rfl))
end
end Lf
namespace Lf
open PySem PySem.Spec L2
section
variable {cl : Cl} {X : Cx}
/-! ### [e for x in a if s for y in b if t] -/
def tDI (cl : Cl) (K : PySem.W.Frag) (X : Cx) (f : M Its) : TI := fun σ H Rr => ∃ (w : Wd) (st st' : DSt) (I : Its), R K cl w st σ H ∧ f st = some (.ok I, st') ∧ ∀ w' H' J, Le w H w' H' → R K cl w' st' σ H' → ItR cl X w' H' I J → Rr J H'
theorem itR_of {X' : Cx} (e : X'.K = X.K) {w : Wd} {H : Hp} {I : Its} {J : It} (h : ItR cl X' w H I J) : ItR cl X w H I J := by
  unfold ItR at h ⊢
  rw [e] at h
  exact h
theorem pi_tDI {X' : Cx} {tg iter : Expr} {f : M Its} (eK : X'.K = X.K) (cw : Cw X' cFalse) (h : DI cl X' tg iter f) : PI X' tg iter (tDI cl X'.K X f) := ⟨fun pins s σ H Rr I ⟨w, st, st', its, r, hf, k⟩ => h cFalse cw w st σ H Rr (.ok its) st' r hf (fun w' H' l r' J hJ => k w' H' J l r' (itR_of eK hJ)) pins s I⟩
def compL2 (vs vs1 : List Nat) (g : Val → M Unit) (t : M Bool) (fi1 : M Its) (g1 : Val → M Unit) (t1 : M Bool) (e : M Val) (chk : DSt → Bool) : List Val → List T → M (List T)
  | [], acc => fun s => if chk s then some (.ok acc, s) else none
  | v :: r, acc => fun s => if chk s then bnd (g v) (fun _ => bnd t fun b => if b then bnd fi1 fun I1 => fun s1 => bnd (compL vs1 g1 t1 e I1.chk I1.items acc) (fun acc1 => fun s2 => compL2 vs vs1 g t fi1 g1 t1 e chk r acc1 { s2 with δ := wipeD s2.δ vs }) { s1 with δ := wipeD s1.δ vs1 }
      else fun s => compL2 vs vs1 g t fi1 g1 t1 e chk r acc { s with δ := wipeD s.δ vs }) s else none
def dComp2 (vs vs1 : List Nat) (fi : M Its) (g : Val → M Unit) (t : M Bool) (fi1 : M Its) (g1 : Val → M Unit) (t1 : M Bool) (e : M Val) : M Own := bnd fi fun I => fun s => if noOwn s.δ vs then
    match hush (compL2 vs vs1 g t fi1 g1 t1 e I.chk I.items []) { s with δ := wipeD s.δ vs } with
    | some (.ok ys, s2) => some (.ok (.lst ys), { s2 with δ := backD s.δ s2.δ vs })
    | _ => none
  else none
/-- the inner loop: the new list at D, base (w1, H1) ahead of it -/
theorem inner_loop {vs1 : List Nat} {g1 : Val → M Unit} {t1 : M Bool} {fe : M Val} {w1 wi : Wd} {H1 Hi : Hp} {D : Addr} (hD : H1 D = none) {τ : L2.St} {its : Its} {J : It} (hJ : ItR cl X wi Hi its J) (pa : wi.as <+: wi.as) {acc0 ys : List T} {accV0 : List V} {st0 s2 : DSt}
    (l0 : Le w1 H1 wi Hi) (r0 : R X.K cl wi st0 (wipe τ vs1) Hi) (g0 : wi.G D = none) (o0 : wi.ω D = none) (d0 : Hi D = some (.lst accV0)) (q0 : Reps X.K cl wi.G acc0 accV0) (h0 : compL vs1 g1 t1 fe its.chk its.items acc0 st0 = some (.ok ys, s2))
    {Nx : Hp → Prop} (hN : ∀ w2 H2 accV, Le w1 H1 w2 H2 → R X.K cl w2 s2 (wipe τ vs1) H2 → w2.G D = none → w2.ω D = none → H2 D = some (.lst accV) → Reps X.K cl w2.G ys accV → Nx H2) :
    ∃ W1 : Nat → Nat → Hp → Prop, (∃ m, W1 0 m Hi) ∧ ∀ j k H, W1 j k H →
      (J.stop j H ∧ Nx H) ∨ (J.go j H ∧ ∃ Nx1 : Hp → Prop, (∀ H', Nx1 H' → ∃ k', k' < k ∧ W1 (j + 1) k' H') ∧ ∀ x H', J.yld j H x H' → tDG cl X.K vs1 g1 x (wipe τ vs1) H' fun σ3 H5 => wipe σ3 vs1 = wipe τ vs1 ∧ tDT cl X.K t1 σ3 H5 fun b H6 =>
        if b = true then tD cl X.K fe σ3 H6 fun y H7 => ∃ acc, H7 D = some (.lst acc) ∧ acc.length < sizeLine ∧ Nx1 (upd H7 D (.lst (acc ++ [y]))) else Nx1 H6) := by
  refine ⟨fun i m H2 => m = its.items.length - i ∧ i ≤ its.items.length ∧ ∃ w2 st2 acc accV, wi.as <+: w2.as ∧ Same wi.G w2.G ∧ Le w1 H1 w2 H2 ∧ R X.K cl w2 st2 (wipe τ vs1) H2 ∧ w2.G D = none ∧ w2.ω D = none ∧ H2 D = some (.lst accV) ∧ Reps X.K cl w2.G acc accV ∧ compL vs1 g1 t1 fe its.chk (its.items.drop i) acc st2 = some (.ok ys, s2),
    ⟨its.items.length, by simp, Nat.zero_le _, wi, st0, acc0, accV0, List.prefix_refl _, Same.refl _, l0, r0, g0, o0, d0, q0, by simpa using h0⟩, ?_⟩
  rintro i m H2 ⟨rfl, hi2, w2, st2, acc, accV, pa2, pg2, l2, r2, g2, o2, hD2, q2, h3⟩
  have ww : ∀ σ4 : L2.St, σ4.length = (wipe τ vs1).length → (∀ j, j ∉ vs1 → σ4[j]? = (wipe τ vs1)[j]?) → wipe σ4 vs1 = wipe τ vs1 := fun σ4 a b => by
    rw [wipe_agree (vs := vs1) a b]
    exact wipe_agree (vs := vs1) (wipe_length ..) (fun j hj => wipe_out hj)
  cases e : its.items.drop i with
  | nil =>
    rw [e] at h3
    unfold compL at h3
    split at h3
    · rename_i hck
      cases h3
      exact .inl ⟨(hJ i w2 _ _ H2 pa2 pg2 r2 hck).1 (by have := congrArg List.length e; rw [List.length_drop, List.length_nil] at this; omega), hN w2 H2 accV l2 r2 g2 o2 hD2 q2⟩
    · cases h3
  | cons v rest =>
    obtain ⟨e1, e2'⟩ := drop_cons e
    rw [e] at h3
    unfold compL at h3
    split at h3
    · rename_i hck
      obtain ⟨go, yl⟩ := (hJ i w2 st2 _ H2 pa2 pg2 r2 hck).2 v e1
      have hlt : i < its.items.length := lt_of_get e1
      refine .inr ⟨go, fun H6 => ∃ w6 st6 acc6 accV6, wi.as <+: w6.as ∧ Same wi.G w6.G ∧ Le w1 H1 w6 H6 ∧ R X.K cl w6 st6 (wipe τ vs1) H6 ∧ w6.G D = none ∧ w6.ω D = none ∧ H6 D = some (.lst accV6) ∧ Reps X.K cl w6.G acc6 accV6 ∧ compL vs1 g1 t1 fe its.chk (its.items.drop (i + 1)) acc6 st6 = some (.ok ys, s2),
        fun H6 ⟨w6, st6, acc6, accV6, q⟩ => ⟨its.items.length - (i + 1), by omega, rfl, hlt, w6, st6, acc6, accV6, q⟩, fun x H3 y => ?_⟩
      obtain ⟨w3, l3, r3, hx⟩ := yl x H3 y
      rcases bnd_some h3 with ⟨c, fs, h4, z⟩ | ⟨_, st3, h4, h5⟩
      · cases z
      · refine ⟨w3, st2, st3, v, r3, hx, h4, fun w4 σ4 H4 l4 r4 hl4 ha4 => ⟨ww σ4 hl4 ha4, ?_⟩⟩
        have ew := ww σ4 hl4 ha4
        rcases bnd_some h5 with ⟨c, fs, h6, z⟩ | ⟨b, st4, h6, h7⟩
        · cases z
        · refine ⟨w4, st3, st4, b, r4, h6, fun w5 H5 l5 r5 => ?_⟩
          have l25 := l3.trans (l4.trans l5)
          have ne2 : H2 D ≠ none := by rw [hD2]; exact fun z => nomatch z
          have g5 : w5.G D = none := (l25.gk D o2 ne2).trans g2
          have o5 : w5.ω D = none := l25.own D o2 ne2
          have hD5 : H5 D = some (.lst accV) := l25.kp D _ o2 hD2
          cases b with
          | false =>
            have h7 : compL vs1 g1 t1 fe its.chk rest acc { st4 with δ := wipeD st4.δ vs1 } = some (.ok ys, s2) := h7
            refine iteF ?_
            refine ⟨w5, _, acc, accV, pa2.trans l25.as, pg2.trans l25.g, l2.trans l25, ?_, g5, o5, hD5, q2.mono l25.g, by rw [e2']; exact h7⟩
            have := r5.wiped vs1
            rw [ew] at this
            exact this
          | true =>
            refine iteT ?_
            rcases bnd_some (show bnd fe _ st4 = some (.ok ys, s2) from h7) with ⟨c, fs, h8, z⟩ | ⟨xv, st5, h8, h9⟩
            · cases z
            · refine ⟨w5, st4, st5, xv, r5, h8, fun w6 H6 x6 l6 r6 hx6 => ?_⟩
              have l26 := l25.trans l6
              have hD6 : H6 D = some (.lst accV) := l26.kp D _ o2 hD2
              rcases bnd_some h9 with ⟨c, fs, h10, z⟩ | ⟨ty, st6, h10, h11⟩
              · exact absurd h10 (frz_quiet _ _ _ _ _)
              · obtain ⟨ty', w7, z, l7, r7, q7⟩ := frz_at r6 hx6 h10
                cases z
                have h11 : (if acc.length < sizeLine then compL vs1 g1 t1 fe its.chk rest (acc ++ [ty]) { st6 with δ := wipeD st6.δ vs1 } else none) = some (.ok ys, s2) := h11
                split at h11
                · rename_i hlen
                  have l27 := l26.trans l7
                  have g7 : w7.G D = none := (l27.gk D o2 ne2).trans g2
                  have o7 : w7.ω D = none := l27.own D o2 ne2
                  have qq := q2.mono l27.g
                  refine ⟨accV, hD6, by rw [← q2.length]; exact hlen, w7, _, acc ++ [ty], accV ++ [x6], pa2.trans l27.as, pg2.trans l27.g, (l2.trans l27).swap hD (fun a ha => upd_ne ha), ?_, g7, o7, upd_same, qq.snoc q7, by rw [e2']; exact h11⟩
                  have := (r7.wiped vs1).swap g7 o7 (H' := upd H6 D (.lst (accV ++ [x6]))) (fun a ha => upd_ne ha)
                  rw [ew] at this
                  exact this
                · cases h11
    · cases h3
theorem comp2_read {tg iter : Expr} {vs vs1 : List Nat} {fi fi1 : M Its} {g g1 : Val → M Unit} {ft ft1 : M Bool} {fe : M Val} (hsub : ∀ i ∈ vs1, i ∈ vs) (hi : DI cl X tg iter fi) {W : WX} (cw : Cw X W) {w : Wd} {st st' : DSt} {σ : L2.St} {H : Hp} {Q : VK} {o : Out Own} (r : R X.K cl w st σ H) (h : dComp2 vs vs1 fi g ft fi1 g1 ft1 fe st = some (o, st'))
    (p : Post cl X W σ w H o st' (fun v w' H' => ∀ (p : Addr) (ho : HO), H' p = none → (∀ H2, H2 p = some ho → OwnR X.K cl w'.G H2 v p) → Q (.ref p) (upd H' p ho))) :
    tLc2 (WI X tg iter) (tDG cl X.K vs g) (tDT cl X.K ft) (tDI cl X.K X fi1) (tDG cl X.K vs1 g1) (tDT cl X.K ft1) (tD cl X.K fe) vs vs1 σ H Q := by
  unfold tLc2
  rcases bnd_some h with ⟨c, fs, h1, rfl⟩ | ⟨its, st1, h1, h2⟩
  · exact hi W cw w st σ H _ _ st' r h1 p
  · refine hi W cw w st σ H _ _ st1 r h1 fun w1 H1 l1 r1 J hJ => ?_
    split at h2
    · rename_i no
      split at h2
      · rename_i ys s2 e2
        cases h2
        obtain ⟨_, z, e3⟩ := hush_some e2
        cases z
        intro D hD
        obtain ⟨gD, oD⟩ := r1.free hD
        refine ⟨fun i m H2 => m = its.items.length - i ∧ i ≤ its.items.length ∧ ∃ w2 st2 acc accV, Le w1 H1 w2 H2 ∧ R X.K cl w2 st2 (wipe σ vs) H2 ∧ w2.G D = none ∧ w2.ω D = none ∧ H2 D = some (.lst accV) ∧ Reps X.K cl w2.G acc accV ∧ compL2 vs vs1 g ft fi1 g1 ft1 fe its.chk (its.items.drop i) acc st2 = some (.ok ys, s2),
          ⟨its.items.length, by simp, Nat.zero_le _, w1, _, [], [], (Le.refl w1 H1).swap hD (fun a ha => upd_ne ha), (r1.wiped vs).swap gD oD (fun a ha => upd_ne ha), gD, oD, upd_same, .nil, by simpa using e3⟩, ?_⟩
        rintro i m H2 ⟨rfl, hi2, w2, st2, acc, accV, l2, r2, g2, o2, hD2, q2, h3⟩
        cases e : its.items.drop i with
        | nil =>
          rw [e] at h3
          unfold compL2 at h3
          split at h3
          · rename_i hck
            cases h3
            refine .inl ⟨(hJ i w2 _ _ H2 l2.as l2.g r2 hck).1 (by have := congrArg List.length e; rw [List.length_drop, List.length_nil] at this; omega), ?_⟩
            have r3 := R.unwipe r1 l2 no r2 (by rw [wipe_agree (vs := vs) (σ := σ) (σ2 := wipe σ vs) (wipe_length ..) (fun j hj => wipe_out hj)])
            let H3 : Hp := fun a => if a = D then none else H2 a
            have hh : ∀ a, a ≠ D → H3 a = H2 a := fun a ha => if_neg ha
            have hfin := p w2 H3 (l1.trans (l2.swap hD hh)) (r3.swap g2 o2 hh) D (.lst accV) (if_pos rfl) (fun H4 e4 => ⟨accV, e4, q2⟩)
            have eH : upd H3 D (.lst accV) = H2 := by
              funext a
              by_cases ha : a = D
              · rw [ha, upd_same, hD2]
              · rw [upd_ne ha, hh a ha]
            rw [eH] at hfin
            exact hfin
          · cases h3
        | cons v rest =>
          obtain ⟨e1, e2'⟩ := drop_cons e
          rw [e] at h3
          unfold compL2 at h3
          split at h3
          · rename_i hck
            obtain ⟨go, yl⟩ := (hJ i w2 st2 _ H2 l2.as l2.g r2 hck).2 v e1
            have hlt : i < its.items.length := lt_of_get e1
            refine .inr ⟨go, fun H6 => ∃ w6 st6 acc6 accV6, Le w1 H1 w6 H6 ∧ R X.K cl w6 st6 (wipe σ vs) H6 ∧ w6.G D = none ∧ w6.ω D = none ∧ H6 D = some (.lst accV6) ∧ Reps X.K cl w6.G acc6 accV6 ∧ compL2 vs vs1 g ft fi1 g1 ft1 fe its.chk (its.items.drop (i + 1)) acc6 st6 = some (.ok ys, s2),
              fun H6 ⟨w6, st6, acc6, accV6, q⟩ => ⟨its.items.length - (i + 1), by omega, rfl, hlt, w6, st6, acc6, accV6, q⟩, fun x H3 y => ?_⟩
            obtain ⟨w3, l3, r3, hx⟩ := yl x H3 y
            rcases bnd_some h3 with ⟨c, fs, h4, z⟩ | ⟨_, st3, h4, h5⟩
            · cases z
            · have ww : ∀ σ4 : L2.St, σ4.length = (wipe σ vs).length → (∀ j, j ∉ vs → σ4[j]? = (wipe σ vs)[j]?) → wipe σ4 vs = wipe σ vs := fun σ4 a b => by
                rw [wipe_agree (vs := vs) a b]
                exact wipe_agree (vs := vs) (wipe_length ..) (fun j hj => wipe_out hj)
              refine ⟨w3, st2, st3, v, r3, hx, h4, fun w4 σ4 H4 l4 r4 hl4 ha4 => ⟨ww σ4 hl4 ha4, ?_⟩⟩
              have ew := ww σ4 hl4 ha4
              rcases bnd_some h5 with ⟨c, fs, h6, z⟩ | ⟨b, st4, h6, h7⟩
              · cases z
              · refine ⟨w4, st3, st4, b, r4, h6, fun w5 H5 l5 r5 => ?_⟩
                have l25 := l3.trans (l4.trans l5)
                have ne2 : H2 D ≠ none := by rw [hD2]; exact fun z => nomatch z
                have g5 : w5.G D = none := (l25.gk D o2 ne2).trans g2
                have o5 : w5.ω D = none := l25.own D o2 ne2
                have hD5 : H5 D = some (.lst accV) := l25.kp D _ o2 hD2
                cases b with
                | false =>
                  have h7 : compL2 vs vs1 g ft fi1 g1 ft1 fe its.chk rest acc { st4 with δ := wipeD st4.δ vs } = some (.ok ys, s2) := h7
                  refine iteF ?_
                  refine ⟨w5, _, acc, accV, l2.trans l25, ?_, g5, o5, hD5, q2.mono l25.g, by rw [e2']; exact h7⟩
                  have := r5.wiped vs
                  rw [ew] at this
                  exact this
                | true =>
                  refine iteT ?_
                  rcases bnd_some (show bnd fi1 _ st4 = some (.ok ys, s2) from h7) with ⟨c, fs, h8, z⟩ | ⟨I1, st5, h8, h9⟩
                  · cases z
                  · refine ⟨w5, st4, st5, I1, r5, h8, fun w6 H6 J1 l6 r6 hJ1 => ?_⟩
                    have l26 := l25.trans l6
                    have g6 : w6.G D = none := (l26.gk D o2 ne2).trans g2
                    have o6 : w6.ω D = none := l26.own D o2 ne2
                    have hD6 : H6 D = some (.lst accV) := l26.kp D _ o2 hD2
                    rcases bnd_some (show bnd (compL vs1 g1 ft1 fe I1.chk I1.items acc) (fun acc1 => fun s2 => compL2 vs vs1 g ft fi1 g1 ft1 fe its.chk rest acc1 { s2 with δ := wipeD s2.δ vs }) { st5 with δ := wipeD st5.δ vs1 } = some (.ok ys, s2) from h9) with ⟨c, fs, h10, z⟩ | ⟨acc1, st6, h10, h11⟩
                    · cases z
                    · refine inner_loop hD hJ1 (List.prefix_refl _) (l2.trans l26) (r6.wiped vs1) g6 o6 hD6 (q2.mono l26.g) h10 fun w7 H7 accV7 l7 r7 g7 o7 hD7 q7 => ?_
                      refine ⟨w7, _, acc1, accV7, l7, ?_, g7, o7, hD7, q7, by rw [e2']; exact h11⟩
                      have := r7.wiped vs
                      have ew2 : wipe (wipe σ4 vs1) vs = wipe σ vs := by
                        rw [← ew]
                        exact wipe_agree (vs := vs) (wipe_length ..) (fun j hj => wipe_out fun z => hj (hsub j z))
                      rw [ew2] at this
                      exact this
          · cases h3
      · cases h2
    · cases h2
theorem df_comp2 {elt tg iter tg1 iter1 : Expr} {ifs ifs1 : List Expr} {scope : Scope} {own : List (Str × Nat)} {vs1 : List Nat} {pos : Pos} {fi fi1 : M Its} {g g1 : Val → M Unit} {ft ft1 : M Bool} {fe : M Val} (hc : X.calm = true) (hN : X.N.Nodup) (ok : BlkOk X.N X.env.scope scope own) (hv : ∀ i ∈ vs1, i ∈ own.map (·.2)) (hs : ∀ x, foldedSetIterable iter X.env x = pure x) (hs1 : ∀ env x, foldedSetIterable iter1 env x = pure x)
    (hi : DI cl X tg iter fi) (hg : ∀ (s : Shared) (H : Hp) (C : Addr) (c : List (Str × Addr)) (fp : List Addr), DG cl (X.blk s H scope (compEnvC scope c C X.env) fp) tg (own.map (·.2)) g)
    (ht : ∀ (s : Shared) (H : Hp) (C : Addr) (c : List (Str × Addr)) (fp : List Addr), DTs cl (X.blk s H scope (compEnvC scope c C X.env) fp) ifs ft)
    (hi1 : ∀ (s : Shared) (H : Hp) (C : Addr) (c : List (Str × Addr)) (fp : List Addr), DI cl (X.blk s H scope (compEnvC scope c C X.env) fp) tg1 iter1 fi1)
    (hg1 : ∀ (s : Shared) (H : Hp) (C : Addr) (c : List (Str × Addr)) (fp : List Addr), DG cl (X.blk s H scope (compEnvC scope c C X.env) fp) tg1 vs1 g1)
    (ht1 : ∀ (s : Shared) (H : Hp) (C : Addr) (c : List (Str × Addr)) (fp : List Addr), DTs cl (X.blk s H scope (compEnvC scope c C X.env) fp) ifs1 ft1)
    (he : ∀ (s : Shared) (H : Hp) (C : Addr) (c : List (Str × Addr)) (fp : List Addr), DE cl (X.blk s H scope (compEnvC scope c C X.env) fp) elt fe) :
    DF cl X (.ListComp elt [⟨tg, iter, ifs, 0⟩, ⟨tg1, iter1, ifs1, 0⟩] scope pos) (dComp2 (own.map (·.2)) vs1 fi g ft fi1 g1 ft1 fe) := fun W cw w st σ H Q o st' r h p =>
  PE.we (pe_lc2 (g := tDG cl X.K (own.map (·.2)) g) (tt := tDT cl X.K ft) (wi1 := tDI cl X.K X fi1) (g1 := tDG cl X.K vs1 g1) (tt1 := tDT cl X.K ft1) (te := tD cl X.K fe) hc hN piW ok hv (fun s H C c fp => pg_tDG cw_blk (hg s H C c fp)) (fun s H C c fp => pts_tDT cw_blk (ht s H C c fp)) (fun s H C c fp => pi_tDI (X := X) rfl cw_blk (hi1 s H C c fp)) (fun s H C c fp => pg_tDG cw_blk (hg1 s H C c fp)) (fun s H C c fp => pts_tDT cw_blk (ht1 s H C c fp)) (fun s H C c fp => pe_tD cw_blk (he s H C c fp)) hs hs1) (comp2_read hv hi cw r h p)
/-! ### isinstance -/
def tagOf (s : DSt) (v : Val) : Option String := match v with
  | .t .non => some "NoneType"
  | .t (.bl _) => some "bool"
  | .t (.int _) => some "int"
  | .t (.str _) => some "str"
  | .t (.tup _) => some "tuple"
  | .t (.dic _) => some "dict"
  | v => match lstOf s v with
    | some _ => some "list"
    | none => none
theorem tag_at {w : Wd} {st : DSt} {σ : L2.St} {H : Hp} (r : R X.K cl w st σ H) {v : Val} {x : V} {n : String} (h : tagOf st v = some n) (hv : VR X.K cl w σ v x) : TyX X.K H x (.type n) := by
  have gen : ∀ {xs : List T}, lstOf st v = some xs → n = "list" → TyX X.K H x (.type n) := fun {xs} e1 e2 => by
    obtain ⟨a, vs, rfl, g, q⟩ := lst_at r e1 hv
    rw [e2]
    exact .base (.lst g)
  unfold tagOf at h
  split at h
  · cases h; cases hv; exact .base .non
  · cases h; cases hv; exact .base (.bl _)
  · cases h; cases hv; exact .base (.int _)
  · cases h; cases hv; exact .base (.str _)
  · cases h
    cases hv with
    | tup e q => exact .base (.tup (r.rc.tup e))
  · cases h
    cases hv with
    | dic e q =>
      rcases r.rc.dK e with e1 | ⟨ob, e1⟩
      · exact .base (.dK e1)
      · exact .fDict e1
  · split at h
    · rename_i xs e
      cases h
      exact gen e rfl
    · cases h
def isiB (a b : String) : Bool := a == b || (a == "bool" && b == "int")
abbrev tags : List String := ["NoneType", "bool", "int", "str", "tuple", "dict", "list"]
theorem tag_mem {s : DSt} {v : Val} {n : String} (h : tagOf s v = some n) : n ∈ tags := by
  unfold tagOf at h
  split at h
  all_goals first
    | (cases h; simp)
    | (split at h
       · cases h; simp
       · cases h)
def KitOk (ty : String) : Prop := ∀ a ∈ tags, kitB a ty = some (isiB a ty)
theorem kit_ok {ty : String} (h : (tags.all fun a => decide (kitB a ty = some (isiB a ty))) = true) : KitOk ty := fun a ha => of_decide_eq_true (List.all_eq_true.mp h a ha)
def dIsi (tys : List String) (v : Val) : M Val := fun s => match tagOf s v with
  | some n => some (.ok (.t (.bl (tys.any fun ty => isiB n ty))), s)
  | none => none
theorem de_isi1 {e : Expr} {ty : String} {tyS : Str} {p p1 pos : Pos} {f : M Val} (hk : KitOk ty) (hg : Gl X "isinstance") (hm : X.mg "isinstance" = none) (hg1 : Gl X tyS) (hm1 : X.mg tyS = none) (hv1 : bootBuiltins tyS = some (.type ty)) (hn1 : tyS ≠ "__name__") (hd1 : (tyS == ("__debug__" : Str)) = false)
    (he : starEach [e, .Name tyS p1] X.env = (false, eval e X.env) :: starEach [.Name tyS p1] X.env) (h : DE cl X e f) : DE cl X (.Call (.Name "isinstance" p) [e, .Name tyS p1] [] pos) (bnd f (dIsi [ty])) := fun W cw w st σ H Q o st' r hf pp => by
  refine PE.we (pe_callB call_isi hg hm PyProof.Rows.boot_isinstance (pa_cons peW (pa_cons (pe_bltn (v := .ty ty) hg1 hm1 hv1 rfl hn1 hd1) pa_nil) he) (by decide) (by decide) he) ?_
  rcases bnd_some hf with ⟨c, fs, h1, rfl⟩ | ⟨v, st1, h1, h2⟩
  · exact h W cw w st σ H _ _ st' r h1 pp
  · refine h W cw w st σ H _ _ st1 r h1 fun w1 H1 l1 r1 x hx => ?_
    unfold dIsi at h2
    split at h2
    · rename_i n e1
      cases h2
      refine ⟨x, .ty ty, _, _, isiB n ty, rfl, .ty ty, tag_at r1 e1 hx, kit_ty (hk n (tag_mem e1)), ?_⟩
      have := pp w1 H1 l1 r1 (.bl _) (.bl _)
      simpa using this
    · cases h2
theorem de_isi2 {e : Expr} {ty1 ty2 : String} {tS1 tS2 : Str} {p p1 p2 pt pos : Pos} {kt : Nat} {f : M Val} (hk1 : KitOk ty1) (hk2 : KitOk ty2) (hg : Gl X "isinstance") (hm : X.mg "isinstance" = none) (hg1 : Gl X tS1) (hm1 : X.mg tS1 = none) (hv1 : bootBuiltins tS1 = some (.type ty1)) (hn1 : tS1 ≠ "__name__") (hd1 : (tS1 == ("__debug__" : Str)) = false)
    (hg2 : Gl X tS2) (hm2 : X.mg tS2 = none) (hv2 : bootBuiltins tS2 = some (.type ty2)) (hn2 : tS2 ≠ "__name__") (hd2 : (tS2 == ("__debug__" : Str)) = false)
    (he : starEach [e, .Tuple [.Name tS1 p1, .Name tS2 p2] kt pt] X.env = (false, eval e X.env) :: starEach [.Tuple [.Name tS1 p1, .Name tS2 p2] kt pt] X.env) (h : DE cl X e f) : DE cl X (.Call (.Name "isinstance" p) [e, .Tuple [.Name tS1 p1, .Name tS2 p2] kt pt] [] pos) (bnd f (dIsi [ty1, ty2])) := fun W cw w st σ H Q o st' r hf pp => by
  refine PE.we (pe_callB call_isiT hg hm PyProof.Rows.boot_isinstance (pa_cons peW (pa_cons (pe_tup (pa_cons (pe_bltn (v := .ty ty1) hg1 hm1 hv1 rfl hn1 hd1) (pa_cons (pe_bltn (v := .ty ty2) hg2 hm2 hv2 rfl hn2 hd2) pa_nil))) pa_nil) he) (by decide) (by decide) he) ?_
  rcases bnd_some hf with ⟨c, fs, h1, rfl⟩ | ⟨v, st1, h1, h2⟩
  · exact h W cw w st σ H _ _ st' r h1 pp
  · refine h W cw w st σ H _ _ st1 r h1 fun w1 H1 l1 r1 x hx => ?_
    unfold dIsi at h2
    split at h2
    · rename_i n e1
      cases h2
      refine ⟨by show 2 ≤ sizeLine; decide, fun q hq => ?_⟩
      obtain ⟨r2, l2⟩ := r1.fresh hq (.tup [.ty ty1, .ty ty2])
      refine ⟨x, q, [.ty ty1, .ty ty2], _, [.type ty1, .type ty2], isiB n ty1 || isiB n ty2, rfl, upd_same, .cons (.ty _) (.cons (.ty _) .nil), tag_at r2 e1 (hx.le l2), ?_, ?_⟩
      · refine kitAny_cons (kit_ty (hk1 n (tag_mem e1))) (fun e => ?_) (fun e => by rw [e]; rfl)
        refine kitAny_cons (kit_ty (hk2 n (tag_mem e1))) (fun e2 => ?_) (fun e2 => by rw [e2]; simp)
        rw [e, e2]
        exact kitAny_nil
      · have := pp _ _ (l1.trans l2) r2 (.bl _) (.bl _)
        simpa using this
    · cases h2
/-! ### join -/
def dJoin (a b : Val) : M Val := fun s => match a with
  | .t (.str x) => match seqOf s b with
    | some (_, ts) => match plains ts with
      | some zs => match strsT zs with
        | some ys => if (ys.map (·.length)).sum + ys.length * x.length ≤ 16777216 then some (.ok (.t (.str (Txt.join x ys))), s) else none
        | none => none
      | none => none
    | none => none
  | _ => none
def isStr : Val → Bool
  | .t (.str _) => true
  | _ => false
theorem de_join {o e : Expr} {apos pos : Pos} {fo fe : M Val} (hs : starEach [e] X.env = [(false, eval e X.env)]) (hbase : attributeBase o "join" X.env (eval o X.env) = eval o X.env) (hline : (apos.endLine == pos.line) = true) (ho : DE cl X o fo) (he : DE cl X e fe) :
    DE cl X (.Call (.Attribute o "join" apos) [e] [] pos) (bnd fo fun a => if isStr a then bnd fe fun b => dJoin a b else stuck) := fun W cw w st σ H Q out st' r h p => by
  refine PE.we (pe_join peW peW hs hbase hline) ?_
  unfold tM1
  rcases bnd_some h with ⟨c, fs, h1, rfl⟩ | ⟨a, st1, h1, h2⟩
  · exact ho W cw w st σ H _ _ st' r h1 p
  · refine ho W cw w st σ H _ _ st1 r h1 fun w1 H1 l1 r1 x hx => ?_
    cases a with
    | t y => cases y with
      | str z =>
        cases hx
        refine ⟨⟨z, rfl⟩, ?_⟩
        rcases bnd_some (show bnd fe (fun b => dJoin (.t (.str z)) b) st1 = some (out, st') from h2) with ⟨c, fs, h3, rfl⟩ | ⟨b, st2, h3, h4⟩
        · exact he W cw w1 st1 σ H1 _ _ st' r1 h3 (p.after l1)
        · refine he W cw w1 st1 σ H1 _ _ st2 r1 h3 fun w2 H2 l2 r2 y hy => ?_
          unfold dJoin at h4
          dsimp only at h4
          split at h4
          · rename_i tb ts e1
            split at h4
            · rename_i zs e2
              split at h4
              · rename_i ys e3
                split at h4
                · rename_i hl
                  cases h4
                  obtain ⟨q, xs, rfl, g, pr⟩ := seq_at r2 e1 hy
                  have exs := strs_at e3 (plains_reps e2 pr)
                  subst exs
                  refine ⟨z, q, ys, rfl, rfl, ?_, hl, p w2 H2 (l1.trans l2) r2 _ (.str _)⟩
                  cases tb with
                  | false => exact .inl g
                  | true => exact .inr g
                · cases h4
              · cases h4
            · cases h4
          · cases h4
      | _ => cases h2
    | loc n => cases h2
    | sl n => cases h2
/-! ### [*xs, ..] -/
def dStar (f : M Val) (g : M (List Val)) : M (List Val) := bnd f fun v => fun s => match seqOf s v with
  | some (_, ts) => bnd g (fun vs => ret (ts.map Fv.val ++ vs)) s
  | none => none
theorem Paired.app {α β : Type} {F : α → β → Prop} : ∀ {a c : List α} {b d : List β}, Paired F a b → Paired F c d → Paired F (a ++ c) (b ++ d)
  | _, _, _, _, .nil, q => q
  | _, _, _, _, .cons h t, q => .cons h (Paired.app t q)
theorem paired_vr {K : PySem.W.Frag} {w : Wd} {σ : L2.St} : ∀ {ts : List Fv} {vs : List V}, Paired (FvR K cl w) ts vs → Paired (VR K cl w σ) (ts.map Fv.val) vs
  | _, _, .nil => .nil
  | _, _, .cons h t => .cons h.vr (paired_vr t)
theorem da_star {e : Expr} {es : List Expr} {p : Pos} {f : M Val} {g : M (List Val)} (hs : starEach (.Starred e p :: es) X.env = (true, eval e X.env) :: starEach es X.env) (ha : DE cl X e f) (hb : DA cl X es g) : DA cl X (.Starred e p :: es) (dStar f g) := fun W cw w st σ H Q o st' r h pp => by
  refine PA.wa (StX.pa_star peW paW hs) ?_
  unfold StX.tStar
  rcases bnd_some h with ⟨c, fs, h1, rfl⟩ | ⟨v, st1, h1, h2⟩
  · exact ha W cw w st σ H _ _ st' r h1 pp
  · refine ha W cw w st σ H _ _ st1 r h1 fun w1 H1 l1 r1 x hx => ?_
    split at h2
    · rename_i tb ts e1
      obtain ⟨q, xs, rfl, gq, pr⟩ := seq_at r1 e1 hx
      refine ⟨q, xs, rfl, ?_, ?_⟩
      · cases tb with
        | true => exact .inl gq
        | false => exact .inr gq
      · rcases bnd_some h2 with ⟨c, fs, h3, rfl⟩ | ⟨vs, st2, h3, h4⟩
        · exact hb W cw w1 st1 σ H1 _ _ st' r1 h3 (pp.after l1)
        · cases h4
          refine hb W cw w1 st1 σ H1 _ _ _ r1 h3 fun w2 H2 l2 r2 ys hys => ?_
          exact pp w2 H2 (l1.trans l2) r2 _ (Paired.app ((paired_vr pr).mono fun _ _ z => z.le l2) hys)
    · cases h2
end
end Lf
namespace Lf
open PySem PySem.Spec L2
/-! ### the own errors: Base.__init__(self, text), self.f = f -/
/-- a class of the program whose __init__ is ValueError's -/
def baseB (K : PySem.W.Frag) (L : Addr) : Bool := PySem.W.readsIn K L (.type "type") && ((match PySem.W.findCls K (.ref L) (.type "type") "__init__" with | some (.val v) => v == .builtin "ValueError.__init__" | _ => false) && decide (PySem.W.specialIn K (.ref L) "__getattribute__" = some (some (.builtin "type.__getattribute__"))))
section
variable {X : Cx} {e : Expr} {es : List Expr} {ta : TA} {p1 p2 pos : Pos} {L : Addr} {b : Str}
theorem pe_base {pl : Sem Bool} (gb : Gl X b) (mb : X.mg b = some (.ref L)) (hb : baseB X.K L = true) (pa : PA X (e :: es) ta) (hdb : (b == ("__debug__" : Str)) = false)
    (ec : eval (.Call (.Attribute (.Name b p1) "__init__" p2) (e :: es) [] pos) X.env = (do
      let ov ← eval (.Name b p1) X.env
      standAt p2.atName
      let (f, first) ← holding [ov] (getMethod ov "__init__" pl)
      callWith pos f first (backTo pos (starEach (e :: es) X.env)) (backToKw pos (keywordEach [] X.env))))
    (e1 : starEach (e :: es) X.env = (false, eval e X.env) :: starEach es X.env) (e2 : (backTo pos (starEach es X.env)).any (·.1) = false) :
    PE X (.Call (.Attribute (.Name b p1) "__init__" p2) (e :: es) [] pos) (tVeI X.K ta) := by
  simp only [baseB, Bool.and_eq_true, decide_eq_true_eq] at hb
  obtain ⟨b1, b2', b3⟩ := hb
  have b2 : PySem.W.findCls X.K (.ref L) (.type "type") "__init__" = some (.val (.builtin "ValueError.__init__")) := by
    split at b2'
    · rename_i v ev
      rw [ev, beq_iff_eq.mp b2']
    · cases b2'
  constructor
  intro pins s σ H Q J hyp
  apply PySem.W.methodCall_KW _ ec
  apply ld_glob J gb mb _ hdb
  apply PySem.W.method_cls J.kIn b3
  refine PySem.W.cls_value J.kIn b1 b2 (show PySem.W.handedIn (.builtin "ValueError.__init__") = true by decide +kernel) ?_
  show wpAny _ _ (callWith pos (Value.builtin "ValueError.__init__") [] (backTo pos (starEach (e :: es) X.env)) []) _ _ _
  apply PyProof.Rows.callWith_method1 _ e1 e2
  apply thn (pa.run pos pins _ σ H _ (J.tok _) hyp)
  rintro us s1 ⟨vs, H1, J1, q1, a, C, ws, rfl, len, T, ha, q⟩
  cases q1 with
  | @cons _ u0 _ ur ra rest =>
    obtain rfl : u0 = Value.ref a := ra
    refine oinit_ok T J1 ha ?_ fun s' J2 => ⟨.non, H1, J2, rfl, q⟩
    have := Paired.length rest
    rw [sizeLine_eq]
    omega
end
/-- what the __init__ of an error with the one field f keeps -/
def spErr (K : PySem.W.Frag) (f : Str) : Sp := fun vs H Q E => ∃ (a C : Addr) (y : V), vs = [.ref a, y] ∧ OexC K C ∧ PySem.W.findIn K (.ref C) f = some none ∧ H a = some (exo a C none) ∧
  ∀ dx, H dx = none → dx ≠ a → Q .non (upd (upd H dx (exd dx [(f, y)])) a (exo a C (some dx)))
theorem err_body {X : Cx} {f b m : Str} {L : Addr} {j : Nat} {p1 p2 p3 p4 p5 p6 p7 p8 p9 p10 : Pos} {pl : Sem Bool} (hN : X.N = [("self" : Str), f]) (vf : Vis X.env.scope f) (vs : Vis X.env.scope "self") (df : (f == ("__debug__" : Str)) = false) (cf : (f == ("__classdict__" : Str)) = false)
    (gb : Gl X b) (mb : X.mg b = some (.ref L)) (hb : baseB X.K L = true) (hdb : (b == ("__debug__" : Str)) = false)
    (ec : eval (.Call (.Attribute (.Name b p1) "__init__" p2) [.Name "self" p3, .Constant (.str m) j p4] [] p5) X.env = (do
      let ov ← eval (.Name b p1) X.env
      standAt p2.atName
      let (f, first) ← holding [ov] (getMethod ov "__init__" pl)
      callWith p5 f first (backTo p5 (starEach [.Name "self" p3, .Constant (.str m) j p4] X.env)) (backToKw p5 (keywordEach [] X.env))))
    (e1 : starEach [.Name "self" p3, .Constant (.str m) j p4] X.env = (false, eval (.Name "self" p3) X.env) :: starEach [.Constant (.str m) j p4] X.env) (e2 : (backTo p5 (starEach [.Constant (.str m) j p4] X.env)).any (·.1) = false)
    (hs : swapsWith (.Name f p9) (some (.Attribute (.Name "self" p7) f p8)) p10.line X.env = pure false) (pa : ∃ ta, PA X [.Name "self" p3, .Constant (.str m) j p4] ta ∧ ∀ σ H Q, ta σ H Q = ∃ v, σ[0]? = some (some v) ∧ Q [v, .str m] H)
    {H : Hp} {a C : Addr} {y : V} {D : Ends} (T : OexC X.K C) (hno : PySem.W.findIn X.K (.ref C) f = some none) (ha : H a = some (exo a C none)) (hq : ∀ dx, H dx = none → dx ≠ a → ∀ σ, D.nx σ (upd (upd H dx (exd dx [(f, y)])) a (exo a C (some dx)))) :
    WSs X [.Expr (.Call (.Attribute (.Name b p1) "__init__" p2) [.Name "self" p3, .Constant (.str m) j p4] [] p5) p6, .Assign [.Attribute (.Name "self" p7) f p8] (.Name f p9) p10] D [some (.ref a), some y] H := by
  obtain ⟨ta, pa, ea⟩ := pa
  refine PSs.ws (pss_cons (ps_expr (pe_base (pl := pl) gb mb hb pa hdb ec e1 e2)) (pss_cons (ps_ost (pe_var (i := 0) (by rw [hN]; rfl) vs (by decide) (by decide)) (pe_var (i := 1) (by rw [hN]; rfl) vf df cf) hs) pss_nil)) ?_
  unfold tSeq
  show tVeI X.K ta _ H _
  unfold tVeI
  rw [ea]
  refine ⟨.ref a, rfl, a, C, [.str m], rfl, by simp, T, ha, ?_⟩
  show tOst X.K f (tVar 0) (tVar 1) _ _ H
  unfold tOst
  refine ⟨y, rfl, .ref a, rfl, a, C, rfl, T, hno, .inl ⟨ha, fun dx n1 n2 => hq dx n1 n2 _⟩⟩
end Lf
namespace Lf
open PySem PySem.Spec L2
section
variable {cl : Cl} {X : Cx}
/-! ### raise C(e), C an own error with one field -/
theorem ds_raise {x f c : Str} {C fI : Addr} {k : Nat} {fd : FuncData} {ps : List Str} {e : Expr} {p pos pos2 : Pos} {fe : M Val} (hc : X.calm = true) (hC : cl c = some C) (T : OexC X.K C) (hno : PySem.W.findIn X.K (.ref C) f = some none) (iC : PySem.W.findIn X.K (.ref C) "__init__" = some (some (.ref fI))) (tI : PySem.W.typeIn X.K (.ref fI) = some (.type "function"))
    (F1 : FnOk X.prog X.w X.K X.mg X.base (L2.CX X.prog X.w) k fI fd ps (spErr X.K f)) (hr : Room (k + 1) X.A) (hb : Binds X.K fd ps []) (hg : Gl X x) (hm : X.mg x = some (.ref C)) (hdb : (x == ("__debug__" : Str)) = false)
    (he1 : starEach [e] X.env = (false, eval e X.env) :: starEach [] X.env) (hpl : (backTo pos (starEach [] X.env)).any (·.1) = false) (he : DE cl X e fe) :
    DS cl X (.Raise (some (.Call (.Name x p) [e] [] pos)) none pos2) (bnd fe fun v => bnd (frz v) fun t => raise c [(f, t)]) := fun W cw w st σ H D o st' r h pp => by
  refine PS.ws (ps_raise hc cw.tk (pmk_oex (ds := []) (dvs := []) T iC tI F1 hr hb .nil (passes_call (W := W) cw.tk (fun _ _ _ _ z => z.elim)) hg hm (pa_cons peW pa_nil he1) hdb he1 hpl)) ?_
  show WE X e σ H _
  rcases bnd_some h with ⟨c', fs, h1, rfl⟩ | ⟨v, st1, h1, h2⟩
  · exact he W cw w st σ H _ _ st' r h1 pp.toPost
  · refine he W cw w st σ H _ _ st1 r h1 fun w1 H1 l1 r1 y hy => ?_
    rcases bnd_some h2 with ⟨c', fs, h3, rfl⟩ | ⟨t, st2, h3, h4⟩
    · obtain ⟨t, w2, z, _⟩ := frz_at r1 hy h3
      cases z
    · obtain ⟨t', w2, z, l2, r2, q2⟩ := frz_at r1 hy h3
      cases z
      cases h4
      refine ⟨by simp, fun a ha => ⟨a, C, y, by simp, T, hno, upd_same, fun dx n1 n2 => ⟨rfl, dx, [(f, y)], upd_same, by rw [upd_ne n2, upd_same], ?_, ?_⟩⟩⟩
      · rw [upd_ne n2] at n1
        exact n1
      · have nd : H1 dx = none := by rw [upd_ne n2] at n1; exact n1
        have eq : upd (del (upd (upd (upd H1 a (exo a C none)) dx (exd dx [(f, y)])) a (exo a C (some dx))) a) dx (.xd [(f, y)]) = upd H1 dx (.xd [(f, y)]) := by
          funext b
          by_cases hb : b = dx
          · rw [hb, upd_same, upd_same]
          · rw [upd_ne hb, upd_ne hb]
            by_cases hba : b = a
            · rw [hba, del_same, ha]
            · rw [del_ne hba, upd_ne hba, upd_ne hb, upd_ne hba]
        rw [eq]
        obtain ⟨r3, l3⟩ := r2.fresh nd (.xd [(f, y)])
        exact pp _ σ _ _ _ (l1.trans (l2.trans l3)) r3 ⟨C, hC, rfl, .inr ⟨dx, _, rfl, upd_same, .cons (q2.mono l3.g) .nil⟩⟩
/-! ### the suite of an except clause: one return, of constants and fields of the exception -/
/-- an expression of a suite, by the fields of the exception -/
def DX (cl : Cl) (X : Cx) (n : Str) (i : Nat) (cs : List Str) (e : Expr) (g : List (Str × T) → Option T) : Prop :=
  ∀ (a : Addr) (oe : Obj) (pn : List (Addr × Obj)) (c : Str) (C dd : Addr) (vs : List (Str × V)) (fs : List (Str × T)) (t : T) (w : Wd) (st : DSt) (σ : L2.St) (H : Hp) (Q : VK), Zc (.ref C) (some dd) oe → (∃ us, oe.data = .fields us) → cl c = some C → c ∈ cs → R X.K cl w st σ H → σ[i]? = some (some (.ref a)) →
    H dd = some (.xd vs) → RepF X.K cl w.G fs vs → g fs = some t → (∀ w' H' x, Le w H w' H' → R X.K cl w' st σ H' → H' dd = some (.xd vs) → Rep X.K cl w'.G t x → Q x H') → WE (X.suite a ((a, oe) :: pn)) e σ H Q
def DXs (cl : Cl) (X : Cx) (n : Str) (i : Nat) (cs : List Str) (es : List Expr) (g : List (Str × T) → Option (List T)) : Prop :=
  ∀ (a : Addr) (oe : Obj) (pn : List (Addr × Obj)) (c : Str) (C dd : Addr) (vs : List (Str × V)) (fs : List (Str × T)) (t : List T) (w : Wd) (st : DSt) (σ : L2.St) (H : Hp) (Q : List V → Hp → Prop), Zc (.ref C) (some dd) oe → (∃ us, oe.data = .fields us) → cl c = some C → c ∈ cs → R X.K cl w st σ H → σ[i]? = some (some (.ref a)) →
    H dd = some (.xd vs) → RepF X.K cl w.G fs vs → g fs = some t → (∀ w' H' xs, Le w H w' H' → R X.K cl w' st σ H' → H' dd = some (.xd vs) → Reps X.K cl w'.G t xs → Q xs H') → WA (X.suite a ((a, oe) :: pn)) es σ H Q
theorem dx_str {n : Str} {i : Nat} {cs : List Str} {x : Str} {j pos} : DX cl X n i cs (.Constant (.str x) j pos) (fun _ => some (.str x)) := fun a oe pn c C dd vs fs t w st σ H Q hz hf hc hcs r hs hd hr hg hq => by
  cases hg
  exact PE.we pe_str (hq w H _ (Le.refl _ _) r hd (.str x))
theorem dx_non {n : Str} {i : Nat} {cs : List Str} {j pos} : DX cl X n i cs (.Constant .none j pos) (fun _ => some .non) := fun a oe pn c C dd vs fs t w st σ H Q hz hf hc hcs r hs hd hr hg hq => by
  cases hg
  exact PE.we pe_non (hq w H _ (Le.refl _ _) r hd .non)
theorem dx_bl {n : Str} {i : Nat} {cs : List Str} {x : Bool} {j pos} : DX cl X n i cs (.Constant (.bool x) j pos) (fun _ => some (.bl x)) := fun a oe pn c C dd vs fs t w st σ H Q hz hf hc hcs r hs hd hr hg hq => by
  cases hg
  exact PE.we pe_bl (hq w H _ (Le.refl _ _) r hd (.bl x))
theorem RepF.look {K : PySem.W.Frag} {G : Hp} {f : Str} : ∀ {l : List (Str × T)} {m : List (Str × V)} {g : T}, RepF K cl G l m → look l f = some g → ∃ v, m.lookup f = some v ∧ Rep K cl G g v
  | _, _, _, .nil, h => by cases h
  | _, _, g, .cons (k := k) (t := x) (v := v) e t, h => by
    unfold Lf.look at h
    by_cases ej : k = f
    · subst ej
      rw [if_pos rfl] at h
      cases h
      exact ⟨v, by simp [List.lookup], e⟩
    · rw [if_neg ej] at h
      obtain ⟨v', h1, h2⟩ := RepF.look t h
      refine ⟨v', ?_, h2⟩
      have : (f == k) = false := by simpa using fun z : f = k => ej z.symm
      simp only [List.lookup, this]
      exact h1
theorem dx_fld {n : Str} {i : Nat} {cs : List Str} {f : Str} {p pos : Pos} (hN : X.N[i]? = some n) (hv : Vis X.env.scope n) (hd : (n == ("__debug__" : Str)) = false) (hcd : (n == ("__classdict__" : Str)) = false) (hx : ∀ c ∈ cs, ∀ C, cl c = some C → XfC X.K C ∧ PySem.W.findIn X.K (.ref C) f = some none)
    (hb : attributeBase (.Name n p) f X.env (eval (.Name n p) X.env) = eval (.Name n p) X.env) : DX cl X n i cs (.Attribute (.Name n p) f pos) (fun fs => look fs f) := fun a oe pn c C dd vs fs t w st σ H Q hz hf hc hcs r hs hdd hr hg hq => by
  obtain ⟨k1, k2⟩ := hx c hcs C hc
  obtain ⟨v, e1, e2⟩ := hr.look hg
  refine PE.we (pe_xf (X := X) (a := a) (oe := oe) (pn := pn) k1 k2 hz hf (pe_var (X := X.suite a ((a, oe) :: pn)) hN hv hd hcd) hb) ?_
  exact ⟨.ref a, hs, rfl, rfl, dd, vs, v, rfl, hdd, e1, hq w H v (Le.refl _ _) r hdd e2⟩
theorem dxs_nil {n : Str} {i : Nat} {cs : List Str} : DXs cl X n i cs [] (fun _ => some []) := fun a oe pn c C dd vs fs t w st σ H Q hz hf hc hcs r hs hd hr hg hq => by
  cases hg
  exact PA.wa pa_nil (hq w H _ (Le.refl _ _) r hd .nil)
def xCons (g : List (Str × T) → Option T) (gs : List (Str × T) → Option (List T)) : List (Str × T) → Option (List T) := fun fs => match g fs, gs fs with
  | some t, some ts => some (t :: ts)
  | _, _ => none
theorem dxs_cons {n : Str} {i : Nat} {cs : List Str} {e : Expr} {es : List Expr} {g : List (Str × T) → Option T} {gs : List (Str × T) → Option (List T)} (h1 : DX cl X n i cs e g) (h2 : DXs cl X n i cs es gs) (hs : ∀ Y : Cx, Y.env = X.env → starEach (e :: es) Y.env = (false, eval e Y.env) :: starEach es Y.env) : DXs cl X n i cs (e :: es) (xCons g gs) := fun a oe pn c C dd vs fs t w st σ H Q hz hf hc hcs r hsl hd hr hg hq => by
  unfold xCons at hg
  split at hg
  · rename_i x xs e1 e2
    cases hg
    refine PA.wa (X := X.suite a ((a, oe) :: pn)) (pa_cons peW paW (hs _ rfl)) ?_
    refine h1 a oe pn c C dd vs fs x w st σ H _ hz hf hc hcs r hsl hd hr e1 fun w1 H1 y l1 r1 hd1 ry => ?_
    refine h2 a oe pn c C dd vs fs xs w1 st σ H1 _ hz hf hc hcs r1 hsl hd1 (hr.mono l1.g) e2 fun w2 H2 ys l2 r2 hd2 rys => ?_
    exact hq w2 H2 _ (l1.trans l2) r2 hd2 (.cons (ry.mono l2.g) rys)
  · cases hg
def xSeq (mk : List T → T) (gs : List (Str × T) → Option (List T)) : List (Str × T) → Option T := fun fs => match gs fs with
  | some ts => if ts.length ≤ sizeLine then some (mk ts) else none
  | none => none
theorem dx_tup {n : Str} {i : Nat} {cs : List Str} {es : List Expr} {x1} {pos : Pos} {gs : List (Str × T) → Option (List T)} (h : DXs cl X n i cs es gs) : DX cl X n i cs (.Tuple es x1 pos) (xSeq .tup gs) := fun a oe pn c C dd vs fs t w st σ H Q hz hf hc hcs r hsl hd hr hg hq => by
  unfold xSeq at hg
  split at hg
  · rename_i ts e1
    split at hg
    · rename_i hl
      cases hg
      refine PE.we (pe_tup paW) ?_
      refine h a oe pn c C dd vs fs ts w st σ H _ hz hf hc hcs r hsl hd hr e1 fun w1 H1 xs l1 r1 hd1 rx => ?_
      refine ⟨by rw [← rx.length]; exact hl, fun b hb => ?_⟩
      obtain ⟨r2, l2⟩ := r1.fresh hb (.tup xs)
      exact hq _ _ _ (l1.trans l2) r2 (by rw [upd_ne (ne_of_none hd1 hb)]; exact hd1) (.tup upd_same (rx.mono l2.g))
    · cases hg
  · cases hg
theorem dx_lst {n : Str} {i : Nat} {cs : List Str} {es : List Expr} {pos : Pos} {gs : List (Str × T) → Option (List T)} (h : DXs cl X n i cs es gs) : DX cl X n i cs (.List es pos) (xSeq .lst gs) := fun a oe pn c C dd vs fs t w st σ H Q hz hf hc hcs r hsl hd hr hg hq => by
  unfold xSeq at hg
  split at hg
  · rename_i ts e1
    split at hg
    · rename_i hl
      cases hg
      refine PE.we (pe_lst paW) ?_
      refine h a oe pn c C dd vs fs ts w st σ H _ hz hf hc hcs r hsl hd hr e1 fun w1 H1 xs l1 r1 hd1 rx => ?_
      refine ⟨by rw [← rx.length]; exact hl, fun b hb => ?_⟩
      obtain ⟨r2, l2⟩ := r1.fresh hb (.lst xs)
      exact hq _ _ _ (l1.trans l2) r2 (by rw [upd_ne (ne_of_none hd1 hb)]; exact hd1) (.lst upd_same (rx.mono l2.g))
    · cases hg
  · cases hg
/-- try: body / except x as n: return e -/
def dTryR (ms : Str → Option Bool) (cs : List Str) (i : Nat) (f : M Fl) (g : List (Str × T) → Option T) : M Fl := fun s => match f s with
  | some (.exc c fs, s1) => match ms c with
    | some true => if (c ∈ cs ∧ fs ≠ []) ∧ i < s1.δ.length then match g fs with
        | some t => some (.ok (.rt (.t t)), { s1 with δ := s1.δ.set i none })
        | none => none
      else none
    | some false => some (.exc c fs, s1)
    | none => none
  | r => r
theorem R.clear {K : PySem.W.Frag} {w : Wd} {st : DSt} {σ : L2.St} {H : Hp} (r : R K cl w st σ H) (i : Nat) (v : Option V) : R K cl w { st with δ := st.δ.set i none } (σ.set i v) H := by
  refine ⟨r.rc, by simp [r.slen], fun j s e => ?_⟩
  have e : (st.δ.set i none)[j]? = some (some s) := e
  by_cases h : i = j
  · subst h
    by_cases hl : i < st.δ.length
    · rw [List.getElem?_set_self hl] at e; cases e
    · rw [List.getElem?_eq_none (by simpa using hl)] at e; cases e
  · rw [List.getElem?_set_ne h] at e
    rw [List.getElem?_set_ne h]
    exact r.slot j s e
theorem ds_tryR {x n : Str} {c : Value} {i : Nat} {body : List Stmt} {e : Expr} {np rp pos pos' : Pos} {ms : Str → Option Bool} {cs : List Str} {f : M Fl} {g : List (Str × T) → Option T} (hs : X.stack = X.env :: X.outer) (hf : X.env.frame = some X.env.locals) (hN : X.N.Nodup) (hi : X.N[i]? = some n) (hln : X.env.kindOf n = some .local) (hc : Names X x c)
    (hms : ∀ d C b, cl d = some C → ms d = some b → PySem.W.exmOne X.K (.ref C) c = some b)
    (hb : ∀ (pn : List (Addr × Obj)) (xe : Value → Shared → Prop), DSs cl (X.tr pn xe) body f) (hg : DX cl X n i cs e g) :
    DS cl X (.Try body [.ExceptHandler (some (.Name x np)) (some n) [.Return (some e) rp] pos'] [] [] pos) (dTryR ms cs i f g) := fun W cw w st σ H D o st' r h pp => by
  intro pins s I
  refine (ps_try_as (X := X) (tb := fun W' D σ H => ∀ (pn : List (Addr × Obj)) (xe : Value → Shared → Prop), Takes (X.tr pn xe) W' → PassesOwn (model X.prog X.w) X.A X.env xe → WSs (X.tr pn xe) body D σ H)
    (ts := fun a cls d D σ H => ∀ (oe : Obj) (pn : List (Addr × Obj)), Zc cls d oe → (∃ us, oe.data = .fields us) → WSs (X.suite a ((a, oe) :: pn)) [.Return (some e) rp] D σ H) hs hf hN hi hln hc cw.tk
    (fun W' pn xe tk po => ⟨fun pins s σ H D I h => h pn xe tk po pins s I⟩) (fun a oe cls d pn hz hd => ⟨fun pins s σ H D I h => h oe pn hz hd pins s I⟩)).run pins s σ H D I ?_
  intro pn xe tk po
  unfold dTryR at h
  split at h
  · rename_i d fs s1 e1
    refine hb pn xe _ ⟨tk, po⟩ w st σ H D _ s1 r e1 fun w1 σ1 H1 cv dd l1 r1 hx => ?_
    obtain ⟨C, k1, rfl, k3⟩ := hx
    split at h
    · rename_i em
      refine ⟨true, hms d C true k1 em, fun _ a ha oe pn' hz hdt => ?_, fun z => by cases z⟩
      split at h
      · rename_i hh
        obtain ⟨⟨hcs, hne⟩, hil0⟩ := hh
        split at h
        · rename_i t et
          cases h
          rcases k3 with k3 | ⟨d1, vs1, rfl, q2, q3⟩
          · exact absurd k3 hne
          · refine PSs.ws (pss_cons (ps_ret peW) pss_nil) ?_
            have hil : i < σ1.length := by rw [← r1.slen]; exact hil0
            refine hg a oe pn' d C d1 vs1 fs t w1 _ _ H1 _ hz hdt k1 hcs (r1.clear i (some (.ref a))) (by rw [List.getElem?_set_self hil]) q2 q3 et fun w2 H2 y l2 r2 _ ry => ?_
            exact pp w2 _ H2 (l1.trans l2) r2 y ry
        · cases h
      · cases h
    · rename_i em
      cases h
      exact ⟨false, hms d C false k1 em, fun z => absurd z (by decide), fun _ => pp w1 σ1 H1 _ _ l1 r1 ⟨C, k1, rfl, k3⟩⟩
    · cases h
  · rename_i rr hrr
    have hne : ∀ cc ff, o = .exc cc ff → False := fun cc ff z => by subst z; exact hrr cc ff st' h
    refine hb pn xe _ ⟨tk, po⟩ w st σ H D o st' r h ?_
    cases o with
    | ok v => cases v <;> exact pp
    | exc cc ff => exact (hne cc ff rfl).elim
end
end Lf
namespace Lf
open PySem PySem.Spec L2
/-! ### the rules with their side conditions filled in -/
abbrev oSub := dInt yes2 fun i j => T.int (i - j)
abbrev oDiv := dInt cDiv fun i j => T.int (i / j)
abbrev oMod := dInt cMod fun i j => T.int (i % j)
abbrev oPow := dInt cPow fun i j => T.int (i ^ j.toNat)
abbrev oLt := dInt yes2 fun i j => T.bl (decide (i < j))
abbrev oLe := dInt yes2 fun i j => T.bl (decide (i ≤ j))
abbrev oGt := dInt yes2 fun i j => T.bl (decide (j < i))
abbrev oGe := dInt yes2 fun i j => T.bl (decide (j ≤ i))
abbrev cInt (i : Int) : M Val := ret (.t (.int i))
abbrev cStr (x : Str) : M Val := ret (.t (.str x))
abbrev cBl (b : Bool) : M Val := ret (.t (.bl b))
abbrev cNon : M Val := ret (.t .non)
def dLst (f : M (List Val)) : M Own := bnd f fun vs => bnd (frzs vs) fun ts => if ts.length ≤ sizeLine then ret (.lst ts) else stuck
def dTup (f : M (List Val)) : M Val := bnd f fun vs => bnd (frzs vs) fun ts => if ts.length ≤ sizeLine then ret (.t (.tup ts)) else stuck
def dSet (i : Nat) (f : M Val) : M Fl := bnd f fun v => bnd (put i v) fun _ => ret .nx
def dOwn (i : Nat) (f : M Own) : M Fl := bnd f fun v => bnd (putO i v) fun _ => ret .nx
def dCellS (i : Nat) (f : M Own) : M Fl := bnd f fun v => bnd (newCell v) fun n => bnd (put i (.loc n)) fun _ => ret .nx
def dExpr (f : M Val) : M Fl := bnd f fun _ => ret .nx
def dRet (f : M Val) : M Fl := bnd f back
def dRetF (f : M Own) : M Fl := bnd f fun o => ret (.rf o)
def dKeep (f : M Own) : M Val := bnd f keep
def dT (f : M Val) : M Bool := bnd f asBl
def dTC (g : Val → Val → M Val) (fa fb : M Val) : M Bool := bnd (dBin g fa fb) asBl
def dFld (cs : List Str) (f : Str) (fo fe : M Val) : M Fl := bnd fe fun v => bnd fo fun a => bnd (asFv v) fun g => bnd (setF cs f a g) fun _ => ret .nx
def dFldC (cs : List Str) (f : Str) (fo : M Val) (fe : M Own) : M Fl := bnd fe fun v => bnd (newCell v) fun n => bnd fo fun a => bnd (setF cs f a (.loc n)) fun _ => ret .nx
def dSetIx (fo fi fe : M Val) : M Fl := bnd fe fun v => bnd fo fun a => bnd fi fun j => bnd (setIx a j v) fun _ => ret .nx
def dAt (cs : List Str) (f : Str) (fe : M Val) : M Val := bnd fe (dAttr cs f)
def dCallV (F : DFun) (fa : M (List Val)) : M Val := bnd (dCall F fa) retV
def dCallO (F : DFun) (fa : M (List Val)) : M Own := bnd (dCall F fa) retO
def dMethV (c m : Str) (F : DFun) (fo : M Val) (fa : M (List Val)) : M Val := bnd (dMethC c m F fo fa) retV
def dMake (c : Str) (F : DFun) (fa : M (List Val)) : M Val := bnd fa fun vs => bnd (asFvs vs) fun fs => mkObj c F fs
def dRaise (c f : Str) (fe : M Val) : M Fl := bnd fe fun v => bnd (frz v) fun t => raise c [(f, t)]
def iSeq (f : M Val) : M Its := bnd f walkOf
def iRange1 (f : M (List Val)) : M Its := bnd f fun vs => if vs.length = 1 then mkRange vs else stuck
def iRange2 (f : M (List Val)) : M Its := bnd f fun vs => if vs.length = 2 then mkRange vs else stuck
def iEnum (f : M (List Val)) : M Its := bnd f fun vs => match vs with | [v] => walkEnum v | _ => stuck
def pInt (f : M Val) : M (Option Int) := bnd f fun v => match v with | .t (.int i) => ret (some i) | _ => stuck
def dJn (fo fe : M Val) : M Val := bnd fo fun a => if isStr a then bnd fe fun b => dJoin a b else stuck
section
variable {cl : Cl} {X : Cx}
theorem gv (i : Nat) {x : Str} {pos : Pos} (h1 : X.N[i]? = some x := by rfl) (h2 : Vis X.env.scope x := by first | exact Or.inl rfl | exact Or.inr (Or.inl rfl) | exact Or.inr (Or.inr rfl)) (h3 : (x == ("__debug__" : Str)) = false := by decide) (h4 : (x == ("__classdict__" : Str)) = false := by decide) :
    DE cl X (.Name x pos) (dVar i) := de_var h1 h2 h3 h4
theorem gGS {x y : Str} {pos : Pos} (h : ∃ tk, X.mg x = some (.str y tk)) (hg : Gl X x := by rfl) (hd : (x == ("__debug__" : Str)) = false := by decide) : DE cl X (.Name x pos) (cStr y) := by
  obtain ⟨tk, h⟩ := h
  exact de_globS hg h hd
theorem gGI {x : Str} {i : Int} {pos : Pos} (h : ∃ tk, X.mg x = some (.int i tk)) (hg : Gl X x := by rfl) (hd : (x == ("__debug__" : Str)) = false := by decide) : DE cl X (.Name x pos) (cInt i) := by
  obtain ⟨tk, h⟩ := h
  exact de_globI hg h hd
theorem gCmp {op : CmpOp} {g : Val → Val → M Val} {a b : Expr} {pos : Pos} {fa fb : M Val} (ho : DOp cl X (compareOp op) g) (ha : DE cl X a fa) (hb : DE cl X b fb) (hm : behindInMarks op b = false := by rfl) : DE cl X (.Compare a [op] [b] pos) (dBin g fa fb) := de_cmp ho hm ha hb
theorem tCmp {op : CmpOp} {g : Val → Val → M Val} {a b : Expr} {pos : Pos} {fa fb : M Val} (ho : DOp cl X (compareOp op) g) (ha : DE cl X a fa) (hb : DE cl X b fb) (hm : behindInMarks op b = false := by rfl) : DT cl X (.Compare a [op] [b] pos) (dTC g fa fb) := dt_cmp ho hm ha hb
theorem gChain {op op' : CmpOp} {g g' : Val → Val → M Val} {a b c : Expr} {pos : Pos} {fa fb fc : M Val} (ho : DOp cl X (compareOp op) g) (ho' : DOp cl X (compareOp op') g') (ha : DE cl X a fa) (hb : DE cl X b fb) (hc : DE cl X c fc) (hm : lastMarks [op, op'] [b, c] = false := by rfl) : DE cl X (.Compare a [op, op'] [b, c] pos) (dChain g g' fa fb fc) := de_chain ho ho' hm ha hb hc
theorem tV {e : Expr} {f : M Val} (h : DE cl X e f) (he : ∀ whole, isTrue e X.env whole = (do let v ← whole; standAt e.pos; holding [v] (truthy v)) := by intro _; rfl) : DT cl X e (dT f) := dt_val he h
theorem gFr {e : Expr} {f : M Own} (h : DF cl X e f) : DE cl X e (dKeep f) := h.de
theorem gA {e : Expr} {es : List Expr} {f : M Val} {g : M (List Val)} (ha : DE cl X e f) (hb : DA cl X es g) (hs : starEach (e :: es) X.env = (false, eval e X.env) :: starEach es X.env := by rfl) : DA cl X (e :: es) (dCons f g) := da_cons hs ha hb
theorem gAs {e : Expr} {es : List Expr} {p : Pos} {f : M Val} {g : M (List Val)} (ha : DE cl X e f) (hb : DA cl X es g) (hs : starEach (.Starred e p :: es) X.env = (true, eval e X.env) :: starEach es X.env := by rfl) : DA cl X (.Starred e p :: es) (dStar f g) := da_star hs ha hb
theorem gLst {es : List Expr} {pos : Pos} {f : M (List Val)} (h : DA cl X es f) : DF cl X (.List es pos) (dLst f) := df_lst h
theorem gTup {es : List Expr} {x1} {pos : Pos} {f : M (List Val)} (h : DA cl X es f) : DE cl X (.Tuple es x1 pos) (dTup f) := de_tup h
theorem gIx {a b : Expr} {pos : Pos} {fa fb : M Val} {k : Nat} (hr : Room k X.A) (ha : DE cl X a fa) (hb : DE cl X b fb) (hs : PlainIx b := by intro _ _; rfl) : DE cl X (.Subscript a b pos) (dBin dIx fa fb) := de_ix hr hs ha hb
theorem gAt {e : Expr} {f : Str} {pos : Pos} {cs : List Str} {fe : M Val} (hc : HasA cl X.K cs f) (he : DE cl X e fe) (hb : attributeBase e f X.env (eval e X.env) = eval e X.env := by rfl) : DE cl X (.Attribute e f pos) (dAt cs f fe) := de_attr hc hb he
theorem gB {id : String} {g : List Val → M Val} {x : Str} {e : Expr} {es : List Expr} {p pos : Pos} {fa : M (List Val)} (hc : DC cl X (.builtin id) g) (hm : X.mg x = none) (hv : bootBuiltins x = some (.builtin id)) (ha : DA cl X (e :: es) fa) (hg : Gl X x := by rfl) (hn : x ≠ "__name__" := by decide) (hdb : (x == ("__debug__" : Str)) = false := by decide)
    (he : starEach (e :: es) X.env = (false, eval e X.env) :: starEach es X.env := by rfl) (hpl : (backTo pos (starEach es X.env)).any (·.1) = false := by rfl) : DE cl X (.Call (.Name x p) (e :: es) [] pos) (bnd fa g) := de_callB hc hg hm hv hn hdb he hpl ha
theorem gTy {id : String} {g : List Val → M Val} {x : Str} {e : Expr} {es : List Expr} {p pos : Pos} {fa : M (List Val)} (hc : DC cl X (.type id) g) (hm : X.mg x = none) (hv : bootBuiltins x = some (.type id)) (ha : DA cl X (e :: es) fa) (hg : Gl X x := by rfl) (hn : x ≠ "__name__" := by decide) (hdb : (x == ("__debug__" : Str)) = false := by decide)
    (he : starEach (e :: es) X.env = (false, eval e X.env) :: starEach es X.env := by rfl) (hpl : (backTo pos (starEach es X.env)).any (·.1) = false := by rfl) : DE cl X (.Call (.Name x p) (e :: es) [] pos) (bnd fa g) := de_callTy hc hg hm hv hn hdb he hpl ha
theorem gTyF {id : String} {g : List Val → M Own} {x : Str} {e : Expr} {es : List Expr} {p pos : Pos} {fa : M (List Val)} (hc : DCF cl X (.type id) g) (hm : X.mg x = none) (hv : bootBuiltins x = some (.type id)) (ha : DA cl X (e :: es) fa) (hg : Gl X x := by rfl) (hn : x ≠ "__name__" := by decide) (hdb : (x == ("__debug__" : Str)) = false := by decide)
    (he : starEach (e :: es) X.env = (false, eval e X.env) :: starEach es X.env := by rfl) (hpl : (backTo pos (starEach es X.env)).any (·.1) = false := by rfl) : DF cl X (.Call (.Name x p) (e :: es) [] pos) (bnd fa g) := df_callTy hc hg hm hv hn hdb he hpl ha
section
variable {k : Nat} {f C : Addr} {fd : FuncData} {ps : List Str} {F : DFun} {x m : Str} {p pos apos : Pos} {e o : Expr} {es : List Expr} {fa : M (List Val)} {fo : M Val}
theorem gCall (G : FnOk X.prog X.w X.K X.mg X.base (L2.CX X.prog X.w) k f fd ps (spD cl X.K ps.length F)) (hr : Room k X.A) (hm : X.mg x = some (.ref f)) (hk : PySem.W.keepIn X.K (.ref f) = true) (hb : Binds X.K fd ps []) (hla : Len ps.length fa) (ha : DA cl X (e :: es) fa)
    (hg : Gl X x := by rfl) (hdb : (x == ("__debug__" : Str)) = false := by decide) (he : starEach (e :: es) X.env = (false, eval e X.env) :: starEach es X.env := by rfl) (hpl : (backTo pos (starEach es X.env)).any (·.1) = false := by rfl) : DE cl X (.Call (.Name x p) (e :: es) [] pos) (dCallV F fa) := de_call G hr hg hm hk hb hdb he hpl hla ha
theorem gCallF (G : FnOk X.prog X.w X.K X.mg X.base (L2.CX X.prog X.w) k f fd ps (spD cl X.K ps.length F)) (hr : Room k X.A) (hm : X.mg x = some (.ref f)) (hk : PySem.W.keepIn X.K (.ref f) = true) (hb : Binds X.K fd ps []) (hla : Len ps.length fa) (ha : DA cl X (e :: es) fa)
    (hg : Gl X x := by rfl) (hdb : (x == ("__debug__" : Str)) = false := by decide) (he : starEach (e :: es) X.env = (false, eval e X.env) :: starEach es X.env := by rfl) (hpl : (backTo pos (starEach es X.env)).any (·.1) = false := by rfl) : DF cl X (.Call (.Name x p) (e :: es) [] pos) (dCallO F fa) := df_call G hr hg hm hk hb hdb he hpl hla ha
theorem gMeth {pl : Sem Bool} {c : Str} {n : Nat} (hC : cl c = some C) (hcl : Cls X.K C) (hm : Meth X.K C m f) (G : FnOk X.prog X.w X.K X.mg X.base (L2.CX X.prog X.w) k f fd ps (spD cl X.K ps.length F)) (hr : Room k X.A) (hb : Binds X.K fd ps []) (hn : n + 1 = ps.length) (hla : Len n fa) (ho : DE cl X o fo) (ha : DA cl X (e :: es) fa)
    (hst : starEach (e :: es) X.env = (false, eval e X.env) :: starEach es X.env := by rfl) (hpl : (backTo pos (starEach es X.env)).any (·.1) = false := by rfl)
    (ht : eval (.Call (.Attribute o m apos) (e :: es) [] pos) X.env = (do
      let ov ← eval o X.env
      standAt apos.atName
      let (f, first) ← holding [ov] (getMethod ov m pl)
      callWith pos f first (backTo pos (starEach (e :: es) X.env)) (backToKw pos (keywordEach [] X.env))) := by rfl) :
    DE cl X (.Call (.Attribute o m apos) (e :: es) [] pos) (dMethV c m F fo fa) := de_meth hC hcl hm G hr hb hst hpl ht hn hla ho ha
theorem gMeth0 {pl : Sem Bool} {c : Str} (hC : cl c = some C) (hcl : Cls X.K C) (hm : Meth X.K C m f) (G : FnOk X.prog X.w X.K X.mg X.base (L2.CX X.prog X.w) k f fd ps (spD cl X.K ps.length F)) (hr : Room k X.A) (hb : Binds X.K fd ps []) (hn : 1 = ps.length) (ho : DE cl X o fo)
    (ht : eval (.Call (.Attribute o m apos) [] [] pos) X.env = (do
      let ov ← eval o X.env
      standAt apos.atName
      let (f, first) ← holding [ov] (getMethod ov m pl)
      callWith pos f first (backTo pos (starEach [] X.env)) (backToKw pos (keywordEach [] X.env))) := by rfl) :
    DE cl X (.Call (.Attribute o m apos) [] [] pos) (dMethV c m F fo (ret [])) := de_meth0 hC hcl hm G hr hb ht hn ho
theorem gMake {c : Str} {n : Nat} (hC : cl c = some C) (Mm : Mk X.K C f) (G : FnOk X.prog X.w X.K X.mg X.base (L2.CX X.prog X.w) k f fd ps (spD cl X.K ps.length F)) (hr : Room (k + 1) X.A) (hm : X.mg x = some (.ref C)) (hb : Binds X.K fd ps []) (hn : n + 1 = ps.length) (hla : Len n fa) (ha : DA cl X (e :: es) fa)
    (hg : Gl X x := by rfl) (hdb : (x == ("__debug__" : Str)) = false := by decide) (he : starEach (e :: es) X.env = (false, eval e X.env) :: starEach es X.env := by rfl) (hpl : (backTo pos (starEach es X.env)).any (·.1) = false := by rfl) :
    DE cl X (.Call (.Name x p) (e :: es) [] pos) (dMake c F fa) := de_make hC Mm G hr hg hm hb hdb he hpl hn hla ha
end
theorem gLm {o e : Expr} {es : List Expr} {name : Str} {apos cpos : Pos} {id : String} {fo : M Val} {fa : M (List Val)} {g : Val → List Val → M Val} (slot : PySem.Slot "list" name id) (hty : typeOf (.builtin id) = pure (.type "method_descriptor")) (hm : DMt cl X id g) (ho : DE cl X o fo) (ha : DA cl X (e :: es) fa)
    (hbase : attributeBase o name X.env (eval o X.env) = eval o X.env := by rfl)
    (hfew : ((backTo cpos (starEach (e :: es) X.env)).all (fun x => !x.1) && (backToKw cpos (keywordEach [] X.env)).all (fun x => x.1.isSome)
      && decide ((e :: es).length + ([] : List Keyword).length + (if ([] : List Keyword).isEmpty then 0 else 1) < 30)) = true := by rfl)
    (hline : (apos.endLine == cpos.line) = true := by rfl) (hs : starEach (e :: es) X.env = (false, eval e X.env) :: starEach es X.env := by rfl) (hplain : (backTo cpos (starEach es X.env)).any (·.1) = false := by rfl) :
    DE cl X (.Call (.Attribute o name apos) (e :: es) [] cpos) (dMeth fo fa g) := de_lm slot hty hm hbase hfew hline hs hplain ho ha
theorem gJn {o e : Expr} {apos pos : Pos} {fo fe : M Val} (ho : DE cl X o fo) (he : DE cl X e fe) (hs : starEach [e] X.env = [(false, eval e X.env)] := by rfl) (hbase : attributeBase o "join" X.env (eval o X.env) = eval o X.env := by rfl) (hline : (apos.endLine == pos.line) = true := by rfl) :
    DE cl X (.Call (.Attribute o "join" apos) [e] [] pos) (dJn fo fe) := de_join hs hbase hline ho he
theorem gIsi1 {e : Expr} {ty : String} {tyS : Str} {p p1 pos : Pos} {f : M Val} (hm : X.mg "isinstance" = none) (hm1 : X.mg tyS = none) (hk : KitOk ty) (hv1 : bootBuiltins tyS = some (.type ty)) (h : DE cl X e f) (hg : Gl X "isinstance" := by rfl) (hg1 : Gl X tyS := by rfl) (hn1 : tyS ≠ "__name__" := by decide) (hd1 : (tyS == ("__debug__" : Str)) = false := by decide)
    (he : starEach [e, .Name tyS p1] X.env = (false, eval e X.env) :: starEach [.Name tyS p1] X.env := by rfl) : DE cl X (.Call (.Name "isinstance" p) [e, .Name tyS p1] [] pos) (bnd f (dIsi [ty])) := de_isi1 hk hg hm hg1 hm1 hv1 hn1 hd1 he h
theorem gIsi2 {e : Expr} {ty1 ty2 : String} {tS1 tS2 : Str} {p p1 p2 pt pos : Pos} {kt : Nat} {f : M Val} (hm : X.mg "isinstance" = none) (hm1 : X.mg tS1 = none) (hm2 : X.mg tS2 = none) (hk1 : KitOk ty1) (hk2 : KitOk ty2) (hv1 : bootBuiltins tS1 = some (.type ty1)) (hv2 : bootBuiltins tS2 = some (.type ty2)) (h : DE cl X e f) (hg : Gl X "isinstance" := by rfl) (hg1 : Gl X tS1 := by rfl) (hg2 : Gl X tS2 := by rfl)
    (hn1 : tS1 ≠ "__name__" := by decide) (hd1 : (tS1 == ("__debug__" : Str)) = false := by decide) (hn2 : tS2 ≠ "__name__" := by decide) (hd2 : (tS2 == ("__debug__" : Str)) = false := by decide)
    (he : starEach [e, .Tuple [.Name tS1 p1, .Name tS2 p2] kt pt] X.env = (false, eval e X.env) :: starEach [.Tuple [.Name tS1 p1, .Name tS2 p2] kt pt] X.env := by rfl) : DE cl X (.Call (.Name "isinstance" p) [e, .Tuple [.Name tS1 p1, .Name tS2 p2] kt pt] [] pos) (bnd f (dIsi [ty1, ty2])) := de_isi2 hk1 hk2 hg hm hg1 hm1 hv1 hn1 hd1 hg2 hm2 hv2 hn2 hd2 he h
theorem gPt {e : Expr} {f : M Val} (h : DE cl X e f) : DPt cl X (some e) (pInt f) := .ds h
theorem iS {tg e : Expr} {f : M Val} (he : DE cl X e f) : DI cl X tg e (iSeq f) := di_seq he
theorem iR1 {tg a : Expr} {p pos : Pos} {f : M (List Val)} (hm : X.mg "range" = none) (ha : DA cl X [a] f) (hg : Gl X "range" := by rfl) (hs : starEach [a] X.env = [(false, eval a X.env)] := by rfl) : DI cl X tg (.Call (.Name "range" p) [a] [] pos) (iRange1 f) := di_range1 hg hm hs ha
theorem iR2 {tg a b : Expr} {p pos : Pos} {f : M (List Val)} (hm : X.mg "range" = none) (ha : DA cl X [a, b] f) (hg : Gl X "range" := by rfl) (hs : starEach [a, b] X.env = [(false, eval a X.env), (false, eval b X.env)] := by rfl) (hs2 : starEach [b] X.env = [(false, eval b X.env)] := by rfl) : DI cl X tg (.Call (.Name "range" p) [a, b] [] pos) (iRange2 f) := di_range2 hg hm hs hs2 ha
theorem iE {e : Expr} {elts : List Expr} {kk : Nat} {p pos tpos : Pos} {f : M (List Val)} (hm : X.mg "enumerate" = none) (ha : DA cl X [e] f) (hg : Gl X "enumerate" := by rfl) (hs : starEach [e] X.env = [(false, eval e X.env)] := by rfl) : DI cl X (.Tuple elts kk tpos) (.Call (.Name "enumerate" p) [e] [] pos) (iEnum f) := di_enum hg hm hs ha
theorem gN (i : Nat) {x : Str} {pos : Pos} (hN : X.N.Nodup) (h1 : X.N[i]? = some x := by rfl) (h2 : Loc X.env.scope x := by first | exact Or.inl rfl | exact Or.inr rfl) (h3 : X.fn x = true ∨ X.env.scope.names.lookup x = some .local := by first | exact Or.inl rfl | exact Or.inr rfl) : DG cl X (.Name x pos) [i] (put i) := dg_name hN h1 h2 h3
theorem nmC (i : Nat) {x : Str} {pos : Pos} {es : List Expr} {is : List Nat} (h : NmA X es is) (h1 : X.N[i]? = some x := by rfl) (h2 : Loc X.env.scope x := by first | exact Or.inl rfl | exact Or.inr rfl) (h3 : X.fn x = true ∨ X.env.scope.names.lookup x = some .local := by first | exact Or.inl rfl | exact Or.inr rfl) : NmA X (.Name x pos :: es) (i :: is) := .cons h1 h2 h3 h
/-! statements -/
theorem sSet (i : Nat) {x : Str} {e : Expr} {pos pos' : Pos} {f : M Val} (hN : X.N.Nodup) (he : DE cl X e f) (hi : X.N[i]? = some x := by rfl) (hx : Loc X.env.scope x := by first | exact Or.inl rfl | exact Or.inr rfl) (hs : swapsWith e (some (.Name x pos')) pos.line X.env = pure false := by rfl) (hf : X.fn x = true ∨ X.env.scope.names.lookup x = some .local := by first | exact Or.inl rfl | exact Or.inr rfl) :
    DS cl X (.Assign [.Name x pos'] e pos) (dSet i f) := ds_set hN hi hx hs hf he
theorem sOwn (i : Nat) {x : Str} {e : Expr} {pos pos' : Pos} {f : M Own} (hN : X.N.Nodup) (he : DF cl X e f) (hi : X.N[i]? = some x := by rfl) (hx : Loc X.env.scope x := by first | exact Or.inl rfl | exact Or.inr rfl) (hs : swapsWith e (some (.Name x pos')) pos.line X.env = pure false := by rfl) (hf : X.fn x = true ∨ X.env.scope.names.lookup x = some .local := by first | exact Or.inl rfl | exact Or.inr rfl) :
    DS cl X (.Assign [.Name x pos'] e pos) (dOwn i f) := ds_own hN hi hx hs hf he
theorem sCell (i : Nat) {x : Str} {e : Expr} {pos pos' : Pos} {f : M Own} (hN : X.N.Nodup) (he : DF cl X e f) (hi : X.N[i]? = some x := by rfl) (hx : Loc X.env.scope x := by first | exact Or.inl rfl | exact Or.inr rfl) (hs : swapsWith e (some (.Name x pos')) pos.line X.env = pure false := by rfl) (hf : X.fn x = true ∨ X.env.scope.names.lookup x = some .local := by first | exact Or.inl rfl | exact Or.inr rfl) :
    DS cl X (.Assign [.Name x pos'] e pos) (dCellS i f) := ds_cell hN hi hx hs hf he
theorem sExpr {e : Expr} {pos : Pos} {f : M Val} (he : DE cl X e f) (hs : swapsWith e none pos.line X.env = pure false := by rfl) : DS cl X (.Expr e pos) (dExpr f) := ds_expr hs he
theorem sRet {e : Expr} {pos : Pos} {f : M Val} (he : DE cl X e f) : DS cl X (.Return (some e) pos) (dRet f) := ds_ret he
theorem sRetF {e : Expr} {pos : Pos} {f : M Own} (he : DF cl X e f) : DS cl X (.Return (some e) pos) (dRetF f) := ds_retF he
theorem sFor {tg iter : Expr} {body : List Stmt} {pos : Pos} {fi : M Its} {g : Val → M Unit} {fb : M Fl} {vs : List Nat} (hcalm : X.calm = true) (hq : Quiet g) (hi : DI cl X tg iter fi) (hg : DG cl X tg vs g) (hb : DSs cl X body fb) (hsf : ∀ x, foldedSetIterable iter X.env x = pure x := by intro _; rfl) : DS cl X (.For tg iter body [] pos) (dFor fi g fb) := ds_for hcalm hsf hq hi hg hb
theorem sForK {tg iter : Expr} {body : List Stmt} {pos : Pos} {fe : M Val} {g : Val → M Unit} {fb : M Fl} {vs : List Nat} (hcalm : X.calm = true) (hq : Quiet g) (hi : DE cl X iter fe) (hg : DG cl X tg vs g) (hb : DSs cl X body fb) (hsf : ∀ x, foldedSetIterable iter X.env x = pure x := by intro _; rfl) : DS cl X (.For tg iter body [] pos) (dForK fe g fb) := ds_forK hcalm hsf hq hi hg hb
theorem sFld {o e : Expr} {f : Str} {pos pos' : Pos} {cs : List Str} {fo fe : M Val} (hc : HasA cl X.K cs f) (ho : DE cl X o fo) (he : DE cl X e fe) (hs : swapsWith e (some (.Attribute o f pos')) pos.line X.env = pure false := by rfl) : DS cl X (.Assign [.Attribute o f pos'] e pos) (dFld cs f fo fe) := ds_fld hc hs ho he
theorem sFldC {o e : Expr} {f : Str} {pos pos' : Pos} {cs : List Str} {fo : M Val} {fe : M Own} (hc : HasA cl X.K cs f) (ho : DE cl X o fo) (he : DF cl X e fe) (hs : swapsWith e (some (.Attribute o f pos')) pos.line X.env = pure false := by rfl) : DS cl X (.Assign [.Attribute o f pos'] e pos) (dFldC cs f fo fe) := ds_fldC hc hs ho he
theorem sIx {o i e : Expr} {pos pos' : Pos} {fo fi fe : M Val} {k : Nat} (hr : Room k X.A) (ho : DE cl X o fo) (hi : DE cl X i fi) (he : DE cl X e fe) (hs : swapsWith e (some (.Subscript o i pos')) pos.line X.env = pure false := by rfl) (hso : swapsWithSole [.Subscript o i pos'] e pos.line X.env = pure false := by rfl) (hw : swappedStores [.Subscript o i pos'] e X.env = pure none := by rfl)
    (h1 : (assignEach [.Subscript o i pos'] X.env).map (·.2) = [assign (.Subscript o i pos') X.env] := by rfl)
    (hsub : ∀ v, assign (.Subscript o i pos') X.env v = (do
      let ov ← holding [v] (eval o X.env)
      let iv ← holding [v, ov] (eval i X.env)
      standAt pos'
      holding [v, ov, iv] (setItem ov iv v)
      release [v, ov, iv] []) := by intro _; rfl) : DS cl X (.Assign [.Subscript o i pos'] e pos) (dSetIx fo fi fe) := ds_setix hr hs hso hw h1 hsub ho hi he
theorem sRaise {x f c : Str} {C fI : Addr} {k : Nat} {fd : FuncData} {ps : List Str} {e : Expr} {p pos pos2 : Pos} {fe : M Val} (hc : X.calm = true) (hC : cl c = some C) (T : OexC X.K C) (hno : PySem.W.findIn X.K (.ref C) f = some none) (iC : PySem.W.findIn X.K (.ref C) "__init__" = some (some (.ref fI))) (tI : PySem.W.typeIn X.K (.ref fI) = some (.type "function"))
    (F1 : FnOk X.prog X.w X.K X.mg X.base (L2.CX X.prog X.w) k fI fd ps (spErr X.K f)) (hr : Room (k + 1) X.A) (hb : Binds X.K fd ps []) (hm : X.mg x = some (.ref C)) (he : DE cl X e fe) (hg : Gl X x := by rfl) (hdb : (x == ("__debug__" : Str)) = false := by decide)
    (he1 : starEach [e] X.env = (false, eval e X.env) :: starEach [] X.env := by rfl) (hpl : (backTo pos (starEach [] X.env)).any (·.1) = false := by rfl) :
    DS cl X (.Raise (some (.Call (.Name x p) [e] [] pos)) none pos2) (dRaise c f fe) := ds_raise hc hC T hno iC tI F1 hr hb hg hm hdb he1 hpl he
end
end Lf
namespace Lf
open PySem PySem.Spec L2
section
variable {cl : Cl} {X : Cx}
/-! ### {k: v} -/
def one1 (t : T) (k : Val) : M Own := match k with
  | .t x => match keyT x with
    | some j => ret (.dic false [(j, t)])
    | none => stuck
  | _ => stuck
def dDict1 (fk fv : M Val) : M Own := bnd fk fun k => bnd fv fun v => bnd (frz v) fun t => one1 t k
theorem Le.laid {w : Wd} {H : Hp} {p : Addr} {o : HO} (hp : H p = none) : Le w H w (upd H p o) :=
  ⟨List.prefix_refl _, Same.refl _, fun _ h _ => h, fun a u _ h => by rw [upd_ne (ne_of_none h hp)]; exact h, fun _ _ _ => rfl⟩
theorem gDict1 {k v : Expr} {pos : Pos} {fk fv : M Val} (hk : DE cl X k fk) (hv : DE cl X v fv) : DF cl X (.Dict [some k] [v] pos) (dDict1 fk fv) := fun W cw w st σ H Q o st' r h p => by
  refine PE.we (pe_disp (pps_cons peW peW pps_nil) rfl rfl (by simp) (by simp)) ?_
  intro a ha
  obtain ⟨ga, oa⟩ := r.free ha
  have l0 : Le w H w (upd H a (.dK [])) := Le.laid ha
  have r0 : R X.K cl w st σ (upd H a (.dK [])) := r.swap ga oa fun b hb => upd_ne hb
  have p0 := p.after l0
  show WE X k σ (upd H a (.dK [])) _
  rcases bnd_some h with ⟨c, fs, h1, rfl⟩ | ⟨x, st1, h1, h2⟩
  · exact hk W cw w st σ _ _ _ st' r0 h1 p0.exc
  · refine hk W cw w st σ _ _ _ st1 r0 h1 fun w1 H1 l1 r1 x' hx => ?_
    show WE X v σ H1 _
    rcases bnd_some h2 with ⟨c, fs, h3, rfl⟩ | ⟨y, st2, h3, h4⟩
    · exact hv W cw w1 st1 σ _ _ _ st' r1 h3 (p0.after l1).exc
    · refine hv W cw w1 st1 σ _ _ _ st2 r1 h3 fun w2 H2 l2 r2 y' hy => ?_
      rcases bnd_some h4 with ⟨c, fs, h5, rfl⟩ | ⟨t, st3, h5, h6⟩
      · obtain ⟨t, w', z, _⟩ := frz_at r2 hy h5
        cases z
      · obtain ⟨t', w3, z, l3, r3, q3⟩ := frz_at r2 hy h5
        cases z
        have h6 : one1 t x st3 = some (o, st') := h6
        cases x with
        | loc n => cases h6
        | sl i => cases h6
        | t xt =>
          cases ej : keyT xt with
          | none => simp only [one1, ej] at h6; cases h6
          | some j =>
            simp only [one1, ej] at h6
            cases h6
            have l4 := l1.trans (l2.trans l3)
            have e2 : H2 a = some (.dK []) := l4.kp a _ oa upd_same
            obtain rfl := keyT_at ej (hx.le l2)
            have gk : w3.G a = none := (l4.gk a oa (by rw [upd_same]; exact fun z => nomatch z)).trans ga
            have ok : w3.ω a = none := l4.own a oa (by rw [upd_same]; exact fun z => nomatch z)
            refine ⟨e2, [(j, y')], rfl, by simp, ?_⟩
            have hd : ∀ b, b ≠ a → del H2 a b = H2 b := fun b hb => del_ne hb
            have r5 : R X.K cl w3 st' σ (del H2 a) := r3.swap gk ok hd
            have l5 : Le w H w3 (del H2 a) := (l0.trans l4).swap ha hd
            have q := p w3 (del H2 a) l5 r5 a (.dK [(j, y')]) del_same fun H3 e3 => ⟨_, e3, .cons q3 .nil⟩
            have eq : upd (del H2 a) a (.dK [(j, y')]) = upd H2 a (.dK [(j, y')]) := by
              funext b
              by_cases hb : b = a
              · rw [hb, upd_same, upd_same]
              · rw [upd_ne hb, upd_ne hb, del_ne hb]
            rw [eq] at q
            exact q
end
/-! ### comprehensions, with their side conditions -/
section
variable {cl : Cl} {X : Cx}
theorem DG.mono {tg : Expr} {vs vs' : List Nat} {g : Val → M Unit} (hs : ∀ i ∈ vs, i ∈ vs') (h : DG cl X tg vs g) : DG cl X tg vs' g := fun W cw w st σ H Q v y u st' pins s r hv hg p I ru =>
  h W cw w st σ H Q v y u st' pins s r hv hg (fun w' σ' H' l r' hl hj => p w' σ' H' l r' hl fun j hn => hj j fun z => hn (hs j z)) I ru
theorem gComp {elt tg iter : Expr} {ifs : List Expr} {scope : Scope} {own : List (Str × Nat)} {pos : Pos} {fi : M Its} {g : Val → M Unit} {ft : M Bool} {fe : M Val} (hN : X.N.Nodup) (ok : BlkOk X.N X.env.scope scope own)
    (hi : DI cl X tg iter fi) (hg : ∀ (s : Shared) (H : Hp) (C : Addr) (c : List (Str × Addr)) (fp : List Addr), DG cl (X.blk s H scope (compEnvC scope c C X.env) fp) tg (own.map (·.2)) g)
    (ht : ∀ (s : Shared) (H : Hp) (C : Addr) (c : List (Str × Addr)) (fp : List Addr), DTs cl (X.blk s H scope (compEnvC scope c C X.env) fp) ifs ft)
    (he : ∀ (s : Shared) (H : Hp) (C : Addr) (c : List (Str × Addr)) (fp : List Addr), DE cl (X.blk s H scope (compEnvC scope c C X.env) fp) elt fe) (hc : X.calm = true := by rfl) (hs : ∀ x, foldedSetIterable iter X.env x = pure x := by intro _; rfl) :
    DF cl X (.ListComp elt [⟨tg, iter, ifs, 0⟩] scope pos) (dComp (own.map (·.2)) fi g ft fe) := df_comp hc hN ok hs hi hg ht he
theorem gComp2 {elt tg iter tg1 iter1 : Expr} {ifs ifs1 : List Expr} {scope : Scope} {own : List (Str × Nat)} {vs1 : List Nat} {pos : Pos} {fi fi1 : M Its} {g g1 : Val → M Unit} {ft ft1 : M Bool} {fe : M Val} (hN : X.N.Nodup) (ok : BlkOk X.N X.env.scope scope own)
    (hi : DI cl X tg iter fi) (hg : ∀ (s : Shared) (H : Hp) (C : Addr) (c : List (Str × Addr)) (fp : List Addr), DG cl (X.blk s H scope (compEnvC scope c C X.env) fp) tg (own.map (·.2)) g)
    (ht : ∀ (s : Shared) (H : Hp) (C : Addr) (c : List (Str × Addr)) (fp : List Addr), DTs cl (X.blk s H scope (compEnvC scope c C X.env) fp) ifs ft)
    (hi1 : ∀ (s : Shared) (H : Hp) (C : Addr) (c : List (Str × Addr)) (fp : List Addr), DI cl (X.blk s H scope (compEnvC scope c C X.env) fp) tg1 iter1 fi1)
    (hg1 : ∀ (s : Shared) (H : Hp) (C : Addr) (c : List (Str × Addr)) (fp : List Addr), DG cl (X.blk s H scope (compEnvC scope c C X.env) fp) tg1 vs1 g1)
    (ht1 : ∀ (s : Shared) (H : Hp) (C : Addr) (c : List (Str × Addr)) (fp : List Addr), DTs cl (X.blk s H scope (compEnvC scope c C X.env) fp) ifs1 ft1)
    (he : ∀ (s : Shared) (H : Hp) (C : Addr) (c : List (Str × Addr)) (fp : List Addr), DE cl (X.blk s H scope (compEnvC scope c C X.env) fp) elt fe) (hv : ∀ i ∈ vs1, i ∈ own.map (·.2) := by decide) (hc : X.calm = true := by rfl) (hs : ∀ x, foldedSetIterable iter X.env x = pure x := by intro _; rfl) (hs1 : ∀ env x, foldedSetIterable iter1 env x = pure x := by intro _ _; rfl) :
    DF cl X (.ListComp elt [⟨tg, iter, ifs, 0⟩, ⟨tg1, iter1, ifs1, 0⟩] scope pos) (dComp2 (own.map (·.2)) vs1 fi g ft fi1 g1 ft1 fe) := df_comp2 hc hN ok hv hs hs1 hi hg ht hi1 hg1 ht1 he
theorem sOwnLc (i : Nat) {y : Str} {py : Pos} {elt tg iter : Expr} {ifs : List Expr} {scope : Scope} {own : List (Str × Nat)} {pos spos : Pos} {fi : M Its} {g : Val → M Unit} {ft : M Bool} {fe : M Val} (hN : X.N.Nodup) (ok : BlkOk X.N X.env.scope scope own)
    (hi : DI cl X tg iter fi) (hg : ∀ (s : Shared) (H : Hp) (C : Addr) (c : List (Str × Addr)) (fp : List Addr), DG cl (X.blk s H scope (compEnvC scope c C X.env) fp) tg (own.map (·.2)) g)
    (ht : ∀ (s : Shared) (H : Hp) (C : Addr) (c : List (Str × Addr)) (fp : List Addr), DTs cl (X.blk s H scope (compEnvC scope c C X.env) fp) ifs ft)
    (he : ∀ (s : Shared) (H : Hp) (C : Addr) (c : List (Str × Addr)) (fp : List Addr), DE cl (X.blk s H scope (compEnvC scope c C X.env) fp) elt fe) (hc : X.calm = true := by rfl) (hy : X.N[i]? = some y := by rfl) (hyl : X.env.scope.names.lookup y = some .local := by rfl)
    (hsw : swapsWith (.ListComp elt [⟨tg, iter, ifs, 0⟩] scope pos) (some (.Name y py)) spos.line X.env = pure true := by rfl) (hs : ∀ x, foldedSetIterable iter X.env x = pure x := by intro _; rfl) :
    DS cl X (.Assign [.Name y py] (.ListComp elt [⟨tg, iter, ifs, 0⟩] scope pos) spos) (dOwn i (dComp (own.map (·.2)) fi g ft fe)) := ds_ownLc hc hN hy hyl hsw ok hs hi hg ht he
theorem sSetLc (i : Nat) {y : Str} {py : Pos} {elt tg iter : Expr} {ifs : List Expr} {scope : Scope} {own : List (Str × Nat)} {pos spos : Pos} {fi : M Its} {g : Val → M Unit} {ft : M Bool} {fe : M Val} (hN : X.N.Nodup) (ok : BlkOk X.N X.env.scope scope own)
    (hi : DI cl X tg iter fi) (hg : ∀ (s : Shared) (H : Hp) (C : Addr) (c : List (Str × Addr)) (fp : List Addr), DG cl (X.blk s H scope (compEnvC scope c C X.env) fp) tg (own.map (·.2)) g)
    (ht : ∀ (s : Shared) (H : Hp) (C : Addr) (c : List (Str × Addr)) (fp : List Addr), DTs cl (X.blk s H scope (compEnvC scope c C X.env) fp) ifs ft)
    (he : ∀ (s : Shared) (H : Hp) (C : Addr) (c : List (Str × Addr)) (fp : List Addr), DE cl (X.blk s H scope (compEnvC scope c C X.env) fp) elt fe) (hc : X.calm = true := by rfl) (hy : X.N[i]? = some y := by rfl) (hyl : X.env.scope.names.lookup y = some .local := by rfl)
    (hsw : swapsWith (.ListComp elt [⟨tg, iter, ifs, 0⟩] scope pos) (some (.Name y py)) spos.line X.env = pure true := by rfl) (hs : ∀ x, foldedSetIterable iter X.env x = pure x := by intro _; rfl) :
    DS cl X (.Assign [.Name y py] (.ListComp elt [⟨tg, iter, ifs, 0⟩] scope pos) spos) (dSet i (dKeep (dComp (own.map (·.2)) fi g ft fe))) := ds_setLc hc hN hy hyl hsw ok hs hi hg ht he
end
/-! ### the __init__ of an own error -/
theorem err_ok {P : Program} {w : World} {K : PySem.W.Frag} {mg : Str → Option Value} {base : Heap} {x qual fl b m : Str} {st : Stmt} {f L : Addr} {fd : FuncData} {j : Nat} {p1 p2 p3 p4 p5 p6 p7 p8 p9 p10 : Pos} (F : Fun K x qual st f fd) (S : FnScope [("self" : Str), fl] [("self" : Str), fl] (defScope st))
    (hbody : defBody st = [.Expr (.Call (.Attribute (.Name b p1) "__init__" p2) [.Name "self" p3, .Constant (.str m) j p4] [] p5) p6, .Assign [.Attribute (.Name "self" p7) fl p8] (.Name fl p9) p10])
    (mb : mg b = some (.ref L)) (hb : baseB K L = true) (df : (fl == ("__debug__" : Str)) = false) (cf : (fl == ("__classdict__" : Str)) = false) (hdb : (b == ("__debug__" : Str)) = false)
    (vf : Vis (defScope st) fl) (vs : Vis (defScope st) "self")
    (hX : ∀ (cdv : Value) (A : Around) (outer : List Env) (s : Shared) (H : Hp) (E : XK), let X := cxOf (L2.CX P w) P w K mg base [("self" : Str), fl] qual (defScope st) f cdv A outer s H E
      Gl X b ∧ (∃ pl : Sem Bool, eval (.Call (.Attribute (.Name b p1) "__init__" p2) [.Name "self" p3, .Constant (.str m) j p4] [] p5) X.env = (do
        let ov ← eval (.Name b p1) X.env
        standAt p2.atName
        let (f, first) ← holding [ov] (getMethod ov "__init__" pl)
        callWith p5 f first (backTo p5 (starEach [.Name "self" p3, .Constant (.str m) j p4] X.env)) (backToKw p5 (keywordEach [] X.env)))) ∧
      starEach [.Name "self" p3, .Constant (.str m) j p4] X.env = (false, eval (.Name "self" p3) X.env) :: starEach [.Constant (.str m) j p4] X.env ∧ (backTo p5 (starEach [.Constant (.str m) j p4] X.env)).any (·.1) = false ∧
      starEach [.Constant (.str m) j p4] X.env = (false, eval (.Constant (.str m) j p4) X.env) :: starEach [] X.env ∧
      swapsWith (.Name fl p9) (some (.Attribute (.Name "self" p7) fl p8)) p10.line X.env = pure false) :
    FnOk P w K mg base (L2.CX P w) 1 f fd [("self" : Str), fl] (spErr K fl) := by
  refine F.okX S (fun vs H Q E h => ?_) (fun cdv A outer s H us Q E hr h => ?_)
  · obtain ⟨a, C, y, rfl, _⟩ := h
    rfl
  · obtain ⟨a, C, y, rfl, T, hno, ha, hq⟩ := h
    obtain ⟨k1, ⟨pl, k2⟩, k3, k4, k5, k6⟩ := hX cdv A outer s H E
    refine ⟨_, pssW, ?_⟩
    rw [hbody]
    exact err_body (X := cxOf (L2.CX P w) P w K mg base [("self" : Str), fl] qual (defScope st) f cdv A outer s H E) rfl vf vs df cf k1 mb hb hdb k2 k3 k4 k6
      ⟨_, pa_cons (pe_var (i := 0) rfl vs (by decide) (by decide)) (pa_cons pe_str pa_nil k5) k3, fun _ _ _ => rfl⟩ T hno ha fun dx n1 n2 _ => hq dx n1 n2
end Lf
namespace Lf
open PySem PySem.Spec L2
/-! ### plain runs: f from s ends in Q -/
def Wp {α : Type} (f : M α) (s : DSt) (Q : Out α → DSt → Prop) : Prop := ∃ o s', f s = some (o, s') ∧ Q o s'
def Fw (F : DFun) (args : List Fv) (μ : List Cell) (Q : Out Ret → List Cell → Prop) : Prop := ∃ o m, F args μ = some (o, m) ∧ Q o m
theorem Wp.imp {α : Type} {f : M α} {s : DSt} {Q Q' : Out α → DSt → Prop} (h : Wp f s Q) (k : ∀ o s', Q o s' → Q' o s') : Wp f s Q' := by
  obtain ⟨o, s', e, q⟩ := h
  exact ⟨o, s', e, k o s' q⟩
theorem Fw.imp {F : DFun} {args : List Fv} {μ : List Cell} {Q Q' : Out Ret → List Cell → Prop} (h : Fw F args μ Q) (k : ∀ o s', Q o s' → Q' o s') : Fw F args μ Q' := by
  obtain ⟨o, s', e, q⟩ := h
  exact ⟨o, s', e, k o s' q⟩
/-- the rest of a run -/
def Bk {α β : Type} (k : α → M β) (Q : Out β → DSt → Prop) : Out α → DSt → Prop
  | .ok a, s => Wp (k a) s Q
  | .exc c fs, s => Q (.exc c fs) s
def Sk (g : M Fl) (Q : Out Fl → DSt → Prop) : Out Fl → DSt → Prop
  | .ok .nx, s => Wp g s Q
  | o, s => Q o s
def Ik {α : Type} (f g : M α) (Q : Out α → DSt → Prop) : Out Bool → DSt → Prop
  | .ok b, s => if b = true then Wp f s Q else Wp g s Q
  | .exc c fs, s => Q (.exc c fs) s
@[simp] theorem Bk_ok {α β : Type} (k : α → M β) (Q : Out β → DSt → Prop) (a : α) (s : DSt) : Bk k Q (.ok a) s = Wp (k a) s Q := rfl
@[simp] theorem Bk_exc {α β : Type} (k : α → M β) (Q : Out β → DSt → Prop) (c : Str) (fs : List (Str × T)) (s : DSt) : Bk k Q (.exc c fs) s = Q (.exc c fs) s := rfl
@[simp] theorem Sk_nx (g : M Fl) (Q : Out Fl → DSt → Prop) (s : DSt) : Sk g Q (.ok .nx) s = Wp g s Q := rfl
@[simp] theorem Sk_rt (g : M Fl) (Q : Out Fl → DSt → Prop) (v : Val) (s : DSt) : Sk g Q (.ok (.rt v)) s = Q (.ok (.rt v)) s := rfl
@[simp] theorem Sk_rf (g : M Fl) (Q : Out Fl → DSt → Prop) (v : Own) (s : DSt) : Sk g Q (.ok (.rf v)) s = Q (.ok (.rf v)) s := rfl
@[simp] theorem Sk_bk (g : M Fl) (Q : Out Fl → DSt → Prop) (s : DSt) : Sk g Q (.ok .bk) s = Q (.ok .bk) s := rfl
@[simp] theorem Sk_ct (g : M Fl) (Q : Out Fl → DSt → Prop) (s : DSt) : Sk g Q (.ok .ct) s = Q (.ok .ct) s := rfl
@[simp] theorem Sk_exc (g : M Fl) (Q : Out Fl → DSt → Prop) (c : Str) (fs : List (Str × T)) (s : DSt) : Sk g Q (.exc c fs) s = Q (.exc c fs) s := rfl
@[simp] theorem Ik_ok {α : Type} (f g : M α) (Q : Out α → DSt → Prop) (b : Bool) (s : DSt) : Ik f g Q (.ok b) s = if b = true then Wp f s Q else Wp g s Q := rfl
@[simp] theorem Wp_bnd {α β : Type} (x : M α) (k : α → M β) (s : DSt) (Q : Out β → DSt → Prop) : Wp (bnd x k) s Q = Wp x s (Bk k Q) := by
  apply propext
  constructor
  · rintro ⟨o, s', e, q⟩
    rcases bnd_some e with ⟨c, fs, h1, rfl⟩ | ⟨a, s1, h1, h2⟩
    · exact ⟨_, _, h1, q⟩
    · exact ⟨_, _, h1, o, s', h2, q⟩
  · rintro ⟨o, s1, e, q⟩
    cases o with
    | ok a =>
      obtain ⟨o', s', e', q'⟩ := q
      exact ⟨o', s', by unfold bnd; rw [e]; exact e', q'⟩
    | exc c fs => exact ⟨_, _, by unfold bnd; rw [e], q⟩
@[simp] theorem Wp_ret {α : Type} (a : α) (s : DSt) (Q : Out α → DSt → Prop) : Wp (ret a) s Q = Q (.ok a) s := by
  apply propext
  constructor
  · rintro ⟨o, s', e, q⟩; cases e; exact q
  · exact fun q => ⟨_, _, rfl, q⟩
theorem Wp_some {α : Type} {f : M α} {s s' : DSt} {o : Out α} {Q : Out α → DSt → Prop} (h : f s = some (o, s')) : Wp f s Q = Q o s' := by
  apply propext
  constructor
  · rintro ⟨o, s', e, q⟩; rw [h] at e; cases e; exact q
  · exact fun q => ⟨_, _, h, q⟩
@[simp] theorem Wp_raise {α : Type} (c : Str) (fs : List (Str × T)) (s : DSt) (Q : Out α → DSt → Prop) : Wp (raise (α := α) c fs) s Q = Q (.exc c fs) s := Wp_some rfl
@[simp] theorem Wp_dSeq (f g : M Fl) (s : DSt) (Q : Out Fl → DSt → Prop) : Wp (dSeq f g) s Q = Wp f s (Sk g Q) := by
  unfold dSeq
  rw [Wp_bnd]
  congr 1
  funext o s1
  cases o with
  | exc c fs => rfl
  | ok v => cases v <;> first | rfl | exact Wp_ret _ _ _
@[simp] theorem Wp_dIf {α : Type} (c : M Bool) (f g : M α) (s : DSt) (Q : Out α → DSt → Prop) : Wp (dIf c f g) s Q = Wp c s (Ik f g Q) := by
  unfold dIf
  rw [Wp_bnd]
  congr 1
  funext o s1
  cases o with
  | exc c fs => rfl
  | ok v => cases v <;> rfl
@[simp] theorem Wp_dVar {i : Nat} {x : T} {δ : List (Option Slot)} {μ : List Cell} (h : δ[i]? = some (some (.t x))) (Q : Out Val → DSt → Prop) : Wp (dVar i) ⟨δ, μ⟩ Q = Q (.ok (.t x)) ⟨δ, μ⟩ := Wp_some (by unfold dVar; simp only [h])
@[simp] theorem Wp_dVarL {i n : Nat} {δ : List (Option Slot)} {μ : List Cell} (h : δ[i]? = some (some (.loc n))) (Q : Out Val → DSt → Prop) : Wp (dVar i) ⟨δ, μ⟩ Q = Q (.ok (.loc n)) ⟨δ, μ⟩ := Wp_some (by unfold dVar; simp only [h])
@[simp] theorem Wp_dVarO {i : Nat} {o : Own} {δ : List (Option Slot)} {μ : List Cell} (h : δ[i]? = some (some (.own o))) (Q : Out Val → DSt → Prop) : Wp (dVar i) ⟨δ, μ⟩ Q = Q (.ok (.sl i)) ⟨δ, μ⟩ := Wp_some (by unfold dVar; simp only [h])
theorem Wp_cInt (i : Int) (s : DSt) (Q : Out Val → DSt → Prop) : Wp (cInt i) s Q = Q (.ok (.t (.int i))) s := Wp_ret _ _ _
theorem Wp_cStr (i : Str) (s : DSt) (Q : Out Val → DSt → Prop) : Wp (cStr i) s Q = Q (.ok (.t (.str i))) s := Wp_ret _ _ _
theorem Wp_cBl (i : Bool) (s : DSt) (Q : Out Val → DSt → Prop) : Wp (cBl i) s Q = Q (.ok (.t (.bl i))) s := Wp_ret _ _ _
theorem Wp_cNon (s : DSt) (Q : Out Val → DSt → Prop) : Wp cNon s Q = Q (.ok (.t .non)) s := Wp_ret _ _ _
@[simp] theorem Wp_dBin (g : Val → Val → M Val) (a b : M Val) (s : DSt) (Q : Out Val → DSt → Prop) : Wp (dBin g a b) s Q = Wp a s (Bk (fun x => bnd b fun y => g x y) Q) := Wp_bnd _ _ _ _
@[simp] theorem Wp_dSet (i : Nat) (f : M Val) (s : DSt) (Q : Out Fl → DSt → Prop) : Wp (dSet i f) s Q = Wp f s (Bk (fun v => bnd (put i v) fun _ => ret .nx) Q) := Wp_bnd _ _ _ _
@[simp] theorem Wp_dOwn (i : Nat) (f : M Own) (s : DSt) (Q : Out Fl → DSt → Prop) : Wp (dOwn i f) s Q = Wp f s (Bk (fun v => bnd (putO i v) fun _ => ret .nx) Q) := Wp_bnd _ _ _ _
@[simp] theorem Wp_dCellS (i : Nat) (f : M Own) (s : DSt) (Q : Out Fl → DSt → Prop) : Wp (dCellS i f) s Q = Wp f s (Bk (fun v => bnd (newCell v) fun n => bnd (put i (.loc n)) fun _ => ret .nx) Q) := Wp_bnd _ _ _ _
@[simp] theorem Wp_dExpr (f : M Val) (s : DSt) (Q : Out Fl → DSt → Prop) : Wp (dExpr f) s Q = Wp f s (Bk (fun _ => ret .nx) Q) := Wp_bnd _ _ _ _
@[simp] theorem Wp_dRet (f : M Val) (s : DSt) (Q : Out Fl → DSt → Prop) : Wp (dRet f) s Q = Wp f s (Bk back Q) := Wp_bnd _ _ _ _
@[simp] theorem Wp_dRetF (f : M Own) (s : DSt) (Q : Out Fl → DSt → Prop) : Wp (dRetF f) s Q = Wp f s (Bk (fun o => ret (.rf o)) Q) := Wp_bnd _ _ _ _
@[simp] theorem Wp_dKeep (f : M Own) (s : DSt) (Q : Out Val → DSt → Prop) : Wp (dKeep f) s Q = Wp f s (Bk keep Q) := Wp_bnd _ _ _ _
@[simp] theorem Wp_dT (f : M Val) (s : DSt) (Q : Out Bool → DSt → Prop) : Wp (dT f) s Q = Wp f s (Bk asBl Q) := Wp_bnd _ _ _ _
@[simp] theorem Wp_dTC (g : Val → Val → M Val) (a b : M Val) (s : DSt) (Q : Out Bool → DSt → Prop) : Wp (dTC g a b) s Q = Wp a s (Bk (fun x => bnd b fun y => g x y) (Bk asBl Q)) := by
  unfold dTC dBin
  rw [Wp_bnd, Wp_bnd]
@[simp] theorem Wp_dCons (f : M Val) (g : M (List Val)) (s : DSt) (Q : Out (List Val) → DSt → Prop) : Wp (dCons f g) s Q = Wp f s (Bk (fun v => bnd g fun vs => ret (v :: vs)) Q) := Wp_bnd _ _ _ _
@[simp] theorem Wp_dLst (f : M (List Val)) (s : DSt) (Q : Out Own → DSt → Prop) : Wp (dLst f) s Q = Wp f s (Bk (fun vs => bnd (frzs vs) fun ts => if ts.length ≤ sizeLine then ret (.lst ts) else stuck) Q) := Wp_bnd _ _ _ _
@[simp] theorem Wp_dTup (f : M (List Val)) (s : DSt) (Q : Out Val → DSt → Prop) : Wp (dTup f) s Q = Wp f s (Bk (fun vs => bnd (frzs vs) fun ts => if ts.length ≤ sizeLine then ret (.t (.tup ts)) else stuck) Q) := Wp_bnd _ _ _ _
@[simp] theorem Wp_dSetIx (fo fi fe : M Val) (s : DSt) (Q : Out Fl → DSt → Prop) : Wp (dSetIx fo fi fe) s Q = Wp fe s (Bk (fun v => bnd fo fun a => bnd fi fun j => bnd (setIx a j v) fun _ => ret .nx) Q) := Wp_bnd _ _ _ _
@[simp] theorem Wp_dAt (cs : List Str) (f : Str) (fe : M Val) (s : DSt) (Q : Out Val → DSt → Prop) : Wp (dAt cs f fe) s Q = Wp fe s (Bk (dAttr cs f) Q) := Wp_bnd _ _ _ _
@[simp] theorem Wp_asBl (b : Bool) (s : DSt) (Q : Out Bool → DSt → Prop) : Wp (asBl (.t (.bl b))) s Q = Q (.ok b) s := Wp_ret _ _ _
@[simp] theorem Wp_dInt (c : Int → Int → Bool) (g : Int → Int → T) (i j : Int) (s : DSt) (Q : Out Val → DSt → Prop) : Wp (dInt c g (.t (.int i)) (.t (.int j))) s Q = (c i j = true ∧ Q (.ok (.t (g i j))) s) := by
  cases h : c i j with
  | true => exact (Wp_some (o := .ok (.t (g i j))) (s' := s) (by simp [dInt, h, ret])).trans (by simp)
  | false =>
    apply propext
    constructor
    · rintro ⟨o, s', e, q⟩
      simp [dInt, h, stuck] at e
    · rintro ⟨z, _⟩; cases z
@[simp] theorem Wp_dAddI (i j : Int) (s : DSt) (Q : Out Val → DSt → Prop) : Wp (dAdd (.t (.int i)) (.t (.int j))) s Q = Q (.ok (.t (.int (i + j)))) s := Wp_some rfl
theorem Wp_dMulI {i j : Int} (h : (decide (-(2 ^ 64) < i) && decide (i < 2 ^ 64)) || (decide (-(2 ^ 64) < j) && decide (j < 2 ^ 64))) (s : DSt) (Q : Out Val → DSt → Prop) : Wp (dMul (.t (.int i)) (.t (.int j))) s Q = Q (.ok (.t (.int (i * j)))) s := Wp_some (by show (if _ then _ else _) = _; exact if_pos h)
@[simp] theorem Wp_dInt1 (i : Int) (s : DSt) (Q : Out Val → DSt → Prop) : Wp (dInt1 [.t (.int i)]) s Q = Q (.ok (.t (.int i))) s := Wp_some rfl
@[simp] theorem Wp_backT (x : T) (s : DSt) (Q : Out Fl → DSt → Prop) : Wp (back (.t x)) s Q = Q (.ok (.rt (.t x))) s := Wp_ret _ _ _
@[simp] theorem Wp_putT (i : Nat) (x : T) (δ : List (Option Slot)) (μ : List Cell) (Q : Out Unit → DSt → Prop) : Wp (put i (.t x)) ⟨δ, μ⟩ Q = Q (.ok ()) ⟨δ.set i (some (.t x)), μ⟩ := Wp_some rfl
@[simp] theorem Wp_putL (i n : Nat) (δ : List (Option Slot)) (μ : List Cell) (Q : Out Unit → DSt → Prop) : Wp (put i (.loc n)) ⟨δ, μ⟩ Q = Q (.ok ()) ⟨δ.set i (some (.loc n)), μ⟩ := Wp_some rfl
@[simp] theorem Wp_putO (i : Nat) (o : Own) (δ : List (Option Slot)) (μ : List Cell) (Q : Out Unit → DSt → Prop) : Wp (putO i o) ⟨δ, μ⟩ Q = Q (.ok ()) ⟨δ.set i (some (.own o)), μ⟩ := Wp_some rfl
/-- the end of a def -/
def Rk (μ : List Cell) (Q : Out Ret → List Cell → Prop) : Out Fl → DSt → Prop
  | .ok .nx, s => ∃ m, trunc μ s.μ = some m ∧ Q (.ok (.val (.t .non))) m
  | .ok (.rt (.t x)), s => ∃ m, trunc μ s.μ = some m ∧ Q (.ok (.val (.t x))) m
  | .ok (.rt (.loc k)), s => s.μ.length = μ.length ∧ Q (.ok (.val (.loc k))) s.μ
  | .ok (.rf o), s => ∃ m, trunc μ s.μ = some m ∧ Q (.ok (.own o)) m
  | .exc c fs, s => ∃ m, trunc μ s.μ = some m ∧ Q (.exc c fs) m
  | _, _ => False
theorem Fw_run {n : Nat} {body : M Fl} {args : List Fv} {μ : List Cell} {Q : Out Ret → List Cell → Prop} (h : Wp body ⟨startD n args, μ⟩ (Rk μ Q)) : Fw (runD n body) args μ Q := by
  obtain ⟨o, s, e, q⟩ := h
  unfold Fw runD
  rw [e]
  cases o with
  | exc c fs => obtain ⟨m, e1, q⟩ := q; exact ⟨_, m, by simp only [e1, Option.map_some], q⟩
  | ok v => cases v with
    | nx => obtain ⟨m, e1, q⟩ := q; exact ⟨_, m, by simp only [e1, Option.map_some], q⟩
    | rf v => obtain ⟨m, e1, q⟩ := q; exact ⟨_, m, by simp only [e1, Option.map_some], q⟩
    | bk => exact q.elim
    | ct => exact q.elim
    | rt v => cases v with
      | t x => obtain ⟨m, e1, q⟩ := q; exact ⟨_, m, by simp only [e1, Option.map_some], q⟩
      | loc k => obtain ⟨e1, q⟩ := q; exact ⟨_, s.μ, by simp only [if_pos e1], q⟩
      | sl i => exact q.elim
def Ck (s : DSt) (Q : Out Ret → DSt → Prop) : Out Ret → List Cell → Prop := fun o m => Q o { s with μ := m }
@[simp] theorem Wp_callF (F : DFun) (args : List Fv) (s : DSt) (Q : Out Ret → DSt → Prop) : Wp (callF F args) s Q = Fw F args s.μ (Ck s Q) := by
  apply propext
  constructor
  · rintro ⟨o, s', e, q⟩
    unfold callF at e
    split at e
    · rename_i v m e1; cases e; exact ⟨_, _, e1, q⟩
    · rename_i v fs m e1; cases e; exact ⟨_, _, e1, q⟩
    · cases e
  · rintro ⟨o, m, e, q⟩
    cases o with
    | ok v => exact ⟨.ok v, { s with μ := m }, by unfold callF; rw [e], q⟩
    | exc c fs => exact ⟨.exc c fs, { s with μ := m }, by unfold callF; rw [e], q⟩
@[simp] theorem Wp_dCall (F : DFun) (fa : M (List Val)) (s : DSt) (Q : Out Ret → DSt → Prop) : Wp (dCall F fa) s Q = Wp fa s (Bk (fun vs => bnd (asFvs vs) fun fs => callF F fs) Q) := Wp_bnd _ _ _ _
@[simp] theorem Wp_dCallV (F : DFun) (fa : M (List Val)) (s : DSt) (Q : Out Val → DSt → Prop) : Wp (dCallV F fa) s Q = Wp fa s (Bk (fun vs => bnd (asFvs vs) fun fs => callF F fs) (Bk retV Q)) := by
  unfold dCallV
  rw [Wp_bnd, Wp_dCall]
@[simp] theorem Wp_dCallO (F : DFun) (fa : M (List Val)) (s : DSt) (Q : Out Own → DSt → Prop) : Wp (dCallO F fa) s Q = Wp fa s (Bk (fun vs => bnd (asFvs vs) fun fs => callF F fs) (Bk retO Q)) := by
  unfold dCallO
  rw [Wp_bnd, Wp_dCall]
@[simp] theorem Wp_asFvs0 (s : DSt) (Q : Out (List Fv) → DSt → Prop) : Wp (asFvs []) s Q = Q (.ok []) s := Wp_ret _ _ _
@[simp] theorem Wp_asFvsT (x : T) (vs : List Val) (s : DSt) (Q : Out (List Fv) → DSt → Prop) : Wp (asFvs (.t x :: vs)) s Q = Wp (asFvs vs) s (Bk (fun fs => ret (.t x :: fs)) Q) := by
  show Wp (bnd (ret (Fv.t x)) fun f => bnd (asFvs vs) fun fs => ret (f :: fs)) s Q = _
  rw [Wp_bnd, Wp_ret, Bk_ok, Wp_bnd]
@[simp] theorem Wp_asFvsL (n : Nat) (vs : List Val) (s : DSt) (Q : Out (List Fv) → DSt → Prop) : Wp (asFvs (.loc n :: vs)) s Q = Wp (asFvs vs) s (Bk (fun fs => ret (.loc n :: fs)) Q) := by
  show Wp (bnd (ret (Fv.loc n)) fun f => bnd (asFvs vs) fun fs => ret (f :: fs)) s Q = _
  rw [Wp_bnd, Wp_ret, Bk_ok, Wp_bnd]
@[simp] theorem Wp_retVv (v : Fv) (s : DSt) (Q : Out Val → DSt → Prop) : Wp (retV (.val v)) s Q = Q (.ok v.val) s := Wp_ret _ _ _
@[simp] theorem Wp_retOo (v : Own) (s : DSt) (Q : Out Own → DSt → Prop) : Wp (retO (.own v)) s Q = Q (.ok v) s := Wp_ret _ _ _
/-! ### loops -/
/-- what the body of a for must come to: Nx of the state ahead of the next turn -/
def Lk (Nx : DSt → Prop) (Q : Out Fl → DSt → Prop) : Out Fl → DSt → Prop
  | .ok .nx, s => Nx s
  | .ok .ct, s => Nx s
  | .ok .bk, s => Q (.ok .nx) s
  | o, s => Q o s
theorem Wp_forNil {g : Val → M Unit} {b : M Fl} {chk : DSt → Bool} {s : DSt} {Q : Out Fl → DSt → Prop} (hc : chk s = true) (h : Q (.ok .nx) s) : Wp (forL g b chk []) s Q := ⟨_, s, by simp [forL, hc], h⟩
theorem Wp_forCons {g : Val → M Unit} {b : M Fl} {chk : DSt → Bool} {v : Val} {vs : List Val} {s : DSt} {Q : Out Fl → DSt → Prop} (hc : chk s = true) (h : Wp (g v) s (Bk (fun _ => b) (Lk (fun s' => Wp (forL g b chk vs) s' Q) Q))) : Wp (forL g b chk (v :: vs)) s Q := by
  have e : Wp (forL g b chk (v :: vs)) s Q = Wp (bnd (g v) fun _ => bnd b fun fl => match fl with | .nx => forL g b chk vs | .ct => forL g b chk vs | .bk => ret .nx | fl => ret fl) s Q := by
    have z : forL g b chk (v :: vs) s = bnd (g v) (fun _ => bnd b fun fl => match fl with | .nx => forL g b chk vs | .ct => forL g b chk vs | .bk => ret .nx | fl => ret fl) s := by
      rw [forL]
      exact if_pos hc
    unfold Wp
    rw [z]
  rw [e, Wp_bnd]
  refine h.imp fun o s1 q => ?_
  cases o with
  | exc c fs => exact q
  | ok u =>
    have q : Wp b s1 _ := q
    show Wp (bnd b _) s1 Q
    rw [Wp_bnd]
    refine q.imp fun o s2 q => ?_
    cases o with
    | exc c fs => exact q
    | ok fl => cases fl with
      | nx => exact q
      | ct => exact q
      | bk => show Wp (ret _) _ _; rw [Wp_ret]; exact q
      | rt v => show Wp (ret _) _ _; rw [Wp_ret]; exact q
      | rf v => show Wp (ret _) _ _; rw [Wp_ret]; exact q
/-- the rule of a for by an invariant over the items that are left -/
theorem Wp_forInv (Iv : List Val → DSt → Prop) {g : Val → M Unit} {b : M Fl} {chk : DSt → Bool} {Q : Out Fl → DSt → Prop} (hc : ∀ vs s, Iv vs s → chk s = true) (h0 : ∀ s, Iv [] s → Q (.ok .nx) s)
    (h1 : ∀ v vs s, Iv (v :: vs) s → Wp (g v) s (Bk (fun _ => b) (Lk (Iv vs) Q))) : ∀ vs s, Iv vs s → Wp (forL g b chk vs) s Q
  | [], s, h => Wp_forNil (hc _ _ h) (h0 _ h)
  | v :: vs, s, h => by
    refine Wp_forCons (hc _ _ h) ((h1 v vs s h).imp fun o s1 q => ?_)
    cases o with
    | exc c fs => exact q
    | ok u =>
      refine Wp.imp (f := b) q fun o s2 q => ?_
      cases o with
      | exc c fs => exact q
      | ok fl => cases fl with
        | nx => exact Wp_forInv Iv hc h0 h1 vs s2 q
        | ct => exact Wp_forInv Iv hc h0 h1 vs s2 q
        | bk => exact q
        | rt v => exact q
        | rf v => exact q
@[simp] theorem Wp_dFor (fi : M Its) (g : Val → M Unit) (b : M Fl) (s : DSt) (Q : Out Fl → DSt → Prop) : Wp (dFor fi g b) s Q = Wp fi s (Bk (fun I => forL g b I.chk I.items) Q) := Wp_bnd _ _ _ _
/-- a pool of draws -/
abbrev poolC (a b c : Int) : Cell := .lst [.t (.int a), .t (.int b), .t (.int c)]
end Lf
namespace Lf
open PySem PySem.Spec L2
@[simp] theorem Fv_val_t (x : T) : (Fv.t x).val = .t x := rfl
@[simp] theorem Fv_val_l (n : Nat) : (Fv.loc n).val = .loc n := rfl
@[simp] theorem Fv_slot_t (x : T) : (Fv.t x).slot = .t x := rfl
@[simp] theorem Fv_slot_l (n : Nat) : (Fv.loc n).slot = .loc n := rfl
theorem stuckF {α : Type} {s : DSt} {Q : Out α → DSt → Prop} : Wp (stuck (α := α)) s Q = False := by
  apply propext
  constructor
  · rintro ⟨o, s', e, _⟩; cases e
  · exact fun z => z.elim
@[simp] theorem Wp_ite {α : Type} (c : Prop) [Decidable c] (f g : M α) (s : DSt) (Q : Out α → DSt → Prop) : Wp (if c then f else g) s Q = if c then Wp f s Q else Wp g s Q := by
  by_cases h : c
  · rw [if_pos h, if_pos h]
  · rw [if_neg h, if_neg h]
theorem Wp_need {α : Type} (c : Prop) [Decidable c] (f : M α) (s : DSt) (Q : Out α → DSt → Prop) : (if c then Wp f s Q else Wp stuck s Q) = (c ∧ Wp f s Q) := by
  rw [stuckF]
  apply propext
  by_cases h : c
  · simp [h]
  · simp [h]
@[simp] theorem Wp_needR {α : Type} (c : Prop) [Decidable c] (a : α) (s : DSt) (Q : Out α → DSt → Prop) : Wp (if c then ret a else stuck) s Q = (c ∧ Q (.ok a) s) := by
  rw [Wp_ite, Wp_need, Wp_ret]
@[simp] theorem Wp_frzs0 (s : DSt) (Q : Out (List T) → DSt → Prop) : Wp (frzs []) s Q = Q (.ok []) s := Wp_ret _ _ _
@[simp] theorem Wp_frzsT (x : T) (vs : List Val) (s : DSt) (Q : Out (List T) → DSt → Prop) : Wp (frzs (.t x :: vs)) s Q = Wp (frzs vs) s (Bk (fun ts => ret (x :: ts)) Q) := by
  show Wp (bnd (ret x) fun t => bnd (frzs vs) fun ts => ret (t :: ts)) s Q = _
  rw [Wp_bnd, Wp_ret, Bk_ok, Wp_bnd]
theorem Wp_frzsMap (xs : List T) (s : DSt) : ∀ (Q : Out (List T) → DSt → Prop), Wp (frzs (xs.map Val.t)) s Q = Q (.ok xs) s := by
  induction xs with
  | nil => intro Q; exact Wp_ret _ _ _
  | cons x r ih => intro Q; rw [List.map_cons, Wp_frzsT, ih, Bk_ok, Wp_ret]
@[simp] theorem Wp_frzT (x : T) (s : DSt) (Q : Out T → DSt → Prop) : Wp (frz (.t x)) s Q = Q (.ok x) s := Wp_ret _ _ _
@[simp] theorem Wp_keepL (xs : List T) (s : DSt) (Q : Out Val → DSt → Prop) : Wp (keep (.lst xs)) s Q = Q (.ok (.t (.lst xs))) s := Wp_ret _ _ _
@[simp] theorem Wp_keepD (xs : List (Key × T)) (s : DSt) (Q : Out Val → DSt → Prop) : Wp (keep (.dic false xs)) s Q = Q (.ok (.t (.dic xs))) s := Wp_ret _ _ _
theorem plains_t : ∀ xs : List T, plains (xs.map Fv.t) = some xs
  | [] => rfl
  | x :: r => by simp [plains, plains_t r]
@[simp] theorem Wp_lenL (xs : List T) (s : DSt) (Q : Out Val → DSt → Prop) : Wp (dLen [.t (.lst xs)]) s Q = Q (.ok (.t (.int xs.length))) s := Wp_some (by simp [dLen, seqOf])
@[simp] theorem Wp_lenF (xs : List T) (s : DSt) (Q : Out Val → DSt → Prop) : Wp (dLen [.t (.fro xs)]) s Q = Q (.ok (.t (.int xs.length))) s := Wp_some (by simp [dLen, seqOf])
@[simp] theorem Wp_lenT (xs : List T) (s : DSt) (Q : Out Val → DSt → Prop) : Wp (dLen [.t (.tup xs)]) s Q = Q (.ok (.t (.int xs.length))) s := Wp_some (by simp [dLen, seqOf])
theorem Wp_lenS {x : Str} (h : x.length ≤ sizeLine) (s : DSt) (Q : Out Val → DSt → Prop) : Wp (dLen [.t (.str x)]) s Q = Q (.ok (.t (.int x.length))) s := Wp_some (by simp [dLen, h])
@[simp] theorem Wp_lenO {i : Nat} {xs : List T} {δ : List (Option Slot)} {μ : List Cell} (h : δ[i]? = some (some (.own (.lst xs)))) (Q : Out Val → DSt → Prop) : Wp (dLen [.sl i]) ⟨δ, μ⟩ Q = Q (.ok (.t (.int xs.length))) ⟨δ, μ⟩ := Wp_some (by simp [dLen, seqOf, h])
@[simp] theorem Wp_listL (xs : List T) (s : DSt) (Q : Out Own → DSt → Prop) : Wp (dList [.t (.lst xs)]) s Q = Q (.ok (.lst xs)) s := Wp_some (by simp [dList, seqOf, plains_t])
@[simp] theorem Wp_listT (xs : List T) (s : DSt) (Q : Out Own → DSt → Prop) : Wp (dList [.t (.tup xs)]) s Q = Q (.ok (.lst xs)) s := Wp_some (by simp [dList, seqOf, plains_t])
theorem Wp_ixL {δ : List (Option Slot)} {μ : List Cell} {n : Nat} {xs : List Fv} (h : μ[n]? = some (.lst xs)) {i : Int} {f : Fv} (hi : atI xs i = some f) (Q : Out Val → DSt → Prop) : Wp (dIx (.loc n) (.t (.int i))) ⟨δ, μ⟩ Q = Q (.ok f.val) ⟨δ, μ⟩ := Wp_some (by simp [dIx, dcK, seqOf, h, hi])
theorem atI_nat {α : Type} {xs : List α} {i : Nat} {x : α} (h : xs[i]? = some x) : atI xs (i : Int) = some x := by
  have hl : i < xs.length := (List.getElem?_eq_some_iff.mp h).1
  have : (i : Int) < (xs.length : Int) := by exact_mod_cast hl
  simp [atI, ixN, this, h]
theorem atI_lst {xs : List T} {i : Int} {x : T} (h : atI xs i = some x) : atI (xs.map Fv.t) i = some (Fv.t x) := by
  unfold atI at h ⊢
  rw [List.length_map]
  cases e : ixN xs.length i with
  | none => rw [e] at h; cases h
  | some j =>
    rw [e] at h
    have h : xs[j]? = some x := h
    simp [h]
theorem Wp_ixT {xs : List T} {i : Int} {x : T} (h : atI xs i = some x) (s : DSt) (Q : Out Val → DSt → Prop) : Wp (dIx (.t (.lst xs)) (.t (.int i))) s Q = Q (.ok (.t x)) s := Wp_some (by simp [dIx, dcK, seqOf, atI_lst h])
theorem Wp_ixU {xs : List T} {i : Int} {x : T} (h : atI xs i = some x) (s : DSt) (Q : Out Val → DSt → Prop) : Wp (dIx (.t (.tup xs)) (.t (.int i))) s Q = Q (.ok (.t x)) s := Wp_some (by simp [dIx, dcK, seqOf, atI_lst h])
theorem Wp_ixF {xs : List T} {i : Int} {x : T} (h : atI xs i = some x) (s : DSt) (Q : Out Val → DSt → Prop) : Wp (dIx (.t (.fro xs)) (.t (.int i))) s Q = Q (.ok (.t x)) s := Wp_some (by simp [dIx, dcK, seqOf, atI_lst h])
theorem Wp_ixS {x : Str} {i : Int} {c : Nat} (hl : x.length ≤ sizeLine) (h : atI x.cps.toList i = some c) (s : DSt) (Q : Out Val → DSt → Prop) : Wp (dIx (.t (.str x)) (.t (.int i))) s Q = Q (.ok (.t (.str ⟨#[c]⟩))) s := Wp_some (by simp [dIx, dcK, hl, h])
theorem Wp_setIxL {δ : List (Option Slot)} {μ : List Cell} {n : Nat} {xs : List Fv} (h : μ[n]? = some (.lst xs)) {i : Int} {j : Nat} (hi : ixN xs.length i = some j) (x : T) (Q : Out Unit → DSt → Prop) : Wp (setIx (.loc n) (.t (.int i)) (.t x)) ⟨δ, μ⟩ Q = Q (.ok ()) ⟨δ, μ.set n (.lst (xs.set j (.t x)))⟩ := Wp_some (by
  simp [setIx, asFv, bnd, ret, dcK, getL, setL, h, hi])
@[simp] theorem Wp_appO {i : Nat} {xs : List T} {δ : List (Option Slot)} {μ : List Cell} (h : δ[i]? = some (some (.own (.lst xs)))) (x : T) (Q : Out Val → DSt → Prop) : Wp (mAppend (.sl i) [.t x]) ⟨δ, μ⟩ Q = (xs.length < sizeLine ∧ Q (.ok (.t .non)) ⟨δ.set i (some (.own (.lst (xs ++ [x])))), μ⟩) := by
  by_cases hl : xs.length < sizeLine
  · refine (Wp_some (o := .ok (.t .non)) (s' := ⟨δ.set i (some (.own (.lst (xs ++ [x])))), μ⟩) ?_).trans (by simp [hl])
    have : plains (xs.map Fv.t ++ [Fv.t x]) = some (xs ++ [x]) := by
      have := plains_t (xs ++ [x])
      simpa using this
    simp [mAppend, asFv, bnd, ret, getL, setL, h, hl, this]
  · apply propext
    constructor
    · rintro ⟨o, s', e, _⟩
      simp [mAppend, asFv, bnd, ret, getL, h, hl] at e
    · rintro ⟨z, _⟩; exact absurd z hl
/-- o.m(..), o a list -/
def methK (fa : M (List Val)) (g : Val → List Val → M Val) (v : Val) : M Val := fun s => if isLst s v then bnd fa (fun vs => g v vs) s else none
@[simp] theorem Wp_dMeth (fo : M Val) (fa : M (List Val)) (g : Val → List Val → M Val) (s : DSt) (Q : Out Val → DSt → Prop) : Wp (dMeth fo fa g) s Q = Wp fo s (Bk (methK fa g) Q) := Wp_bnd _ _ _ _
@[simp] theorem Wp_methK {fa : M (List Val)} {g : Val → List Val → M Val} {v : Val} {s : DSt} (h : isLst s v = true) (Q : Out Val → DSt → Prop) : Wp (methK fa g v) s Q = Wp fa s (Bk (fun vs => g v vs) Q) := by
  rw [← Wp_bnd]
  unfold Wp methK
  rw [if_pos h]
@[simp] theorem isLst_own {i : Nat} {xs : List T} {δ : List (Option Slot)} {μ : List Cell} (h : δ[i]? = some (some (.own (.lst xs)))) : isLst ⟨δ, μ⟩ (.sl i) = true := by simp [isLst, seqOf, h]
@[simp] theorem isLst_loc {n : Nat} {xs : List Fv} {δ : List (Option Slot)} {μ : List Cell} (h : μ[n]? = some (.lst xs)) : isLst ⟨δ, μ⟩ (.loc n) = true := by simp [isLst, seqOf, h]
@[simp] theorem Wp_methO {fa : M (List Val)} {g : Val → List Val → M Val} {i : Nat} {xs : List T} {δ : List (Option Slot)} {μ : List Cell} (h : δ[i]? = some (some (.own (.lst xs)))) (Q : Out Val → DSt → Prop) : Wp (methK fa g (.sl i)) ⟨δ, μ⟩ Q = Wp fa ⟨δ, μ⟩ (Bk (fun vs => g (.sl i) vs) Q) := Wp_methK (isLst_own h) Q
@[simp] theorem Lk_nx (Nx : DSt → Prop) (Q : Out Fl → DSt → Prop) (s : DSt) : Lk Nx Q (.ok .nx) s = Nx s := rfl
@[simp] theorem Lk_ct (Nx : DSt → Prop) (Q : Out Fl → DSt → Prop) (s : DSt) : Lk Nx Q (.ok .ct) s = Nx s := rfl
@[simp] theorem Lk_bk (Nx : DSt → Prop) (Q : Out Fl → DSt → Prop) (s : DSt) : Lk Nx Q (.ok .bk) s = Q (.ok .nx) s := rfl
@[simp] theorem Lk_rt (Nx : DSt → Prop) (Q : Out Fl → DSt → Prop) (v : Val) (s : DSt) : Lk Nx Q (.ok (.rt v)) s = Q (.ok (.rt v)) s := rfl
@[simp] theorem Lk_rf (Nx : DSt → Prop) (Q : Out Fl → DSt → Prop) (v : Own) (s : DSt) : Lk Nx Q (.ok (.rf v)) s = Q (.ok (.rf v)) s := rfl
@[simp] theorem Lk_exc (Nx : DSt → Prop) (Q : Out Fl → DSt → Prop) (c : Str) (fs : List (Str × T)) (s : DSt) : Lk Nx Q (.exc c fs) s = Q (.exc c fs) s := rfl
theorem rangeV_t {lo : Int} {n : Nat} {v : Val} (h : v ∈ rangeV lo n) : ∃ x, v = .t x := by
  unfold rangeV at h
  obtain ⟨k, _, rfl⟩ := List.mem_map.mp h
  exact ⟨_, rfl⟩
@[simp] theorem rangeV_len (lo : Int) (n : Nat) : (rangeV lo n).length = n := by simp [rangeV]
/-- a piece of a list -/
def cutK (v : Val) (lo hi : Option Int) : M Own := fun s => match lstOf s v with
  | some ts => some (.ok (.lst (cutT ts lo hi)), s)
  | none => none
@[simp] theorem Wp_dCut (fa : M Val) (fl fh : M (Option Int)) (s : DSt) (Q : Out Own → DSt → Prop) : Wp (dCut fa fl fh) s Q = Wp fa s (Bk (fun v => bnd fl fun lo => bnd fh fun hi => cutK v lo hi) Q) := Wp_bnd _ _ _ _
@[simp] theorem Wp_cutL (xs : List T) (lo hi : Option Int) (s : DSt) (Q : Out Own → DSt → Prop) : Wp (cutK (.t (.lst xs)) lo hi) s Q = Q (.ok (.lst (cutT xs lo hi))) s := Wp_some rfl
def pIntK (v : Val) : M (Option Int) := match v with | .t (.int i) => ret (some i) | _ => stuck
@[simp] theorem Wp_pInt (f : M Val) (s : DSt) (Q : Out (Option Int) → DSt → Prop) : Wp (pInt f) s Q = Wp f s (Bk pIntK Q) := Wp_bnd _ _ _ _
@[simp] theorem Wp_pIntK (i : Int) (s : DSt) (Q : Out (Option Int) → DSt → Prop) : Wp (pIntK (.t (.int i))) s Q = Q (.ok (some i)) s := Wp_ret _ _ _
@[simp] theorem cutT_take {α : Type} (xs : List α) (i : Nat) : cutT xs none (some (i : Int)) = xs.take i := by
  unfold cutT
  rw [HT.sIx_none, HT.sIx_nat, List.drop_zero, Nat.sub_zero]
  rw [List.take_eq_take_iff]
  omega
@[simp] theorem cutT_drop {α : Type} (xs : List α) (i : Nat) : cutT xs (some (i : Int)) none = xs.drop i := by
  unfold cutT
  rw [HT.sIx_none, HT.sIx_nat]
  rcases Nat.le_total i xs.length with h | h
  · rw [Nat.min_eq_left h, ← List.length_drop, List.take_length]
  · rw [Nat.min_eq_right h, List.drop_eq_nil_of_le h, List.drop_eq_nil_of_le (Nat.le_refl _)]
    simp
@[simp] theorem Wp_addL (xs ys : List T) (s : DSt) (Q : Out Val → DSt → Prop) : Wp (dAdd (.t (.lst xs)) (.t (.lst ys))) s Q = (xs.length + ys.length ≤ sizeLine ∧ Q (.ok (.t (.lst (xs ++ ys)))) s) := by
  by_cases h : xs.length + ys.length ≤ sizeLine
  · exact (Wp_some (o := .ok (.t (.lst (xs ++ ys)))) (s' := s) (by simp [dAdd, lstOf, h])).trans (by simp [h])
  · apply propext
    constructor
    · rintro ⟨o, s', e, _⟩; simp [dAdd, lstOf, h] at e
    · rintro ⟨z, _⟩; exact absurd z h
@[simp] theorem Wp_addS (x y : Str) (s : DSt) (Q : Out Val → DSt → Prop) : Wp (dAdd (.t (.str x)) (.t (.str y))) s Q = (x.length + y.length ≤ sizeLine ∧ Q (.ok (.t (.str (x ++ y)))) s) := by
  by_cases h : x.length + y.length ≤ sizeLine
  · exact (Wp_some (o := .ok (.t (.str (x ++ y)))) (s' := s) (by simp [dAdd, h])).trans (by simp [h])
  · apply propext
    constructor
    · rintro ⟨o, s', e, _⟩; simp [dAdd, h] at e
    · rintro ⟨z, _⟩; exact absurd z h
/-! sources of loops -/
def rngK (k : Nat) (vs : List Val) : M Its := if vs.length = k then mkRange vs else stuck
@[simp] theorem Wp_iRange1 (f : M (List Val)) (s : DSt) (Q : Out Its → DSt → Prop) : Wp (iRange1 f) s Q = Wp f s (Bk (rngK 1) Q) := Wp_bnd _ _ _ _
@[simp] theorem Wp_iRange2 (f : M (List Val)) (s : DSt) (Q : Out Its → DSt → Prop) : Wp (iRange2 f) s Q = Wp f s (Bk (rngK 2) Q) := Wp_bnd _ _ _ _
theorem Wp_rng1 {j : Int} (h0 : -(2 ^ 62) ≤ j) (h1 : j < 2 ^ 62) (s : DSt) (Q : Out Its → DSt → Prop) : Wp (rngK 1 [.t (.int j)]) s Q = Q (.ok ⟨rangeV 0 j.toNat, fun _ => true⟩) s := Wp_some (by
  have h0' : (-4611686018427387904 : Int) ≤ j := h0
  have h1' : j < (4611686018427387904 : Int) := h1
  simp [rngK, mkRange, h0', h1', ret])
@[simp] theorem Wp_iSeq (f : M Val) (s : DSt) (Q : Out Its → DSt → Prop) : Wp (iSeq f) s Q = Wp f s (Bk walkOf Q) := Wp_bnd _ _ _ _
theorem map_val (xs : List T) : (xs.map Fv.t).map Fv.val = xs.map Val.t := by rw [List.map_map]; rfl
@[simp] theorem Wp_walkL (xs : List T) (s : DSt) (Q : Out Its → DSt → Prop) : Wp (walkOf (.t (.lst xs))) s Q = Q (.ok ⟨xs.map Val.t, fun _ => true⟩) s := Wp_some (by
  show bnd (lend (.t (.lst xs))) walkSeq s = _
  simp [lend, bnd, ret, walkSeq, seqOf, still])
@[simp] theorem Wp_walkT (xs : List T) (s : DSt) (Q : Out Its → DSt → Prop) : Wp (walkOf (.t (.tup xs))) s Q = Q (.ok ⟨xs.map Val.t, fun _ => true⟩) s := Wp_some (by
  show bnd (lend (.t (.tup xs))) walkSeq s = _
  simp [lend, bnd, ret, walkSeq, seqOf, still])
@[simp] theorem Wp_walkS (x : Str) (s : DSt) (Q : Out Its → DSt → Prop) : Wp (walkOf (.t (.str x))) s Q = Q (.ok ⟨signs x, fun _ => true⟩) s := Wp_some rfl
@[simp] theorem Ck_eq (δ : List (Option Slot)) (μ : List Cell) (Q : Out Ret → DSt → Prop) (o : Out Ret) (m : List Cell) : Ck ⟨δ, μ⟩ Q o m = Q o ⟨δ, m⟩ := rfl
/-! the end of a def -/
theorem trunc_len {μ m : List Cell} (h : m.length = μ.length) : trunc μ m = some m := by
  unfold trunc trunc0
  rw [if_pos h]
  rfl
theorem trunc_new {μ m : List Cell} (h : m.take μ.length ≠ μ) : trunc μ m = some m := by
  unfold trunc trunc0
  by_cases h1 : m.length = μ.length
  · rw [if_pos h1]
    rfl
  · rw [if_neg h1]
    by_cases h2 : Cell.sms (m.take μ.length) μ = true
    · exact absurd (Cell.sms_eq h2) h
    · rw [if_neg h2]
      rfl
theorem trunc_old {μ m : List Cell} (h : m.take μ.length = μ) : trunc μ m = some μ := by
  unfold trunc trunc0
  by_cases h1 : m.length = μ.length
  · rw [if_pos h1]
    rw [← h1, List.take_length] at h
    rw [h]
    rfl
  · rw [if_neg h1, h, if_pos (Cell.sms_refl μ)]
    rfl
@[simp] theorem trunc_set (μ : List Cell) (n : Nat) (c : Cell) : trunc μ (μ.set n c) = some (μ.set n c) := trunc_len (by simp)
@[simp] theorem trunc_same (μ : List Cell) : trunc μ μ = some μ := trunc_len rfl
@[simp] theorem Rk_nx (μ : List Cell) (Q : Out Ret → List Cell → Prop) (s : DSt) : Rk μ Q (.ok .nx) s = ∃ m, trunc μ s.μ = some m ∧ Q (.ok (.val (.t .non))) m := rfl
@[simp] theorem Rk_rt (μ : List Cell) (Q : Out Ret → List Cell → Prop) (s : DSt) (x : T) : Rk μ Q (.ok (.rt (.t x))) s = ∃ m, trunc μ s.μ = some m ∧ Q (.ok (.val (.t x))) m := rfl
@[simp] theorem Rk_rf (μ : List Cell) (Q : Out Ret → List Cell → Prop) (s : DSt) (x : Own) : Rk μ Q (.ok (.rf x)) s = ∃ m, trunc μ s.μ = some m ∧ Q (.ok (.own x)) m := rfl
@[simp] theorem Rk_exc (μ : List Cell) (Q : Out Ret → List Cell → Prop) (s : DSt) (c : Str) (fs : List (Str × T)) : Rk μ Q (.exc c fs) s = ∃ m, trunc μ s.μ = some m ∧ Q (.exc c fs) m := rfl
@[simp] theorem Wp_backO {i : Nat} {o : Own} {δ : List (Option Slot)} {μ : List Cell} (h : δ[i]? = some (some (.own o))) (Q : Out Fl → DSt → Prop) : Wp (back (.sl i)) ⟨δ, μ⟩ Q = Q (.ok (.rt (.t o.tree))) ⟨δ.set i (some (.t o.tree)), μ⟩ := Wp_some (by simp [back, bnd, frz, h, ret])
/-! comprehensions -/
def compK (vs : List Nat) (g : Val → M Unit) (t : M Bool) (e : M Val) (I : Its) : M Own := fun s => if noOwn s.δ vs then
    match hush (compL vs g t e I.chk I.items []) { s with δ := wipeD s.δ vs } with
    | some (.ok ys, s2) => some (.ok (.lst ys), { s2 with δ := backD s.δ s2.δ vs })
    | _ => none
  else none
@[simp] theorem Wp_dComp (vs : List Nat) (fi : M Its) (g : Val → M Unit) (t : M Bool) (e : M Val) (s : DSt) (Q : Out Own → DSt → Prop) : Wp (dComp vs fi g t e) s Q = Wp fi s (Bk (compK vs g t e) Q) := Wp_bnd _ _ _ _
/-- what one turn must come to: go on with one item more, or with none -/
def Ek (acc : List T) (e : M Val) (Nx : List T → DSt → Prop) : Out Bool → DSt → Prop
  | .ok true, s => Wp e s (Bk frz fun o s2 => match o with
      | .ok y => acc.length < sizeLine ∧ Nx (acc ++ [y]) s2
      | .exc _ _ => False)
  | .ok false, s => Nx acc s
  | .exc _ _, _ => False
def Yk (acc : List T) (Nx : List T → DSt → Prop) : Out T → DSt → Prop
  | .ok y, s => acc.length < sizeLine ∧ Nx (acc ++ [y]) s
  | .exc _ _, _ => False
@[simp] theorem Yk_ok (acc : List T) (Nx : List T → DSt → Prop) (y : T) (s : DSt) : Yk acc Nx (.ok y) s = (acc.length < sizeLine ∧ Nx (acc ++ [y]) s) := rfl
@[simp] theorem Ek_true (acc : List T) (e : M Val) (Nx : List T → DSt → Prop) (s : DSt) : Ek acc e Nx (.ok true) s = Wp e s (Bk frz (Yk acc Nx)) := by
  show Wp e s _ = _
  congr 2
  funext o s2
  cases o <;> rfl
@[simp] theorem Ek_false (acc : List T) (e : M Val) (Nx : List T → DSt → Prop) (s : DSt) : Ek acc e Nx (.ok false) s = Nx acc s := rfl
theorem Ek_dec (acc : List T) (e : M Val) (Nx : List T → DSt → Prop) (b : Bool) (s : DSt) : Ek acc e Nx (.ok b) s = if b = true then Wp e s (Bk frz (Yk acc Nx)) else Nx acc s := by
  cases b
  · rfl
  · exact Ek_true _ _ _ _
theorem compL_inv (Iv : List Val → List T → DSt → Prop) {vs : List Nat} {g : Val → M Unit} {t : M Bool} {e : M Val} {chk : DSt → Bool} (hc : ∀ r acc s, Iv r acc s → chk s = true)
    (h1 : ∀ v r acc s, Iv (v :: r) acc s → Wp (g v) s (Bk (fun _ => t) (Ek acc e fun acc' s' => Iv r acc' { s' with δ := wipeD s'.δ vs }))) : ∀ items acc s, Iv items acc s → ∃ ys s2, compL vs g t e chk items acc s = some (.ok ys, s2) ∧ Iv [] ys s2
  | [], acc, s, h => ⟨acc, s, by simp [compL, hc _ _ _ h], h⟩
  | v :: r, acc, s, h => by
    obtain ⟨o, s1, e1, q1⟩ := h1 v r acc s h
    cases o with
    | exc c fs => exact q1.elim
    | ok u =>
      obtain ⟨o, s2, e2, q2⟩ := (show Wp t s1 _ from q1)
      cases o with
      | exc c fs => exact q2.elim
      | ok b => cases b with
        | false =>
          obtain ⟨ys, s3, e3, q3⟩ := compL_inv Iv hc h1 r acc _ q2
          refine ⟨ys, s3, ?_, q3⟩
          rw [compL]
          dsimp only
          rw [if_pos (hc _ _ _ h)]
          simp only [bnd, e1, e2]
          exact e3
        | true =>
          obtain ⟨o, s3, e3, q3⟩ := (show Wp e s2 _ from q2)
          cases o with
          | exc c fs => exact q3.elim
          | ok x =>
            obtain ⟨o, s4, e4, q4⟩ := (show Wp (frz x) s3 _ from q3)
            cases o with
            | exc c fs => exact q4.elim
            | ok y =>
              obtain ⟨hl, q4⟩ := q4
              obtain ⟨ys, s5, e5, q5⟩ := compL_inv Iv hc h1 r (acc ++ [y]) _ q4
              refine ⟨ys, s5, ?_, q5⟩
              rw [compL]
              dsimp only
              rw [if_pos (hc _ _ _ h)]
              simp only [bnd, e1, e2]
              show bnd e _ s2 = _
              simp only [bnd, e3, e4, if_pos hl]
              exact e5
theorem Wp_comp (Iv : List Val → List T → DSt → Prop) {vs : List Nat} {g : Val → M Unit} {t : M Bool} {e : M Val} {I : Its} {s : DSt} {Q : Out Own → DSt → Prop} (hn : noOwn s.δ vs = true) (hc : ∀ r acc s, Iv r acc s → I.chk s = true)
    (h0 : Iv I.items [] { s with δ := wipeD s.δ vs }) (h1 : ∀ v r acc s, Iv (v :: r) acc s → Wp (g v) s (Bk (fun _ => t) (Ek acc e fun acc' s' => Iv r acc' { s' with δ := wipeD s'.δ vs })))
    (h2 : ∀ ys s2, Iv [] ys s2 → Q (.ok (.lst ys)) { s2 with δ := backD s.δ s2.δ vs }) : Wp (compK vs g t e I) s Q := by
  obtain ⟨ys, s2, e1, q⟩ := compL_inv Iv hc h1 I.items [] _ h0
  refine ⟨_, _, ?_, h2 ys s2 q⟩
  unfold compK hush
  rw [if_pos hn, e1]
/-- a comprehension that changes nothing -/
theorem Wp_compP (φ : Val → Option T) {vs : List Nat} {g : Val → M Unit} {t : M Bool} {e : M Val} {I : Its} {s : DSt} {Q : Out Own → DSt → Prop} (hn : noOwn s.δ vs = true) (hb : backD s.δ (wipeD s.δ vs) vs = s.δ) (hl : I.items.length < sizeLine) (hc : I.chk { s with δ := wipeD s.δ vs } = true)
    (h1 : ∀ v ∈ I.items, ∀ acc : List T, acc.length < sizeLine → Wp (g v) { s with δ := wipeD s.δ vs } (Bk (fun _ => t) (Ek acc e fun acc' s' => acc' = acc ++ (φ v).toList ∧ { s' with δ := wipeD s'.δ vs } = ({ s with δ := wipeD s.δ vs } : DSt))))
    (h2 : Q (.ok (.lst (I.items.filterMap φ))) s) : Wp (compK vs g t e I) s Q := by
  have fl : ∀ l : List Val, (l.filterMap φ).length ≤ l.length := fun l => List.length_filterMap_le _ _
  refine Wp_comp (fun r acc s' => s' = { s with δ := wipeD s.δ vs } ∧ ∃ p, I.items = p ++ r ∧ acc = p.filterMap φ) hn (fun r acc s' ⟨e, _⟩ => by rw [e]; exact hc) ⟨rfl, [], rfl, rfl⟩ ?_ ?_
  · rintro v r acc s' ⟨rfl, p, ep, rfl⟩
    have hm : v ∈ I.items := by rw [ep]; simp
    have hlen : (p.filterMap φ).length < sizeLine := by
      have := fl p
      have z : I.items.length = p.length + (r.length + 1) := by rw [ep]; simp
      omega
    refine (h1 v hm _ hlen).imp fun o s1 q => ?_
    cases o with
    | exc c fs => exact q
    | ok u =>
      refine Wp.imp (f := t) q fun o s2 q => ?_
      have fin : ∀ (acc' : List T) (s' : DSt), (acc' = p.filterMap φ ++ (φ v).toList ∧ ({ s' with δ := wipeD s'.δ vs } : DSt) = { s with δ := wipeD s.δ vs }) → (({ s' with δ := wipeD s'.δ vs } : DSt) = { s with δ := wipeD s.δ vs } ∧ ∃ p', I.items = p' ++ r ∧ acc' = p'.filterMap φ) := fun acc' s' ⟨e1, e2⟩ => by
        refine ⟨e2, p ++ [v], by rw [ep]; simp, ?_⟩
        rw [e1, List.filterMap_append]
        cases hφ : φ v <;> simp [hφ]
      cases o with
      | exc c fs => exact q
      | ok b => cases b with
        | false => exact fin _ _ q
        | true =>
          rw [Ek_true] at q ⊢
          refine q.imp fun o s3 q => ?_
          cases o with
          | exc c fs => exact q
          | ok x =>
            refine Wp.imp (f := frz x) q fun o s4 q => ?_
            cases o with
            | exc c fs => exact q
            | ok y => exact ⟨q.1, fin _ _ q.2⟩
  · rintro ys s2 ⟨rfl, p, ep, rfl⟩
    rw [List.append_nil] at ep
    dsimp only
    rw [hb, ← ep]
    exact h2
/-! texts -/
def jnK (fe : M Val) (a : Val) : M Val := if isStr a then bnd fe fun b => dJoin a b else stuck
@[simp] theorem Wp_dJn (fo fe : M Val) (s : DSt) (Q : Out Val → DSt → Prop) : Wp (dJn fo fe) s Q = Wp fo s (Bk (jnK fe) Q) := Wp_bnd _ _ _ _
@[simp] theorem Wp_jnK (fe : M Val) (x : Str) (s : DSt) (Q : Out Val → DSt → Prop) : Wp (jnK fe (.t (.str x))) s Q = Wp fe s (Bk (dJoin (.t (.str x))) Q) := Wp_bnd _ _ _ _
theorem strsT_str : ∀ ys : List Str, strsT (ys.map T.str) = some ys
  | [] => rfl
  | y :: r => by simp [strsT, strsT_str r]
theorem Wp_join {x : Str} {ys : List Str} (h : (ys.map (·.length)).sum + ys.length * x.length ≤ 16777216) (s : DSt) (Q : Out Val → DSt → Prop) : Wp (dJoin (.t (.str x)) (.t (.lst (ys.map T.str)))) s Q = Q (.ok (.t (.str (Txt.join x ys)))) s := Wp_some (by
  have e := strsT_str ys
  have e2 : plains (List.map (Fv.t ∘ T.str) ys) = some (ys.map T.str) := by rw [← List.map_map]; exact plains_t _
  simp [dJoin, seqOf, e2, e, h])
theorem Wp_min2N (a b : Nat) (s : DSt) (Q : Out Val → DSt → Prop) : Wp (dMin [.t (.int a), .t (.int b)]) s Q = Q (.ok (.t (.int ((min a b : Nat) : Int)))) s := Wp_some (by
  have e : (if (b : Int) < (a : Int) then (b : Int) else (a : Int)) = ((min a b : Nat) : Int) := by
    split <;> omega
  simp only [dMin, e])
/-! in -/
theorem flats_str : ∀ ys : List Str, flats (ys.map fun y => Fv.t (.str y)) = some (ys.map V.str)
  | [] => rfl
  | y :: r => by simp [flats, T.flat, flats_str r]
theorem inV_str (x : Str) (ys : List Str) : inV (.str x) (ys.map V.str) = decide (x ∈ ys) := by
  unfold inV
  induction ys with
  | nil => rfl
  | cons y r ih =>
    rw [List.map_cons, List.any_cons, ih]
    simp only [eqV, List.mem_cons]
    by_cases h : y = x
    · subst h; simp
    · have h' : ¬ x = y := fun z => h z.symm
      have hb : (y == x) = false := by simpa using h
      simp [hb, h']
theorem Wp_inO {neg : Bool} {i : Nat} {x : Str} {ys : List Str} {δ : List (Option Slot)} {μ : List Cell} (h : δ[i]? = some (some (.own (.lst (ys.map T.str))))) (Q : Out Val → DSt → Prop) :
    Wp (dInD neg (.t (.str x)) (.sl i)) ⟨δ, μ⟩ Q = Q (.ok (.t (.bl (if neg then !decide (x ∈ ys) else decide (x ∈ ys))))) ⟨δ, μ⟩ := Wp_some (by
  have e : List.map Fv.t (List.map T.str ys) = ys.map fun y => Fv.t (.str y) := by simp [List.map_map]
  simp [dInD, dcK, dIn, seqOf, h, T.flat, e, flats_str, inV_str])
theorem Wp_inL {neg : Bool} {x : Str} {ys : List Str} (s : DSt) (Q : Out Val → DSt → Prop) :
    Wp (dInD neg (.t (.str x)) (.t (.lst (ys.map T.str)))) s Q = Q (.ok (.t (.bl (if neg then !decide (x ∈ ys) else decide (x ∈ ys))))) s := Wp_some (by
  have e : List.map Fv.t (List.map T.str ys) = ys.map fun y => Fv.t (.str y) := by simp [List.map_map]
  simp [dInD, dcK, dIn, seqOf, T.flat, e, flats_str, inV_str])
theorem Wp_inT {neg : Bool} {x : Str} {ys : List Str} (s : DSt) (Q : Out Val → DSt → Prop) :
    Wp (dInD neg (.t (.str x)) (.t (.tup (ys.map T.str)))) s Q = Q (.ok (.t (.bl (if neg then !decide (x ∈ ys) else decide (x ∈ ys))))) s := Wp_some (by
  have e : List.map Fv.t (List.map T.str ys) = ys.map fun y => Fv.t (.str y) := by simp [List.map_map]
  simp [dInD, dcK, dIn, seqOf, T.flat, e, flats_str, inV_str])
/-! the pool -/
def PoolAt (n k : Nat) (μ : List Cell) : Prop := ∃ a b c : Int, μ[n]? = some (poolC a b c) ∧ 0 ≤ a ∧ 0 ≤ b ∧ b < 1073741824 ∧ 0 ≤ c ∧ c ≤ k
/-- only the pool has changed -/
def Draw (n : Nat) (μ : List Cell) (k : Nat) (μ' : List Cell) : Prop := (∃ c, μ' = μ.set n c) ∧ PoolAt n k μ'
theorem Draw.refl {n k : Nat} {μ : List Cell} (h : PoolAt n k μ) : Draw n μ k μ := by
  obtain ⟨a, b, c, e, q⟩ := h
  refine ⟨⟨poolC a b c, ?_⟩, a, b, c, e, q⟩
  obtain ⟨h1, h2⟩ := List.getElem?_eq_some_iff.mp e
  rw [← h2, List.set_getElem_self]
theorem Draw.trans {n k k' : Nat} {μ μ' μ'' : List Cell} (h : Draw n μ k μ') (h' : Draw n μ' k' μ'') : Draw n μ k' μ'' := by
  obtain ⟨⟨c, rfl⟩, _⟩ := h
  obtain ⟨⟨d, rfl⟩, p⟩ := h'
  exact ⟨⟨d, by rw [List.set_set]⟩, by rw [List.set_set] at p ⊢; exact p⟩
theorem Draw.len {n k : Nat} {μ μ' : List Cell} (h : Draw n μ k μ') : μ'.length = μ.length := by
  obtain ⟨⟨c, rfl⟩, _⟩ := h
  simp
theorem PoolAt.mono {n k k' : Nat} {μ : List Cell} (h : PoolAt n k μ) (hk : k ≤ k') : PoolAt n k' μ := by
  obtain ⟨a, b, c, e, h1, h2, h3, h4, h5⟩ := h
  exact ⟨a, b, c, e, h1, h2, h3, h4, by omega⟩
theorem Draw.mono {n k k' : Nat} {μ μ' : List Cell} (h : Draw n μ k μ') (hk : k ≤ k') : Draw n μ k' μ' := ⟨h.1, h.2.mono hk⟩
end Lf
namespace Lf
open PySem PySem.Spec L2
/-! ### tests -/
@[simp] theorem Wp_dNot (f : M Bool) (s : DSt) (Q : Out Bool → DSt → Prop) : Wp (dNot f) s Q = Wp f s (Bk (fun b => ret (!b)) Q) := Wp_bnd _ _ _ _
@[simp] theorem Wp_dAnd (f g : M Bool) (s : DSt) (Q : Out Bool → DSt → Prop) : Wp (dAnd f g) s Q = Wp f s (Ik g (ret false) Q) := by
  unfold dAnd
  rw [Wp_bnd]
  congr 1
  funext o s1
  cases o with
  | exc c fs => rfl
  | ok b => cases b <;> rfl
@[simp] theorem Wp_dOr (f g : M Bool) (s : DSt) (Q : Out Bool → DSt → Prop) : Wp (dOr f g) s Q = Wp f s (Ik (ret true) g Q) := by
  unfold dOr
  rw [Wp_bnd]
  congr 1
  funext o s1
  cases o with
  | exc c fs => rfl
  | ok b => cases b <;> rfl
@[simp] theorem Wp_vAnd (f g : M Val) (s : DSt) (Q : Out Val → DSt → Prop) : Wp (vAnd f g) s Q = Wp f s (Bk asBl (Ik g (ret (.t (.bl false))) Q)) := by
  unfold vAnd
  rw [Wp_bnd]
  congr 1
  funext o s1
  cases o with
  | exc c fs => rfl
  | ok v =>
    show Wp (bnd (asBl v) _) s1 Q = Wp (asBl v) s1 _
    rw [Wp_bnd]
    congr 1
    funext o s2
    cases o with
    | exc c fs => rfl
    | ok b => cases b <;> rfl
@[simp] theorem Wp_vOr (f g : M Val) (s : DSt) (Q : Out Val → DSt → Prop) : Wp (vOr f g) s Q = Wp f s (Bk asBl (Ik (ret (.t (.bl true))) g Q)) := by
  unfold vOr
  rw [Wp_bnd]
  congr 1
  funext o s1
  cases o with
  | exc c fs => rfl
  | ok v =>
    show Wp (bnd (asBl v) _) s1 Q = Wp (asBl v) s1 _
    rw [Wp_bnd]
    congr 1
    funext o s2
    cases o with
    | exc c fs => rfl
    | ok b => cases b <;> rfl
@[simp] theorem Wp_vNot (f : M Val) (s : DSt) (Q : Out Val → DSt → Prop) : Wp (vNot f) s Q = Wp f s (Bk (fun v => bnd (asBl v) fun b => ret (.t (.bl (!b)))) Q) := Wp_bnd _ _ _ _
@[simp] theorem Wp_dChain (g g' : Val → Val → M Val) (fa fb fc : M Val) (s : DSt) (Q : Out Val → DSt → Prop) : Wp (dChain g g' fa fb fc) s Q = Wp fa s (Bk (fun a => bnd fb fun b => bnd (g a b) fun z => bnd (asBl z) fun k => if k then bnd fc fun c => g' b c else ret (.t (.bl false))) Q) := Wp_bnd _ _ _ _
/-! ### isinstance -/
theorem Wp_isi {tys : List String} {v : Val} {s : DSt} {n : String} (h : tagOf s v = some n) (Q : Out Val → DSt → Prop) : Wp (dIsi tys v) s Q = Q (.ok (.t (.bl (tys.any fun ty => isiB n ty)))) s := Wp_some (by simp [dIsi, h])
@[simp] theorem Wp_isiS (tys : List String) (y : Str) (s : DSt) (Q : Out Val → DSt → Prop) : Wp (dIsi tys (.t (.str y))) s Q = Q (.ok (.t (.bl (tys.any fun ty => isiB "str" ty)))) s := Wp_isi rfl Q
@[simp] theorem Wp_isiI (tys : List String) (y : Int) (s : DSt) (Q : Out Val → DSt → Prop) : Wp (dIsi tys (.t (.int y))) s Q = Q (.ok (.t (.bl (tys.any fun ty => isiB "int" ty)))) s := Wp_isi rfl Q
@[simp] theorem Wp_isiB (tys : List String) (y : Bool) (s : DSt) (Q : Out Val → DSt → Prop) : Wp (dIsi tys (.t (.bl y))) s Q = Q (.ok (.t (.bl (tys.any fun ty => isiB "bool" ty)))) s := Wp_isi rfl Q
@[simp] theorem Wp_isiN (tys : List String) (s : DSt) (Q : Out Val → DSt → Prop) : Wp (dIsi tys (.t .non)) s Q = Q (.ok (.t (.bl (tys.any fun ty => isiB "NoneType" ty)))) s := Wp_isi rfl Q
@[simp] theorem Wp_isiL (tys : List String) (y : List T) (s : DSt) (Q : Out Val → DSt → Prop) : Wp (dIsi tys (.t (.lst y))) s Q = Q (.ok (.t (.bl (tys.any fun ty => isiB "list" ty)))) s := Wp_isi rfl Q
@[simp] theorem Wp_isiT (tys : List String) (y : List T) (s : DSt) (Q : Out Val → DSt → Prop) : Wp (dIsi tys (.t (.tup y))) s Q = Q (.ok (.t (.bl (tys.any fun ty => isiB "tuple" ty)))) s := Wp_isi rfl Q
/-! ### all, any -/
theorem blsT_bl : ∀ bs : List Bool, blsT (bs.map T.bl) = some bs
  | [] => rfl
  | b :: r => by simp [blsT, blsT_bl r]
@[simp] theorem Wp_allL (bs : List Bool) (s : DSt) (Q : Out Val → DSt → Prop) : Wp (dAll [.t (.lst (bs.map T.bl))]) s Q = Q (.ok (.t (.bl (bs.all id)))) s := Wp_some (by simp [dAll, lstOf, blsT_bl])
@[simp] theorem Wp_anyL (bs : List Bool) (s : DSt) (Q : Out Val → DSt → Prop) : Wp (dAny [.t (.lst (bs.map T.bl))]) s Q = Q (.ok (.t (.bl (bs.any id)))) s := Wp_some (by simp [dAny, lstOf, blsT_bl])
/-! ### a comprehension that changes nothing, over a mapped list -/
theorem Wp_compM {α : Type} (l : List α) (f : α → Val) (p : α → Bool) (ψ : α → T) {vs : List Nat} {g : Val → M Unit} {t : M Bool} {e : M Val} {I : Its} {s : DSt} {Q : Out Own → DSt → Prop} (hn : noOwn s.δ vs = true) (hb : backD s.δ (wipeD s.δ vs) vs = s.δ) (hi : I.items = l.map f) (hl : l.length < sizeLine) (hc : I.chk { s with δ := wipeD s.δ vs } = true)
    (h1 : ∀ a ∈ l, ∀ acc : List T, acc.length < sizeLine → Wp (g (f a)) { s with δ := wipeD s.δ vs } (Bk (fun _ => t) (Ek acc e fun acc' s' => acc' = (if p a then acc ++ [ψ a] else acc) ∧ { s' with δ := wipeD s'.δ vs } = ({ s with δ := wipeD s.δ vs } : DSt))))
    (h2 : Q (.ok (.lst ((l.filter p).map ψ))) s) : Wp (compK vs g t e I) s Q := by
  refine Wp_comp (fun r acc s' => s' = { s with δ := wipeD s.δ vs } ∧ ∃ a b, l = a ++ b ∧ r = b.map f ∧ acc = (a.filter p).map ψ) hn (fun r acc s' ⟨e, _⟩ => by rw [e]; exact hc) ⟨rfl, [], l, rfl, hi, rfl⟩ ?_ ?_
  · rintro v r acc s' ⟨rfl, a, b, el, er, rfl⟩
    cases b with
    | nil => cases er
    | cons x b =>
      rw [List.map_cons] at er
      cases er
      have hlen : ((a.filter p).map ψ).length < sizeLine := by
        have h3 := List.length_filter_le p a
        have h4 : l.length = a.length + (b.length + 1) := by rw [el]; simp
        rw [List.length_map]
        omega
      have fin : ∀ (acc' : List T) (s' : DSt), (acc' = (if p x then (a.filter p).map ψ ++ [ψ x] else (a.filter p).map ψ) ∧ ({ s' with δ := wipeD s'.δ vs } : DSt) = { s with δ := wipeD s.δ vs }) → (({ s' with δ := wipeD s'.δ vs } : DSt) = { s with δ := wipeD s.δ vs } ∧ ∃ a' b', l = a' ++ b' ∧ b.map f = b'.map f ∧ acc' = (a'.filter p).map ψ) := fun acc' s' ⟨e1, e2⟩ => by
        refine ⟨e2, a ++ [x], b, by rw [el]; simp, rfl, ?_⟩
        rw [e1, List.filter_append]
        cases hp : p x <;> simp [hp]
      refine (h1 x (by rw [el]; simp) _ hlen).imp fun o s1 q => ?_
      cases o with
      | exc c fs => exact q
      | ok u =>
        refine Wp.imp (f := t) q fun o s2 q => ?_
        cases o with
        | exc c fs => exact q
        | ok b => cases b with
          | false => exact fin _ _ q
          | true =>
            rw [Ek_true] at q ⊢
            refine q.imp fun o s3 q => ?_
            cases o with
            | exc c fs => exact q
            | ok x =>
              refine Wp.imp (f := frz x) q fun o s4 q => ?_
              cases o with
              | exc c fs => exact q
              | ok y => exact ⟨q.1, fin _ _ q.2⟩
  · rintro ys s2 ⟨rfl, a, b, el, er, rfl⟩
    have : b = [] := by simpa using er.symm
    subst this
    rw [List.append_nil] at el
    subst el
    dsimp only
    rw [hb]
    exact h2
theorem Wp_compA {α : Type} (l : List α) (f : α → Val) (ψ : α → T) {vs : List Nat} {g : Val → M Unit} {t : M Bool} {e : M Val} {I : Its} {s : DSt} {Q : Out Own → DSt → Prop} (hn : noOwn s.δ vs = true) (hb : backD s.δ (wipeD s.δ vs) vs = s.δ) (hi : I.items = l.map f) (hl : l.length < sizeLine) (hc : I.chk { s with δ := wipeD s.δ vs } = true)
    (h1 : ∀ a ∈ l, ∀ acc : List T, acc.length < sizeLine → Wp (g (f a)) { s with δ := wipeD s.δ vs } (Bk (fun _ => t) (Ek acc e fun acc' s' => acc' = acc ++ [ψ a] ∧ { s' with δ := wipeD s'.δ vs } = ({ s with δ := wipeD s.δ vs } : DSt))))
    (h2 : Q (.ok (.lst (l.map ψ))) s) : Wp (compK vs g t e I) s Q := by
  refine Wp_compM l f (fun _ => true) ψ hn hb hi hl hc (fun a ha acc hacc => ?_) ?_
  · simpa using h1 a ha acc hacc
  · have : l.filter (fun _ => true) = l := by simp
    rw [this]
    exact h2
theorem Wp_allM {α : Type} (l : List α) (f : α → Bool) (s : DSt) (Q : Out Val → DSt → Prop) : Wp (dAll [.t (.lst (l.map fun a => T.bl (f a)))]) s Q = Q (.ok (.t (.bl (l.all f)))) s := by
  have e : (l.map fun a => T.bl (f a)) = (l.map f).map T.bl := by rw [List.map_map]; rfl
  rw [e, Wp_allL]
  simp
theorem Wp_anyM {α : Type} (l : List α) (f : α → Bool) (s : DSt) (Q : Out Val → DSt → Prop) : Wp (dAny [.t (.lst (l.map fun a => T.bl (f a)))]) s Q = Q (.ok (.t (.bl (l.any f)))) s := by
  have e : (l.map fun a => T.bl (f a)) = (l.map f).map T.bl := by rw [List.map_map]; rfl
  rw [e, Wp_anyL]
  simp
/-! ### enumerate, unpacking -/
def enK (vs : List Val) : M Its := match vs with | [v] => walkEnum v | _ => stuck
@[simp] theorem Wp_iEnum (f : M (List Val)) (s : DSt) (Q : Out Its → DSt → Prop) : Wp (iEnum f) s Q = Wp f s (Bk enK Q) := Wp_bnd _ _ _ _
@[simp] theorem Wp_enK (xs : List T) (s : DSt) (Q : Out Its → DSt → Prop) : Wp (enK [.t (.lst xs)]) s Q = Q (.ok ⟨enumV xs, fun _ => true⟩) s := Wp_some (by
  simp only [enK, walkEnum, lend, bnd, ret, seqOf, plains_t, still])
@[simp] theorem Wp_unpack2 (i j : Nat) (a b : T) (δ : List (Option Slot)) (μ : List Cell) (Q : Out Unit → DSt → Prop) : Wp (unpack [i, j] (.t (.tup [a, b]))) ⟨δ, μ⟩ Q = Q (.ok ()) ⟨(δ.set i (some (.t a))).set j (some (.t b)), μ⟩ := Wp_some rfl
/-! ### == -/
@[simp] theorem Wp_eqI (neg : Bool) (i j : Int) (s : DSt) (Q : Out Val → DSt → Prop) : Wp (dEq neg (.t (.int i)) (.t (.int j))) s Q = Q (.ok (.t (.bl (if neg then !(i == j) else (i == j))))) s := Wp_some (by
  have : SeqAt.shaped (.int i) = true ∧ SeqAt.shaped (.int j) = true := ⟨by rfl, by rfl⟩
  simp [dEq, valPd, T.pd, this.1, this.2, PyData.eqv])
@[simp] theorem Wp_eqB (neg : Bool) (i j : Bool) (s : DSt) (Q : Out Val → DSt → Prop) : Wp (dEq neg (.t (.bl i)) (.t (.bl j))) s Q = Q (.ok (.t (.bl (if neg then !(i == j) else (i == j))))) s := Wp_some (by
  have : SeqAt.shaped (.bool i) = true ∧ SeqAt.shaped (.bool j) = true := ⟨by rfl, by rfl⟩
  simp [dEq, valPd, T.pd, this.1, this.2, PyData.eqv])
/-! ### fields -/
theorem Wp_attr {cs : List Str} {f c : Str} {v : Val} {s : DSt} {l : List (Str × Fv)} {g : Fv} (h : insOf s v = some (c, l)) (hc : cs.contains c = true) (hl : look l f = some g) (Q : Out Val → DSt → Prop) : Wp (dAttr cs f v) s Q = Q (.ok g.val) s := Wp_some (by simp only [dAttr, h, hc, if_true, hl])
theorem Wp_dVarF {i : Nat} {v : Fv} {δ : List (Option Slot)} {μ : List Cell} (h : δ[i]? = some (some v.slot)) (Q : Out Val → DSt → Prop) : Wp (dVar i) ⟨δ, μ⟩ Q = Q (.ok v.val) ⟨δ, μ⟩ := by
  cases v with
  | t x => exact Wp_dVar h Q
  | loc n => exact Wp_dVarL h Q
/-! ### raise -/
@[simp] theorem Wp_dRaise (c f : Str) (fe : M Val) (s : DSt) (Q : Out Fl → DSt → Prop) : Wp (dRaise c f fe) s Q = Wp fe s (Bk (fun v => bnd (frz v) fun t => raise c [(f, t)]) Q) := Wp_bnd _ _ _ _
end Lf
namespace Lf
open PySem PySem.Spec L2
/-! ### while -/
def Vk (b : M Fl) (Nx : DSt → Prop) (Q : Out Fl → DSt → Prop) : Out Bool → DSt → Prop
  | .ok k, s => if k = true then Wp b s (Lk Nx Q) else Q (.ok .nx) s
  | .exc c fs, s => Q (.exc c fs) s
@[simp] theorem Vk_ok (b : M Fl) (Nx : DSt → Prop) (Q : Out Fl → DSt → Prop) (k : Bool) (s : DSt) : Vk b Nx Q (.ok k) s = if k = true then Wp b s (Lk Nx Q) else Q (.ok .nx) s := rfl
theorem Wp_whileInv (Iv : Nat → DSt → Prop) {c : M Bool} {b : M Fl} {Q : Out Fl → DSt → Prop} (h : ∀ n s, Iv n s → ∃ m, n = m + 1 ∧ Wp c s (Vk b (Iv m) Q)) : ∀ n s, Iv n s → Wp (whileN c b n) s Q
  | 0, s, hi => by
    obtain ⟨m, e, _⟩ := h 0 s hi
    cases e
  | n + 1, s, hi => by
    obtain ⟨m, e, q⟩ := h (n + 1) s hi
    cases e
    show Wp (bnd c _) s Q
    rw [Wp_bnd]
    refine q.imp fun o s1 q => ?_
    cases o with
    | exc d fs => exact q
    | ok k => cases k with
      | false =>
        show Wp (ret _) s1 Q
        rw [Wp_ret]
        exact q
      | true =>
        show Wp (bnd b _) s1 Q
        rw [Wp_bnd]
        refine Wp.imp (f := b) q fun o s2 q => ?_
        cases o with
        | exc d fs => exact q
        | ok fl => cases fl with
          | nx => exact Wp_whileInv Iv h n s2 q
          | ct => exact Wp_whileInv Iv h n s2 q
          | bk => show Wp (ret _) _ _; rw [Wp_ret]; exact q
          | rt v => show Wp (ret _) _ _; rw [Wp_ret]; exact q
          | rf v => show Wp (ret _) _ _; rw [Wp_ret]; exact q
/-! ### fields, instances -/
@[simp] theorem Wp_dFldC (cs : List Str) (f : Str) (fo : M Val) (fe : M Own) (s : DSt) (Q : Out Fl → DSt → Prop) : Wp (dFldC cs f fo fe) s Q = Wp fe s (Bk (fun v => bnd (newCell v) fun n => bnd fo fun a => bnd (setF cs f a (.loc n)) fun _ => ret .nx) Q) := Wp_bnd _ _ _ _
@[simp] theorem Wp_dFld (cs : List Str) (f : Str) (fo fe : M Val) (s : DSt) (Q : Out Fl → DSt → Prop) : Wp (dFld cs f fo fe) s Q = Wp fe s (Bk (fun v => bnd fo fun a => bnd (asFv v) fun g => bnd (setF cs f a g) fun _ => ret .nx) Q) := Wp_bnd _ _ _ _
@[simp] theorem Wp_newCell (o : Own) (δ : List (Option Slot)) (μ : List Cell) (Q : Out Nat → DSt → Prop) : Wp (newCell o) ⟨δ, μ⟩ Q = Q (.ok μ.length) ⟨δ, μ ++ [o.cell]⟩ := Wp_some rfl
@[simp] theorem Wp_asFvT (x : T) (s : DSt) (Q : Out Fv → DSt → Prop) : Wp (asFv (.t x)) s Q = Q (.ok (.t x)) s := Wp_ret _ _ _
@[simp] theorem Wp_asFvL (n : Nat) (s : DSt) (Q : Out Fv → DSt → Prop) : Wp (asFv (.loc n)) s Q = Q (.ok (.loc n)) s := Wp_ret _ _ _
theorem Wp_setF {cs : List Str} {f c : Str} {n : Nat} {fs : List (Str × Fv)} {δ : List (Option Slot)} {μ : List Cell} (h : μ[n]? = some (.ins c fs)) (hc : cs.contains c = true) (hl : fs.length < 1000) (g : Fv) (Q : Out Unit → DSt → Prop) : Wp (setF cs f (.loc n) g) ⟨δ, μ⟩ Q = Q (.ok ()) ⟨δ, μ.set n (.ins c (putA fs f g))⟩ := Wp_some (by simp only [setF, h, hc, Bool.true_and, decide_eq_true hl, if_true])
@[simp] theorem Wp_dForK (fe : M Val) (g : Val → M Unit) (b : M Fl) (s : DSt) (Q : Out Fl → DSt → Prop) : Wp (dForK fe g b) s Q = Wp fe s (Bk (fun v => bnd (stillD v) fun kvs => forL g b (fun _ => true) (keysV kvs)) Q) := Wp_bnd _ _ _ _
theorem plainD_t {κ : Type} : ∀ l : List (κ × T), plainD (l.map fun p => (p.1, Fv.t p.2)) = some l
  | [] => rfl
  | (k, x) :: r => by simp [plainD, plainD_t r]
theorem Wp_stillC {n : Nat} {l : List (Key × T)} {δ : List (Option Slot)} {μ : List Cell} (h : μ[n]? = some (.dic false (l.map fun p => (p.1, Fv.t p.2)))) (Q : Out (List (Key × T)) → DSt → Prop) : Wp (stillD (.loc n)) ⟨δ, μ⟩ Q = Q (.ok l) ⟨δ, μ.set n (.fz (.dic l))⟩ := Wp_some (by simp [stillD, h, plainD_t])
@[simp] theorem Wp_dMethV (c m : Str) (F : DFun) (fo : M Val) (fa : M (List Val)) (s : DSt) (Q : Out Val → DSt → Prop) : Wp (dMethV c m F fo fa) s Q = Wp (dMethC c m F fo fa) s (Bk retV Q) := Wp_bnd _ _ _ _
/-- behind the instance -/
def mcK (c m : Str) (F : DFun) (fa : M (List Val)) (v : Val) : M Ret := fun s => match insOf s v with
  | some (d, l) => if d = c ∧ look l m = none then bnd fa (fun vs => bnd (asFvs (v :: vs)) fun fs => callF F fs) s else none
  | none => none
@[simp] theorem Wp_dMethC (c m : Str) (F : DFun) (fo : M Val) (fa : M (List Val)) (s : DSt) (Q : Out Ret → DSt → Prop) : Wp (dMethC c m F fo fa) s Q = Wp fo s (Bk (mcK c m F fa) Q) := Wp_bnd _ _ _ _
theorem Wp_mcK {c m : Str} {F : DFun} {fa : M (List Val)} {v : Val} {s : DSt} {l : List (Str × Fv)} (h : insOf s v = some (c, l)) (hl : look l m = none) (Q : Out Ret → DSt → Prop) : Wp (mcK c m F fa v) s Q = Wp fa s (Bk (fun vs => bnd (asFvs (v :: vs)) fun fs => callF F fs) Q) := by
  rw [← Wp_bnd]
  unfold Wp mcK
  simp only [h, hl, and_self, if_true]
@[simp] theorem Wp_tupD {v : Val} {s : DSt} {kvs : List (Key × Fv)} (h : dcK s v = some kvs) (Q : Out Val → DSt → Prop) : Wp (dTupleD [v]) s Q = Q (.ok (.t (.tup (kvs.map fun p => keyTree p.1)))) s := Wp_some (by simp [dTupleD, h])
@[simp] theorem Wp_tupL (xs : List T) (s : DSt) (Q : Out Val → DSt → Prop) : Wp (dTupleD [.t (.lst xs)]) s Q = Q (.ok (.t (.tup xs))) s := Wp_some (by simp [dTupleD, dcK, dTuple, seqOf, plains_t])
@[simp] theorem Wp_tupT (xs : List T) (s : DSt) (Q : Out Val → DSt → Prop) : Wp (dTupleD [.t (.tup xs)]) s Q = Q (.ok (.t (.tup xs))) s := Wp_some (by simp [dTupleD, dcK, dTuple, seqOf, plains_t])
theorem Wp_ixD {v : Val} {s : DSt} {kvs : List (Key × Fv)} {x : T} {k : Key} {f : Fv} (h : dcK s v = some kvs) (hk : keyT x = some k) (hl : look kvs k = some f) (Q : Out Val → DSt → Prop) : Wp (dIx v (.t x)) s Q = Q (.ok f.val) s := Wp_some (by simp [dIx, h, hk, hl])
theorem Wp_setD {n : Nat} {l : List (Key × Fv)} {x y : T} {k : Key} {δ : List (Option Slot)} {μ : List Cell} (h : μ[n]? = some (.dic false l)) (hk : keyT x = some k) (ho : okKeys l = true) (hl : l.length < sizeLine) (Q : Out Unit → DSt → Prop) : Wp (setIx (.loc n) (.t x) (.t y)) ⟨δ, μ⟩ Q = Q (.ok ()) ⟨δ, μ.set n (.dic false (putA l k (.t y)))⟩ := Wp_some (by
  simp [setIx, asFv, bnd, ret, dcK, h, hk, ho, hl])
@[simp] theorem Wp_dMake (c : Str) (F : DFun) (fa : M (List Val)) (s : DSt) (Q : Out Val → DSt → Prop) : Wp (dMake c F fa) s Q = Wp fa s (Bk (fun vs => bnd (asFvs vs) fun fs => mkObj c F fs) Q) := Wp_bnd _ _ _ _
theorem Wp_mkObj {c d : Str} {F : DFun} {fs : List Fv} {δ : List (Option Slot)} {μ : List Cell} {Q : Out Val → DSt → Prop} (h : Fw F (.loc μ.length :: fs) (μ ++ [.ins c []]) fun o m => ∃ l r ts, o = .ok (.val (.t .non)) ∧ m = μ ++ .ins d l :: r ∧ thawF m μ.length l = some ts ∧ Q (.ok (.t (.obj d ts))) ⟨δ, μ⟩) : Wp (mkObj c F fs) ⟨δ, μ⟩ Q := by
  obtain ⟨o, m, e, l, r, ts, rfl, rfl, e2, q⟩ := h
  refine ⟨_, _, ?_, q⟩
  unfold mkObj
  simp only [e]
  have e3 : Cell.sms (List.take μ.length (μ ++ Cell.ins d l :: r)) μ = true := by rw [List.take_left']; exact Cell.sms_refl μ; rfl
  rw [if_pos e3]
  simp [e2]
/-! ### two fors in a comprehension -/
def compK2 (vs vs1 : List Nat) (g : Val → M Unit) (t : M Bool) (fi1 : M Its) (g1 : Val → M Unit) (t1 : M Bool) (e : M Val) (I : Its) : M Own := fun s => if noOwn s.δ vs then
    match hush (compL2 vs vs1 g t fi1 g1 t1 e I.chk I.items []) { s with δ := wipeD s.δ vs } with
    | some (.ok ys, s2) => some (.ok (.lst ys), { s2 with δ := backD s.δ s2.δ vs })
    | _ => none
  else none
@[simp] theorem Wp_dComp2 (vs vs1 : List Nat) (fi : M Its) (g : Val → M Unit) (t : M Bool) (fi1 : M Its) (g1 : Val → M Unit) (t1 : M Bool) (e : M Val) (s : DSt) (Q : Out Own → DSt → Prop) : Wp (dComp2 vs vs1 fi g t fi1 g1 t1 e) s Q = Wp fi s (Bk (compK2 vs vs1 g t fi1 g1 t1 e) Q) := Wp_bnd _ _ _ _
/-- the inner loop of one turn -/
def Jk (vs1 : List Nat) (g1 : Val → M Unit) (t1 : M Bool) (e : M Val) (acc : List T) (Nx : List T → DSt → Prop) : Out Its → DSt → Prop
  | .ok I, s => ∃ ys s3, compL vs1 g1 t1 e I.chk I.items acc { s with δ := wipeD s.δ vs1 } = some (.ok ys, s3) ∧ Nx ys s3
  | .exc _ _, _ => False
def Hk (fi1 : M Its) (vs1 : List Nat) (g1 : Val → M Unit) (t1 : M Bool) (e : M Val) (acc : List T) (Nx : List T → DSt → Prop) : Out Bool → DSt → Prop
  | .ok b, s => if b = true then Wp fi1 s (Jk vs1 g1 t1 e acc Nx) else Nx acc s
  | .exc _ _, _ => False
@[simp] theorem Hk_true (fi1 : M Its) (vs1 : List Nat) (g1 : Val → M Unit) (t1 : M Bool) (e : M Val) (acc : List T) (Nx : List T → DSt → Prop) (s : DSt) : Hk fi1 vs1 g1 t1 e acc Nx (.ok true) s = Wp fi1 s (Jk vs1 g1 t1 e acc Nx) := by simp [Hk]
theorem compL2_inv (Iv : List Val → List T → DSt → Prop) {vs vs1 : List Nat} {g : Val → M Unit} {t : M Bool} {fi1 : M Its} {g1 : Val → M Unit} {t1 : M Bool} {e : M Val} {chk : DSt → Bool} (hc : ∀ r acc s, Iv r acc s → chk s = true)
    (h1 : ∀ v r acc s, Iv (v :: r) acc s → Wp (g v) s (Bk (fun _ => t) (Hk fi1 vs1 g1 t1 e acc fun acc' s' => Iv r acc' { s' with δ := wipeD s'.δ vs }))) : ∀ items acc s, Iv items acc s → ∃ ys s2, compL2 vs vs1 g t fi1 g1 t1 e chk items acc s = some (.ok ys, s2) ∧ Iv [] ys s2
  | [], acc, s, h => ⟨acc, s, by simp [compL2, hc _ _ _ h], h⟩
  | v :: r, acc, s, h => by
    obtain ⟨o, s1, e1, q1⟩ := h1 v r acc s h
    cases o with
    | exc c fs => exact q1.elim
    | ok u =>
      obtain ⟨o, s2, e2, q2⟩ := (show Wp t s1 _ from q1)
      cases o with
      | exc c fs => exact q2.elim
      | ok b => cases b with
        | false =>
          obtain ⟨ys, s3, e3, q3⟩ := compL2_inv Iv hc h1 r acc _ q2
          refine ⟨ys, s3, ?_, q3⟩
          rw [compL2]
          dsimp only
          rw [if_pos (hc _ _ _ h)]
          simp only [bnd, e1, e2]
          exact e3
        | true =>
          rw [Hk_true] at q2
          obtain ⟨o, s3, e3, q3⟩ := q2
          cases o with
          | exc c fs => exact q3.elim
          | ok I =>
            obtain ⟨ys, s4, e4, q4⟩ := q3
            obtain ⟨zs, s5, e5, q5⟩ := compL2_inv Iv hc h1 r ys _ q4
            refine ⟨zs, s5, ?_, q5⟩
            rw [compL2]
            dsimp only
            rw [if_pos (hc _ _ _ h)]
            simp only [bnd, e1, e2]
            show bnd fi1 _ s2 = _
            simp only [bnd, e3, e4]
            exact e5
theorem Wp_comp2 (Iv : List Val → List T → DSt → Prop) {vs vs1 : List Nat} {g : Val → M Unit} {t : M Bool} {fi1 : M Its} {g1 : Val → M Unit} {t1 : M Bool} {e : M Val} {I : Its} {s : DSt} {Q : Out Own → DSt → Prop} (hn : noOwn s.δ vs = true) (hc : ∀ r acc s, Iv r acc s → I.chk s = true)
    (h0 : Iv I.items [] { s with δ := wipeD s.δ vs }) (h1 : ∀ v r acc s, Iv (v :: r) acc s → Wp (g v) s (Bk (fun _ => t) (Hk fi1 vs1 g1 t1 e acc fun acc' s' => Iv r acc' { s' with δ := wipeD s'.δ vs })))
    (h2 : ∀ ys s2, Iv [] ys s2 → Q (.ok (.lst ys)) { s2 with δ := backD s.δ s2.δ vs }) : Wp (compK2 vs vs1 g t fi1 g1 t1 e I) s Q := by
  obtain ⟨ys, s2, e1, q⟩ := compL2_inv Iv hc h1 I.items [] _ h0
  refine ⟨_, _, ?_, h2 ys s2 q⟩
  unfold compK2 hush
  rw [if_pos hn, e1]
end Lf
namespace Lf
open PySem PySem.Spec L2
section
variable {cl : Cl} {X : Cx}
/-! ### dicts with keys (k,) and (k, (k1, ..)) : cells alone -/
def dnnOf (s : DSt) : Val → Option (List (NKey × Int))
  | .loc n => match s.μ[n]? with
    | some (.dnn kvs) => some kvs
    | some (.dic false []) => some []
    | _ => none
  | _ => none
def keysT : List T → Option (List Key)
  | [] => some []
  | t :: r => match keyT t, keysT r with
    | some k, some ks => some (k :: ks)
    | _, _ => none
def nkeyT : T → Option NKey
  | .tup [x] => match keyT x with
    | some k => some (k, none)
    | none => none
  | .tup [x, .tup ys] => match keyT x, keysT ys with
    | some k, some ks => some (k, some ks)
    | _, _ => none
  | _ => none
theorem keysT_at {K : PySem.W.Frag} {G : Hp} : ∀ {ts : List T} {ks : List Key} {vs : List V}, keysT ts = some ks → Reps K cl G ts vs → vs = ks.map kV
  | [], _, _, h, .nil => by cases h; rfl
  | t :: r, ks, _, h, .cons h1 h2 => by
    unfold keysT at h
    split at h
    · rename_i k ks' e1 e2
      cases h
      rw [keyT_at e1 h1, keysT_at e2 h2]
      rfl
    · cases h
theorem nkey_at {K : PySem.W.Frag} {G : Hp} {t : T} {k : NKey} {x : V} (h : nkeyT t = some k) (r : Rep K cl G t x) : ∃ b, x = .ref b ∧ KeyIn G b k := by
  unfold nkeyT at h
  split at h
  · rename_i y
    split at h
    · rename_i j e
      cases h
      cases r with
      | tup e1 q =>
        cases q with
        | cons h1 h2 =>
          cases h2
          rw [keyT_at e h1] at e1
          exact ⟨_, rfl, e1⟩
    · cases h
  · rename_i y ys
    split at h
    · rename_i j js e e'
      cases h
      cases r with
      | tup e1 q =>
        cases q with
        | cons h1 h2 =>
          cases h2 with
          | cons h3 h4 =>
            cases h4
            cases h3 with
            | tup e3 q3 =>
              rw [keyT_at e h1] at e1
              rw [keysT_at e' q3] at e3
              exact ⟨_, rfl, _, e1, e3⟩
    · cases h
  · cases h
theorem its_key {P : Program} {w : World} {h : Heap} {H : Hp} {a : Addr} {xs : List V} (ok : HOk P w H h) (e : H a = some (.tup xs)) : ∃ (ob : Obj) (its : List Value) (m : Nat), h.get? a = some ob ∧ ob.cls = .type "tuple" ∧ ob.data = .seq its.toArray m ∧ Vals xs its := by
  obtain ⟨_, its, r, o, h1, h2, n, h3⟩ := (show ObjOk P w H h a (.tup xs) from ok a _ e)
  exact ⟨o, its, n, h1, h2, h3, r⟩
theorem key_nis {P : Program} {w : World} {h : Heap} {H : Hp} {b : Addr} {k : NKey} (ok : HOk P w H h) (e : KeyIn H b k) : NIs P w h k b := by
  obtain ⟨j, o⟩ := k
  cases o with
  | none =>
    obtain ⟨ob, its, m, h1, h2, h3, r⟩ := its_key ok e
    obtain ⟨u, rfl, ru⟩ := vals1 r
    exact ⟨ob, _, m, h1, h2, h3, u, rfl, kV_is ru⟩
  | some ks =>
    obtain ⟨c, e1, e2⟩ := e
    obtain ⟨ob, its, m, h1, h2, h3, r⟩ := its_key ok e1
    cases r with
    | cons ru r =>
      cases r with
      | cons rv r =>
        cases r
        rename_i u v
        obtain rfl : v = Value.ref c := rv
        exact ⟨ob, _, m, h1, h2, h3, u, c, rfl, kV_is ru, key_of ok e2⟩
theorem keyIn_H {K : PySem.W.Frag} {w : Wd} {μ : List Cell} {H : Hp} (r : Rc K cl w μ H) {b : Addr} : ∀ {k : NKey}, KeyIn w.G b k → KeyIn H b k
  | (_, none), h => r.tup h
  | (_, some _), ⟨c, h1, h2⟩ => ⟨c, r.tup h1, r.tup h2⟩
/-- what the machine holds there -/
theorem dnn_at {w : Wd} {st : DSt} {σ : L2.St} {H : Hp} (r : R X.K cl w st σ H) (hW : cl.W = X.w) {v : Val} {x : V} {kvs : List (NKey × Int)} (h : dnnOf st v = some kvs) (hv : VR X.K cl w σ v x) {pins : List (Addr × Obj)} {s : Shared} (I : Inv X pins σ H s) :
    ∃ n c a xs, v = .loc n ∧ st.μ[n]? = some c ∧ c.live = true ∧ w.as[n]? = some a ∧ x = .ref a ∧ Mut (H a) ∧ (a == sysModules) = false ∧ Paired (NvR w.G) kvs xs ∧ s.heap.DictOfH (nestKind X.prog X.w) a xs ∧ xs.length ≤ sizeLine := by
  cases v with
  | t y => cases h
  | sl i => cases h
  | loc n =>
    obtain ⟨a, ha, rfl⟩ := hv
    unfold dnnOf at h
    dsimp only at h
    split at h
    · rename_i kvs' e
      cases h
      obtain ⟨_, xs, e1, pr, hl⟩ := r.rc.cell n _ a e ha rfl
      obtain ⟨⟨h0, h1, o, es, ep, h2, h3, h4, h5⟩, _⟩ := (show ObjOk X.prog X.w H s.heap a (DNo cl.W a xs) from I.hok a _ e1)
      refine ⟨n, _, a, xs, rfl, e, rfl, ha, rfl, by rw [e1]; trivial, h0, pr, ⟨o, es, ep, h2, h3, h4, by rw [h5, hW]; rfl, fun q hq => ?_, h1⟩, hl⟩
      have all : ∀ {l : List (NKey × Int)} {m : List (NKey × Addr × Value)}, Paired (NvR w.G) l m → ∀ q ∈ m, NIs X.prog X.w s.heap q.1 q.2.1 := by
        intro l m z
        induction z with
        | nil => intro q hq; exact nomatch hq
        | cons hz _ ih =>
          intro q hq
          rcases List.mem_cons.mp hq with rfl | hq
          · rw [← hz.1]
            exact key_nis I.hok (keyIn_H r.rc hz.2.1)
          · exact ih q hq
      exact all pr q hq
    · rename_i e
      cases h
      obtain ⟨_, vs, e1, pr⟩ := r.rc.cell n _ a e ha rfl
      cases pr
      obtain ⟨_, h0, vs, rel, o, es, ep, h1, h2, h3, h4, h5, h6⟩ := (show ObjOk X.prog X.w H s.heap a (.dK []) from I.hok a _ e1)
      cases rel
      refine ⟨n, _, a, [], rfl, e, rfl, ha, rfl, by rw [e1]; trivial, h0, .nil, ⟨o, es, ep, h1, h2, h3, ?_, (fun q hq => nomatch hq), by simp⟩, by simp⟩
      cases q : es.toList with
      | nil => rfl
      | cons d ds => rw [q] at h5; cases h5
    · cases h
theorem look_nn {G : Hp} (k : NKey) : ∀ {l : List (NKey × Int)} {m : List (NKey × Addr × Value)}, Paired (NvR G) l m → (∀ i, look l k = some i → ∃ b tk, atKey m k = some (b, .int i tk)) ∧ (look l k = none → atKey m k = none)
  | _, _, .nil => ⟨fun i h => (by cases h), fun _ => rfl⟩
  | _, _, .cons (a := p) (b := q) h t => by
    obtain ⟨j, i⟩ := p
    obtain ⟨j', b, v⟩ := q
    obtain ⟨e, _, tk, e2⟩ := h
    cases (show j = j' from e)
    cases (show v = .int i tk from e2)
    obtain ⟨i1, i2⟩ := look_nn k t
    by_cases ej : j = k
    · refine ⟨fun i' h' => ?_, fun h' => ?_⟩
      · simp only [look, if_pos ej] at h'
        cases h'
        exact ⟨b, tk, by simp [atKey, ej]⟩
      · simp only [look, if_pos ej] at h'
        cases h'
    · have e3 : ∀ m, atKey ((j, b, Value.int i tk) :: m) k = atKey m k := fun m => by simp [atKey, ej]
      refine ⟨fun i' h' => ?_, fun h' => ?_⟩
      · simp only [look, if_neg ej] at h'
        rw [e3]
        exact i1 i' h'
      · simp only [look, if_neg ej] at h'
        rw [e3]
        exact i2 h'
theorem room_nn {k : Nat} {A : Around} {P : Program} {w : World} (hr : Room k A) : (nestKind P w).room A.in1 := by
  have := hr.un
  show A.units + 1 + 1 < cLine
  omega
/-! in -/
def dInN (neg : Bool) (a b : Val) : M Val := fun s => match dnnOf s b with
  | some kvs => match a with
    | .t x => match nkeyT x with
      | some k => some (.ok (.t (.bl (if neg then !(look kvs k).isSome else (look kvs k).isSome))), s)
      | none => none
    | _ => none
  | none => none
theorem op4_in_gen {neg : Bool} {k : Nat} (hr : Room k X.A) (hW : cl.W = X.w) : DOp cl X (compareOp (if neg then .NotIn else .In)) (dInN neg) := fun W cw w st σ H Q o st' a b x y u v pins s r ha hb h p I ru rv => by
  unfold dInN at h
  split at h
  · rename_i kvs e
    split at h
    · rename_i t
      split at h
      · rename_i kk ek
        cases h
        obtain ⟨n, c, d, xs, rfl, e1, e2, e3, rfl, mu, hd, pr, dd, hl⟩ := dnn_at r hW e hb I
        cases (show v = Value.ref d from rv)
        obtain ⟨q, rfl, kin⟩ := nkey_at ek ha
        cases (show u = Value.ref q from ru)
        have hs : (atKey xs kk).isSome = (look kvs kk).isSome := by
          obtain ⟨i1, i2⟩ := look_nn kk pr
          cases z : look kvs kk with
          | none => rw [i2 z]; rfl
          | some f => obtain ⟨b, tk, e4⟩ := i1 f z; rw [e4]; rfl
        have kn := key_nis I.hok (keyIn_H r.rc kin)
        cases neg with
        | false =>
          refine wpAny_in_heap (room_nn hr) kn hd dd ?_
          rw [hs]
          exact ⟨.bl _, H, I.tok _, rfl, fin0 r p _ (.bl _)⟩
        | true =>
          refine PyProof.Rows.wpAny_notIn_heap (room_nn hr) kn hd dd ?_
          rw [hs]
          exact ⟨.bl _, H, I.tok _, rfl, fin0 r p _ (.bl _)⟩
      · cases h
    · cases h
  · cases h
theorem op4_in {k : Nat} (hr : Room k X.A) (hW : cl.W = X.w) : DOp cl X (compareOp .In) (dInN false) := op4_in_gen (neg := false) hr hW
theorem op4_notin {k : Nat} (hr : Room k X.A) (hW : cl.W = X.w) : DOp cl X (compareOp .NotIn) (dInN true) := op4_in_gen (neg := true) hr hW
/-! a[b] -/
def dIxN (a b : Val) : M Val := fun s => match dnnOf s a with
  | some kvs => match b with
    | .t x => match nkeyT x with
      | some k => match look kvs k with
        | some i => some (.ok (.t (.int i)), s)
        | none => none
      | none => none
    | _ => none
  | none => none
theorem de_ixN {a b : Expr} {pos : Pos} {fa fb : M Val} {k : Nat} (hr : Room k X.A) (hW : cl.W = X.w) (hs : PlainIx b) (ha : DE cl X a fa) (hb : DE cl X b fb) : DE cl X (.Subscript a b pos) (dBin dIxN fa fb) := fun W cw w st σ H Q o st' r h p => by
  rcases bnd_some h with ⟨c, fs, h1, rfl⟩ | ⟨va, st1, h1, h2⟩
  · exact PE.we (pe_ix ix_seq peW peW hs) (ha W cw w st σ H _ _ st' r h1 p)
  · rcases bnd_some h2 with ⟨c, fs, h3, rfl⟩ | ⟨vb, st2, h3, h4⟩
    · refine PE.we (pe_ix ix_seq peW peW hs) (ha W cw w st σ H _ _ st1 r h1 fun w1 H1 l1 r1 x hx => ?_)
      exact hb W cw w1 st1 σ H1 _ _ st' r1 h3 (p.after l1)
    · unfold dIxN at h4
      split at h4
      · rename_i kvs e
        split at h4
        · rename_i t
          split at h4
          · rename_i kk ek
            split at h4
            · rename_i i ef
              cases h4
              intro pins s I
              refine subD_of PySem.F.slot_dict_getitem.lookup hs (thn (ha W cw w st σ H (fun x H1 => WE X b σ H1 fun y H2 => ∃ w2, Le w H w2 H2 ∧ R X.K cl w2 st' σ H2 ∧ VR X.K cl w2 σ va x ∧ VR X.K cl w2 σ (.t t) y) _ st1 r h1 (fun w1 H1 l1 r1 x hx => hb W cw w1 st1 σ H1 _ _ _ r1 h3 fun w2 H2 l2 r2 y hy => ⟨w2, l1.trans l2, r2, hx.le l2, hy⟩) pins s I) fun u s1 ⟨x, H1, I1, rx, q1⟩ => thn (q1 pins s1 I1) fun iv s2 ⟨y, H2, I2, ry, w2, l2, r2, hx, hy⟩ => ?_)
              obtain ⟨n, c, d, xs, rfl, e1, e2, e3, rfl, mu, hd, pr, dd, hl⟩ := dnn_at r2 hW e hx I2
              obtain rfl : u = Value.ref d := rx
              obtain ⟨q, rfl, kin⟩ := nkey_at ek hy
              obtain rfl : iv = Value.ref q := ry
              refine ⟨dd.typeIs, ?_⟩
              obtain ⟨b', tk, e4⟩ := (look_nn kk pr).1 i ef
              refine wpAny_getItem_heap (room_nn hr) (key_nis I2.hok (keyIn_H r2.rc kin)) dd e4 ?_
              exact ⟨.int i, H2, I2.tok _, ⟨tk, rfl⟩, p w2 H2 l2 r2 _ (.int i)⟩
            · cases h4
          · cases h4
        · cases h4
      · cases h4
/-! len -/
def dLenN (vs : List Val) : M Val := fun s => match vs with
  | [v] => match dnnOf s v with
    | some kvs => some (.ok (.t (.int kvs.length)), s)
    | none => none
  | _ => none
theorem dc_lenN (hW : cl.W = X.w) : DC cl X (.builtin "len") dLenN := fun W cw w st σ H Q o st' vs xs us pins s r hv h p I rv => by
  unfold dLenN at h
  split at h
  · rename_i v
    split at h
    · rename_i kvs e
      cases h
      obtain ⟨x, rfl, hx⟩ := one_of hv
      obtain ⟨n, c, d, ys, rfl, e1, e2, e3, rfl, mu, hd, pr, dd, hl⟩ := dnn_at r hW e hx I
      obtain ⟨u, rfl, ru⟩ := vals1 rv
      obtain rfl : u = Value.ref d := ru
      have hlen := pr.length
      refine call_len_dictH hd dd (by rw [sizeLine_eq] at hl; omega) ?_
      rw [← hlen]
      exact ⟨.int _, H, I.tok _, ⟨_, rfl⟩, fin0 r p _ (.int _)⟩
    · cases h
  · cases h
/-! a[b] = i -/
def setIxN (o i v : Val) : M Unit := fun s => match dnnOf s o, o, i, v with
  | some kvs, .loc n, .t x, .t (.int z) => match nkeyT x with
    | some k => if decide (kvs.length < sizeLine) && (look kvs k).isNone then some (.ok (), { s with μ := s.μ.set n (.dnn (kvs ++ [(k, z)])) }) else none
    | none => none
  | _, _, _, _ => none
theorem ds_setixN {o i e : Expr} {pos pos' : Pos} {fo fi fe : M Val} {k : Nat} (hr : Room k X.A) (hW : cl.W = X.w) (hs : swapsWith e (some (.Subscript o i pos')) pos.line X.env = pure false)
    (ho : DE cl X o fo) (hi : DE cl X i fi) (he : DE cl X e fe) : DS cl X (.Assign [.Subscript o i pos'] e pos) (bnd fe fun v => bnd fo fun a => bnd fi fun j => bnd (setIxN a j v) fun _ => ret .nx) := fun W cw w st σ H D out st' r h p => by
  rcases bnd_some h with ⟨c, fs, g1, rfl⟩ | ⟨v, st1, g1, g2⟩
  · exact PS.ws (ps_dput (hu_of hr) peW peW peW hs) (he W cw w st σ H _ _ st' r g1 p.toPost)
  · rcases bnd_some g2 with ⟨c, fs, g3, rfl⟩ | ⟨a, st2, g3, g4⟩
    · exact PS.ws (ps_dput (hu_of hr) peW peW peW hs) (he W cw w st σ H _ _ st1 r g1 fun w1 H1 l1 r1 y hy => ho W cw w1 st1 σ H1 _ _ st' r1 g3 (p.after l1).toPost)
    · rcases bnd_some g4 with ⟨c, fs, g5, rfl⟩ | ⟨j, st3, g5, g6⟩
      · exact PS.ws (ps_dput (hu_of hr) peW peW peW hs) (he W cw w st σ H _ _ st1 r g1 fun w1 H1 l1 r1 y hy => ho W cw w1 st1 σ H1 _ _ st2 r1 g3 fun w2 H2 l2 r2 x hx => hi W cw w2 st2 σ H2 _ _ st' r2 g5 ((p.after l1).after l2).toPost)
      · rcases bnd_some g6 with ⟨c, fs, g7, rfl⟩ | ⟨_, st4, g7, g8⟩
        · exfalso
          unfold setIxN at g7
          repeat (first | (split at g7) | cases g7)
        · cases g8
          unfold setIxN at g7
          split at g7
          · rename_i kvs n t z e0
            split at g7
            · rename_i kk ek
              split at g7
              · rename_i hok
                cases g7
                simp only [Bool.and_eq_true, decide_eq_true_eq] at hok
                intro pins s I
                refine wpAny_Assign_Subscript (thn (he W cw w st σ H (fun y H1 => WE X o σ H1 fun x H2 => WE X i σ H2 fun q H3 => ∃ w3, Le w H w3 H3 ∧ R X.K cl w3 st3 σ H3 ∧ VR X.K cl w3 σ (.t (.int z)) y ∧ VR X.K cl w3 σ (.loc n) x ∧ VR X.K cl w3 σ (.t t) q) _ st1 r g1 (fun w1 H1 l1 r1 y hy => ho W cw w1 st1 σ H1 _ _ st2 r1 g3 fun w2 H2 l2 r2 x hx => hi W cw w2 st2 σ H2 _ _ st3 r2 g5 fun w3 H3 l3 r3 q hq => ⟨w3, l1.trans (l2.trans l3), r3, (hy.le l2).le l3, hx.le l3, hq⟩) pins s I)
                  fun rv s1 ⟨y, H1, I1, ry, q1⟩ => thn (q1 pins s1 I1) fun u s2 ⟨x, H2, I2, rx, q2⟩ => thn (q2 pins s2 I2) fun iv s3 ⟨q, H3, I3, rq, w3, l3, r3, hy, hx, hq⟩ => ?_) hs
                obtain ⟨n', c, d, xs, en, e1, e2, e3, rfl, mu, hd, pr, dd, hl⟩ := dnn_at r3 hW e0 hx I3
                cases en
                obtain rfl : u = Value.ref d := rx
                obtain ⟨b, rfl, kin⟩ := nkey_at ek hq
                obtain rfl : iv = Value.ref b := rq
                cases hy
                obtain ⟨tk, rfl⟩ := ry
                have hlen := pr.length
                have hnone : atKey xs kk = none := (look_nn kk pr).2 (by simpa using hok.2)
                refine wpAny_setItem_heap (hsz := hl) (room_nn hr) (key_nis I3.hok (keyIn_H r3.rc kin)) dd fun h' dd' hsb => ?_
                rw [storedH_new hnone] at dd'
                obtain ⟨o', es, ep, k1, k2, k3, k4, k5, k6⟩ := dd'
                have new : ObjOk X.prog X.w (upd H3 d (DNo cl.W d (xs ++ [(kk, b, .int z tk)]))) h' d (DNo cl.W d (xs ++ [(kk, b, .int z tk)])) := by
                  refine ⟨⟨hd, k6, o', es, ep, k1, k2, k3, by rw [k4, hW]; rfl⟩, ⟨o', k1⟩, fun h1 h2 ⟨z0, z1, oo, ee, pp, z2, z3⟩ kp => ⟨z0, z1, oo, ee, pp, kp _ z2, z3⟩⟩
                have I4 := d_write (t' := s3.toks + (nestKind X.prog X.w).draws kk) I3 mu hsb ⟨o', k1⟩ new
                obtain ⟨r4, l4⟩ := r3.updC (c' := .dnn (kvs ++ [(kk, z)])) (ho := DNo cl.W d (xs ++ [(kk, b, .int z tk)])) e1 e3 e2 rfl fun H5 e8 => ⟨_, e8, Paired.app pr (.cons ⟨rfl, kin, tk, rfl⟩ .nil), by rw [List.length_append]; simp only [List.length_singleton]; omega⟩
                exact ⟨σ, _, I4, p w3 σ _ (l3.trans l4) r4⟩
              · cases g7
            · cases g7
          · cases g7
end
end Lf
namespace Lf
open PySem PySem.Spec L2
section
variable {cl : Cl} {X : Cx}
/-! ### a new object as a cell, in any place -/
def dNew (f : M Own) : M Val := bnd f fun o => bnd (newCell o) fun n => ret (.loc n)
theorem gNew {e : Expr} {f : M Own} (h : DF cl X e f) : DE cl X e (dNew f) := fun W cw w st σ H Q o st' r hf p => by
  rcases bnd_some hf with ⟨c, fs, h1, rfl⟩ | ⟨v, st1, h1, h2⟩
  · exact h W cw w st σ H _ _ st' r h1 p.exc
  · cases h2
    refine h W cw w st σ H _ _ st1 r h1 fun w1 H1 l1 r1 a ho ha hO => ?_
    obtain ⟨w2, e2, l2, r2⟩ := newCell_at r1 ha hO
    exact p w2 _ (l1.trans l2) r2 _ ⟨a, e2, rfl⟩
/-! ### a new instance that stays a cell -/
def mkObjC (c : Str) (F : DFun) (fs : List Fv) : M Val := fun s => match F (.loc s.μ.length :: fs) (s.μ ++ [.ins c []]) with
  | some (.ok (.val (.t .non)), m) => some (.ok (.loc s.μ.length), { s with μ := m })
  | some (.exc d l, m) => some (.exc d l, { s with μ := m })
  | _ => none
theorem mkObjC_at {k : Nat} {f C : Addr} {fd : FuncData} {ps : List Str} {F : DFun} {c : Str} {W : WX} (cw : Cw X W) (hC : cl c = some C) (Mm : Mk X.K C f) (G : FnOk X.prog X.w X.K X.mg X.base (L2.CX X.prog X.w) k f fd ps (spD cl X.K ps.length F)) (hr : Room (k + 1) X.A) (hb : Binds X.K fd ps [])
    {w2 : Wd} {st3 st' : DSt} {σ : L2.St} {H1 : Hp} {fs : List Fv} {xs : List V} {us : List Value} {Q : VK} {o : Out Val} (r2 : R X.K cl w2 st3 σ H1) (q2 : Paired (FvR X.K cl w2) fs xs) (hlen : fs.length + 1 = ps.length) (h5 : mkObjC c F fs st3 = some (o, st')) (pp : Post cl X W σ w2 H1 o st' (fun v w' H' => ∀ x, VR X.K cl w' σ v x → Q x H')) {pins : List (Addr × Obj)} {s1 : Shared} (I1 : Inv X pins σ H1 s1) (rv : Vals xs us) :
    wpAny (model X.prog X.w) X.A (call (.ref C) us) (EP X pins σ Q) X.xe s1 := by
  refine run_makeS (E := fun c d H' => W c d σ H') Mm G hr hb (passAt cw.tk σ) I1 rv fun y dx hy hdx hne => ?_
  obtain ⟨gdx, odx⟩ := r2.free hdx
  have r3 : R X.K cl w2 st3 σ (upd H1 dx (.own y)) := r2.swap gdx odx fun a ha => upd_ne ha
  have l3 : Le w2 H1 w2 (upd H1 dx (.own y)) := (Le.refl w2 H1).swap hdx fun a ha => upd_ne ha
  obtain ⟨w4, e4, eG, l4, r4⟩ := r3.newC (c := .ins c []) (ho := .ins C dx []) (a := y) (by rw [upd_ne (Ne.symm hne)]; exact hy) rfl fun w' H2 _ _ e => ⟨C, dx, [], hC, e, .nil⟩
  have l24 := l3.trans l4
  unfold mkObjC at h5
  have fin : ∀ {o1 : Out Ret} {m : List Cell}, F (.loc st3.μ.length :: fs) (st3.μ ++ [.ins c []]) = some (o1, m) →
      (∀ w5 H5, Le w2 H1 w5 H5 → R X.K cl w5 ⟨st3.δ, m⟩ σ H5 → w5.as[st3.μ.length]? = some y →
        match o1 with
        | .ok (.val v) => v = .t .non ∧ Q (.ref y) H5
        | .ok (.own _) => False
        | .exc c fs => ∀ cv d, ExR X.K cl w5 H5 c fs cv d → W cv d σ H5) →
      spD cl X.K ps.length F (.ref y :: xs) (upd (upd H1 dx (.own y)) y (.ins C dx [])) (fun v H2 => v = .non ∧ Q (.ref y) H2) (fun c d H' => W c d σ H') := fun {o1 m} eF kk => by
    refine call_end (W := W) (X := X) r4 (args := .loc st3.μ.length :: fs) (.cons ⟨y, e4, rfl⟩ (q2.mono fun _ _ z => z.mono l24.as l24.g)) hlen (o := o1) (st' := ⟨st3.δ, m⟩) ?_ ?_
    · unfold callF
      rw [eF]
      cases o1 <;> rfl
    · cases o1 with
      | ok v =>
        intro w5 H5 l5 r5
        have := kk w5 H5 (l24.trans l5) r5 (pre_get l5.as e4)
        cases v with
        | val v =>
          obtain ⟨z1, z2⟩ := this
          subst z1
          intro x' hx'
          cases hx'
          exact ⟨rfl, z2⟩
        | own v => exact this.elim
      | exc c fs =>
        intro w5 H5 cv d l5 r5 hx
        exact kk w5 H5 (l24.trans l5) r5 (pre_get l5.as e4) cv d hx
  split at h5
  · rename_i m eF
    cases h5
    exact fin eF fun w5 H5 l5 r5 e5 => ⟨rfl, pp w5 H5 l5 r5 (.ref y) ⟨y, e5, rfl⟩⟩
  · rename_i d l m eF
    cases h5
    exact fin eF fun w5 H5 l5 r5 e5 cv dd hx => pp w5 H5 cv dd l5 r5 hx
  · cases h5
def dMakeC (c : Str) (F : DFun) (fa : M (List Val)) : M Val := bnd fa fun vs => bnd (asFvs vs) fun fs => mkObjC c F fs
theorem gMakeC {k : Nat} {f C : Addr} {fd : FuncData} {ps : List Str} {F : DFun} {x c : Str} {p pos : Pos} {e : Expr} {es : List Expr} {fa : M (List Val)} {n : Nat} (hC : cl c = some C) (Mm : Mk X.K C f) (G : FnOk X.prog X.w X.K X.mg X.base (L2.CX X.prog X.w) k f fd ps (spD cl X.K ps.length F)) (hr : Room (k + 1) X.A) (hm : X.mg x = some (.ref C)) (hb : Binds X.K fd ps []) (hn : n + 1 = ps.length) (hla : Len n fa) (ha : DA cl X (e :: es) fa)
    (hg : Gl X x := by rfl) (hdb : (x == ("__debug__" : Str)) = false := by decide) (he : starEach (e :: es) X.env = (false, eval e X.env) :: starEach es X.env := by rfl) (hpl : (backTo pos (starEach es X.env)).any (·.1) = false := by rfl) :
    DE cl X (.Call (.Name x p) (e :: es) [] pos) (dMakeC c F fa) := fun W cw w st σ H Q ou st' r h pp => by
  intro pins s I
  refine wpAny_Call_Name_kw (ld_glob I hg hm ?_ hdb)
  rcases bnd_some h with ⟨c, fs, h2, rfl⟩ | ⟨vs, st2, h2, h3⟩
  · exact PySem.W.callWith_K (h₀ := X.base) I.ok.mod.kin Mm.kp (thn (ha W cw w st σ H (fun _ _ => False) _ st' r h2 pp.exc pos pins s I) fun us s1 ⟨_, _, _, _, z⟩ => z.elim) he hpl
  · refine PySem.W.callWith_K (h₀ := X.base) I.ok.mod.kin Mm.kp (thn (ha W cw w st σ H (fun xs H1 => ∃ w1, Le w H w1 H1 ∧ R X.K cl w1 st2 σ H1 ∧ Paired (VR X.K cl w1 σ) vs xs) _ st2 r h2 (fun w1 H1 l1 r1 xs hxs => ⟨w1, l1, r1, hxs⟩) pos pins s I) fun us s1 ⟨xs, H1, I1, rv, w1, l1, r1, hxs⟩ => ⟨I1.kIn, ?_⟩) he hpl
    rcases bnd_some h3 with ⟨c, fs, h4, rfl⟩ | ⟨fs, st3, h4, h5⟩
    · obtain ⟨fs, w', z, _⟩ := asFvs_at r1 hxs h4
      cases z
    · obtain ⟨fs', w2, z, l2, r2, q2⟩ := asFvs_at r1 hxs h4
      cases z
      exact mkObjC_at cw hC Mm G hr hb r2 q2 (by rw [q2.length, ← hxs.length, hla _ _ _ h2]; exact hn) h5 (pp.after (l1.trans l2)) I1 rv
theorem gMakeC0 {k : Nat} {f C : Addr} {fd : FuncData} {ps : List Str} {F : DFun} {x c : Str} {p pos : Pos} (hC : cl c = some C) (Mm : Mk X.K C f) (G : FnOk X.prog X.w X.K X.mg X.base (L2.CX X.prog X.w) k f fd ps (spD cl X.K ps.length F)) (hr : Room (k + 1) X.A) (hm : X.mg x = some (.ref C)) (hb : Binds X.K fd ps []) (hn : 1 = ps.length)
    (hg : Gl X x := by rfl) (hdb : (x == ("__debug__" : Str)) = false := by decide) : DE cl X (.Call (.Name x p) [] [] pos) (dMakeC c F (ret [])) := fun W cw w st σ H Q ou st' r h pp => by
  intro pins s I
  refine wpAny_Call_Name_kw (ld_glob I hg hm ?_ hdb)
  rcases bnd_some h with ⟨c, fs, h2, rfl⟩ | ⟨vs, st2, h2, h3⟩
  · cases h2
  · cases h2
    rcases bnd_some h3 with ⟨c, fs, h4, rfl⟩ | ⟨fs, st3, h4, h5⟩
    · cases h4
    · cases h4
      refine PySem.W.callWith_K0 (first := []) I.kIn Mm.kp ?_
      exact mkObjC_at (xs := []) (us := []) cw hC Mm G hr hb r .nil hn h5 pp I .nil
/-! ### cells that stand still from then on -/
def frzC (n : Nat) : M T := fun s => match s.μ[n]? with
  | some (.lst xs) => match plains xs with
    | some ts => some (.ok (.lst ts), { s with μ := s.μ.set n (.fz (.lst ts)) })
    | none => none
  | some (.dic false kvs) => match plainD kvs with
    | some ts => some (.ok (.dic ts), { s with μ := s.μ.set n (.fz (.dic ts)) })
    | none => none
  | some (.fz x) => some (.ok x, s)
  | _ => none
theorem frzC_at {K : PySem.W.Frag} {w : Wd} {st st' : DSt} {σ : L2.St} {H : Hp} (r : R K cl w st σ H) {n : Nat} {a : Addr} {o : Out T} (ha : w.as[n]? = some a) (h : frzC n st = some (o, st')) : ∃ t w', o = .ok t ∧ Le w H w' H ∧ R K cl w' st' σ H ∧ Rep K cl w'.G t (.ref a) := by
  unfold frzC at h
  split at h
  · rename_i xs e
    split at h
    · rename_i ts et
      cases h
      obtain ⟨_, vs, e2, q⟩ := r.rc.cell n _ a e ha rfl
      obtain ⟨w', l, r', rp⟩ := r.freezeC (x := .lst ts) e ha rfl e2 fun G' sg e3 => .lst e3 ((plains_reps et q).mono sg)
      exact ⟨_, w', rfl, l, r', rp⟩
    · cases h
  · rename_i kvs e
    split at h
    · rename_i ts et
      cases h
      obtain ⟨_, vs, e2, q⟩ := r.rc.cell n _ a e ha rfl
      obtain ⟨w', l, r', rp⟩ := r.freezeC (x := .dic ts) e ha rfl e2 fun G' sg e3 => .dic e3 ((plainD_at et q).mono sg)
      exact ⟨_, w', rfl, l, r', rp⟩
    · cases h
  · rename_i x e
    cases h
    exact ⟨x, w, rfl, Le.refl _ _, r, r.rc.fz n _ a e ha⟩
  · cases h
def frzFs : List (Key × Fv) → M (List (Key × T))
  | [] => ret []
  | (k, .t x) :: r => bnd (frzFs r) fun l => ret ((k, x) :: l)
  | (k, .loc m) :: r => bnd (frzC m) fun x => bnd (frzFs r) fun l => ret ((k, x) :: l)
theorem frzFs_at {K : PySem.W.Frag} {σ : L2.St} {H : Hp} : ∀ {l : List (Key × Fv)} {m : List (Key × V)} {w : Wd} {st st' : DSt} {o : Out (List (Key × T))}, R K cl w st σ H → Paired (PvR K cl w) l m → frzFs l st = some (o, st') → ∃ ts w', o = .ok ts ∧ Le w H w' H ∧ R K cl w' st' σ H ∧ RepD K cl w'.G ts m
  | [], _, w, st, st', o, r, .nil, h => by cases h; exact ⟨[], w, rfl, Le.refl _ _, r, .nil⟩
  | (k, .t x) :: l, _, w, st, st', o, r, .cons (b := q) hv hvs, h => by
    obtain ⟨j, v⟩ := q
    cases (show k = j from hv.1)
    unfold frzFs at h
    rcases bnd_some h with ⟨c, fs, h1, rfl⟩ | ⟨ts, st1, h1, h2⟩
    · obtain ⟨t, w', e, _⟩ := frzFs_at r hvs h1
      cases e
    · obtain ⟨ts', w1, e, l1, r1, q1⟩ := frzFs_at r hvs h1
      cases e
      cases h2
      exact ⟨_, w1, rfl, l1, r1, .cons (Rep.mono l1.g hv.2) q1⟩
  | (k, .loc n) :: l, _, w, st, st', o, r, .cons (b := q) hv hvs, h => by
    obtain ⟨j, v⟩ := q
    cases (show k = j from hv.1)
    obtain ⟨a, ha, e0⟩ := hv.2
    cases (show v = .ref a from e0)
    unfold frzFs at h
    rcases bnd_some h with ⟨c, fs, h1, rfl⟩ | ⟨t, st1, h1, h2⟩
    · obtain ⟨t, w', e, _⟩ := frzC_at r ha h1
      cases e
    · obtain ⟨t', w1, e, l1, r1, q1⟩ := frzC_at r ha h1
      cases e
      have hvs1 := hvs.mono fun _ _ z => PvR.mono l1.as l1.g z
      rcases bnd_some h2 with ⟨c, fs, h3, rfl⟩ | ⟨ts, st2, h3, h4⟩
      · obtain ⟨t, w', e, _⟩ := frzFs_at r1 hvs1 h3
        cases e
      · obtain ⟨ts', w2, e, l2, r2, q2⟩ := frzFs_at r1 hvs1 h3
        cases e
        cases h4
        exact ⟨_, w2, rfl, l1.trans l2, r2, .cons (q1.mono l2.g) q2⟩
/-- a cell with the cells in it -/
def frzN (n : Nat) : M T := fun s => match s.μ[n]? with
  | some (.dic false kvs) => match frzFs kvs s with
    | some (.ok l, s1) => match s1.μ[n]? with
      | some (.dic false _) => some (.ok (.dic l), { s1 with μ := s1.μ.set n (.fz (.dic l)) })
      | _ => none
    | _ => none
  | _ => frzC n s
theorem frzN_at {K : PySem.W.Frag} {w : Wd} {st st' : DSt} {σ : L2.St} {H : Hp} (r : R K cl w st σ H) {n : Nat} {a : Addr} {o : Out T} (ha : w.as[n]? = some a) (h : frzN n st = some (o, st')) : ∃ t w', o = .ok t ∧ Le w H w' H ∧ R K cl w' st' σ H ∧ Rep K cl w'.G t (.ref a) := by
  unfold frzN at h
  split at h
  · rename_i kvs e
    split at h
    · rename_i l s1 e1
      split at h
      · rename_i kvs' e'
        cases h
        obtain ⟨_, vs, e2, q⟩ := r.rc.cell n _ a e ha rfl
        obtain ⟨ts, w1, z, l1, r1, q1⟩ := frzFs_at r q e1
        cases z
        have ha1 := pre_get l1.as ha
        obtain ⟨w', l2, r', rp⟩ := r1.freezeC (x := .dic l) e' ha1 rfl e2 fun G' sg e3 => .dic e3 (q1.mono sg)
        exact ⟨_, w', rfl, l1.trans l2, r', rp⟩
      · cases h
    · cases h
  · exact frzC_at r ha h
def frzV : Val → M T
  | .loc n => frzN n
  | v => frz v
theorem frzV_at {K : PySem.W.Frag} {w : Wd} {st st' : DSt} {σ : L2.St} {H : Hp} (r : R K cl w st σ H) {v : Val} {x : V} {o : Out T} (hv : VR K cl w σ v x) (h : frzV v st = some (o, st')) : ∃ t w', o = .ok t ∧ Le w H w' H ∧ R K cl w' st' σ H ∧ Rep K cl w'.G t x := by
  cases v with
  | t y => exact frz_at r hv h
  | sl i => exact frz_at r hv h
  | loc n => obtain ⟨a, ha, rfl⟩ := hv; exact frzN_at r ha h
def frzVs : List Val → M (List T)
  | [] => ret []
  | v :: vs => bnd (frzV v) fun t => bnd (frzVs vs) fun ts => ret (t :: ts)
theorem frzVs_at {K : PySem.W.Frag} {σ : L2.St} {H : Hp} : ∀ {vs : List Val} {xs : List V} {w : Wd} {st st' : DSt} {o : Out (List T)}, R K cl w st σ H → Paired (VR K cl w σ) vs xs → frzVs vs st = some (o, st') → ∃ ts w', o = .ok ts ∧ Le w H w' H ∧ R K cl w' st' σ H ∧ Reps K cl w'.G ts xs
  | [], _, w, st, st', o, r, .nil, h => by cases h; exact ⟨[], w, rfl, Le.refl _ _, r, .nil⟩
  | v :: vs, _, w, st, st', o, r, .cons hv hvs, h => by
    unfold frzVs at h
    rcases bnd_some h with ⟨c, fs, h1, rfl⟩ | ⟨t, st1, h1, h2⟩
    · obtain ⟨t, w', e, _⟩ := frzV_at r hv h1
      cases e
    · obtain ⟨t', w1, e, l1, r1, q1⟩ := frzV_at r hv h1
      cases e
      rcases bnd_some h2 with ⟨c, fs, h3, rfl⟩ | ⟨ts, st2, h3, h4⟩
      · obtain ⟨ts, w', e, _⟩ := frzVs_at r1 (hvs.mono fun _ _ z => z.le l1) h3
        cases e
      · obtain ⟨ts', w2, e, l2, r2, q2⟩ := frzVs_at r1 (hvs.mono fun _ _ z => z.le l1) h3
        cases e
        cases h4
        exact ⟨_, w2, rfl, l1.trans l2, r2, .cons (q1.mono l2.g) q2⟩
/-- a tuple, its cells given away -/
def dTupF (f : M (List Val)) : M Val := bnd f fun vs => bnd (frzVs vs) fun ts => if ts.length ≤ sizeLine then ret (.t (.tup ts)) else stuck
theorem gTupF {es : List Expr} {x1} {pos : Pos} {f : M (List Val)} (h : DA cl X es f) : DE cl X (.Tuple es x1 pos) (dTupF f) := fun W cw w st σ H Q o st' r hf p => by
  refine PE.we (pe_tup paW) ?_
  unfold tTup
  rcases bnd_some hf with ⟨c, fs, h1, rfl⟩ | ⟨vs, st1, h1, h2⟩
  · exact h W cw w st σ H _ _ st' r h1 p
  · refine h W cw w st σ H _ _ st1 r h1 fun w1 H1 l1 r1 xs hxs => ?_
    rcases bnd_some h2 with ⟨c, fs, h3, rfl⟩ | ⟨ts, st2, h3, h4⟩
    · obtain ⟨ts, w', e, _⟩ := frzVs_at r1 hxs h3
      cases e
    · obtain ⟨ts', w2, e, l2, r2, q2⟩ := frzVs_at r1 hxs h3
      cases e
      split at h4
      · rename_i hl
        cases h4
        exact ⟨by rw [← q2.length]; exact hl, fun a ha => finT r2 q2 (p.after (l1.trans l2)) ha⟩
      · cases h4
end
end Lf
namespace Lf
open PySem PySem.Spec L2
/-! ### enumerate(tuple) -/
theorem enumT_new (l : Addr) (items : Array Value) (n : Nat) (dct : Option Addr) (sl : Array (Option Value)) :
    Meets (Builtin.«enumerate.__new__» ⟨[.type "enumerate", .ref l], []⟩) (fun _ R s => s.heap.get? l = some { cls := .type "tuple", dict := dct, data := .seq items n, slots := sl } ∧
      R (.ok (.ret (.ref (s.heap.push { cls := .type "tuple_iterator", data := .fields #[.ref l, .int 0 0] }).objs.size)))
        { s with heap := (s.heap.push { cls := .type "tuple_iterator", data := .fields #[.ref l, .int 0 0] }).push { cls := .type "enumerate", data := .fields #[.none, .bool false, .ref s.heap.objs.size, rawInt 0, .none, .none] } }) :=
  .of_wp fun prog w A R s h => by
    obtain ⟨hp, g, d, tk, os⟩ := s
    obtain ⟨hl, h⟩ := h
    have hsub := sub_enumerate
    have hT : Heap.IsTuple (Shared.heap ⟨hp, g, d, tk, os⟩) l items := ⟨_, hl, rfl, n, rfl⟩
    wp_walk using AutoSeq1.wpAny_loadPart' hl
    refine wpAny_stack_any fun st => wpAny_pure ?_
    split
    · rename_i c _ _ _ _ _
      cases (c == Value.type "enumerate") <;> (wp_walk using AutoSeq1.wpAny_loadPart' hl, wpAny_pyIter_tuple hT; exact ⟨_, rfl, h⟩)
    · wp_walk using AutoSeq1.wpAny_loadPart' hl, wpAny_pyIter_tuple hT; exact ⟨_, rfl, h⟩
theorem enumT_call {prog : Program} {w : World} {A : Around} {E : Value → Shared → Prop} {s : Shared} {l : Addr} {items : Array Value} {Q : Value → Shared → Prop} (hL : s.heap.IsTuple l items)
    (h : ∀ h', IsEnum h' (s.heap.objs.size + 1) s.heap.objs.size 0 .none → h'.IsTupleIter s.heap.objs.size l 0 → h'.objs.size = s.heap.objs.size + 2 → (∀ b o, s.heap.get? b = some o → h'.get? b = some o) → Q (.ref (s.heap.objs.size + 1)) { s with heap := h' }) :
    wpAny (model prog w) A (call (.type "enumerate") [.ref l]) Q E s := by
  obtain ⟨⟨c, dct, dt, sl⟩, hl, hc, n, hd⟩ := hL
  cases (show c = .type "tuple" from hc)
  cases (show dt = .seq items n from hd)
  refine callType_new F.called_enumerate (by decide) (F.typeCall_enumerate_1 _) (F.newCall_enumerate_1 _) (fun obj => F.args_object_init_2 obj _) F.entry_enumerate_new (enumT_new l items n dct sl) ⟨hl, ?_⟩
  let h1 := s.heap.push { cls := .type "tuple_iterator", data := .fields #[.ref l, .int 0 0] }
  have hz : h1.objs.size = s.heap.objs.size + 1 := Heap.size_push ..
  show _ ∧ _
  rw [show (s.heap.push { cls := .type "tuple_iterator", data := .fields #[.ref l, .int 0 0] }).objs.size = s.heap.objs.size + 1 from hz]
  have he : IsEnum (h1.push { cls := .type "enumerate", data := .fields #[.none, .bool false, .ref s.heap.objs.size, rawInt 0, .none, .none] }) (s.heap.objs.size + 1) s.heap.objs.size 0 .none := by
    have q := Heap.get?_push_size h1 (o := { cls := .type "enumerate", data := .fields #[.none, .bool false, .ref s.heap.objs.size, rawInt 0, .none, .none] }) rfl
    rw [hz] at q
    exact q
  exact ⟨⟨_, he, rfl⟩, h _ he ⟨_, Heap.get?_push_of_some _ (Heap.get?_push_size _ rfl), rfl, rfl⟩ (by rw [Heap.size_push, hz]) fun b o x => Heap.get?_push_of_some _ (Heap.get?_push_of_some _ x)⟩
theorem enumT_end {prog : Program} {w : World} {A : Around} {E : Value → Shared → Prop} {s : Shared} {e it t : Addr} {k : Nat} {i : Int} {items : Array Value} {old : Value} {Q : Option Value → Shared → Prop} (hh : A.in1.handled = none) (he : IsEnum s.heap e it i old) (hit : s.heap.IsTupleIter it t k) (ht : s.heap.IsTuple t items) (hx : items[k]? = none)
    (hQ : ∀ h', Heap.ExtBut it s.heap h' → Q none { s with heap := h' }) : wpAny (model prog w) A (pyNext (.ref e)) Q E s := by
  have ty : s.TypeIs (.ref e) "enumerate" := ⟨_, he, rfl⟩
  unfold pyNext
  refine wpAny_bind (wpAny_attempt (wpAny_callSpecial?_slot (name := Str.ofString "__next__") ty F.slot_enumerate_next (wpAny_call_entry F.slot_enumerate_next ty F.entry_enumerate_next ?_ (F.args_enumerate_next_1 _))))
  show wpAny _ _ (bind (field (.ref e) 2) _) _ _ _
  refine wpAny_bind (wpAny_field he rfl (x := .ref it) rfl ?_)
  refine wpAny_bind (wpAny_nextOf_tuple_end hh hit ht hx fun h' x he' hx' => ?_)
  obtain ⟨o, ho, hc⟩ := hx'
  exact wpAny_bind (wpAny_isInstance (T := "StopIteration") (b := true) ⟨o, ho, hc⟩ isSubtype_stop (wpAny_pure (hQ _ he')))
def IteT (K : PySem.W.Frag) (a : Addr) : It :=
  ⟨fun i H => ∃ (xs : List V) (x : V), SqT K H a xs ∧ xs[i]? = some x, fun i H v H' => ∃ q x, v = .ref q ∧ H q = none ∧ H' = upd H q (.tup [.int (i : Nat), x]) ∧ ∀ xs, SqT K H a xs → xs[i]? = some x, fun i H => ∃ xs : List V, SqT K H a xs ∧ xs.length ≤ i⟩
theorem turn_enumT {P : Program} {w : World} {K : PySem.W.Frag} {elts : List Expr} {kk : Nat} {tpos : Pos} (a e it : Addr) :
    Turn P w K (.Tuple elts kk tpos) (IteT K a) [e, it] e (fun i h => (∃ old, IsEnum h e it ((i : Nat) : Int) old) ∧ h.IsTupleIter it a i ∧ e ≠ it ∧ e ≠ a ∧ a ≠ it) where
  mem := by simp
  obj := fun i h st b hb => by
    obtain ⟨⟨old, he⟩, ⟨o, ho, hc, hd⟩, _⟩ := st
    rcases (show b = e ∨ b = it by simpa using hb) with rfl | rfl
    · exact ⟨_, he, fun v q => nomatch q⟩
    · exact ⟨o, ho, fun v q => by rw [hd] at q; cases q⟩
  keep := fun i h h' st k => let ⟨⟨old, he⟩, hi, hne⟩ := st; ⟨⟨old, k e (by simp) _ he⟩, hi.at fun o q => k it (by simp) o q, hne⟩
  item := by
    intro X hP hw hK hc i pins s σ H E I hf st hg
    subst hP hw hK
    obtain ⟨⟨old, he⟩, hit, hne, hea, hai⟩ := st
    obtain ⟨xs, x, hq, hx⟩ := hg
    obtain ⟨its, rv, p, hz⟩ := I.tuple hq
    have hel : e < s.heap.objs.size := Heap.lt_size he
    have hil : it < s.heap.objs.size := by obtain ⟨_, q, _⟩ := hit; exact Heap.lt_size q
    have hlen := rv.length
    have hi : i < its.toArray.size := by
      have := (List.getElem?_eq_some_iff.mp hx).1
      simp
      omega
    have hA : X.A.in1.handled = none := I.ok.hd hc
    refine wpAny_pyNext_enum_itemD (Draws.tuple hA it a hai its.toArray) he ⟨hit, p⟩ hi hne (by simp [hne, hea]) fun u h' tk hu ho hst hT hsz hk => ?_
    obtain ⟨u', hu', ru⟩ := rv.get hx
    have : u = u' := by
      have h2 : its.toArray[i]? = some u' := by simpa using hu'
      rw [h2] at hu
      cases hu
      rfl
    subst this
    refine ⟨_, rfl, wpAny_letOwnedTupleGo_enum (s := { s with heap := h', toks := tk + 1 }) ho fun h'' he' sb => ?_⟩
    have hT2 : h''.get? s.heap.objs.size = some { cls := .type "tuple", data := .seq #[.int i tk, u] } := (sb.2 _ (Nat.ne_of_gt hel)).trans hT
    have new : ObjOk X.prog X.w (upd H s.heap.objs.size (.tup [.int (i : Nat), x])) h'' s.heap.objs.size (.tup [.int (i : Nat), x]) :=
      ⟨by show 2 ≤ sizeLine; decide, [.int i tk, u], .cons ⟨_, rfl⟩ (.cons ru .nil), ⟨_, hT2, rfl, _, rfl⟩⟩
    have I1 : Inv X pins σ (upd H s.heap.objs.size (.tup [.int (i : Nat), x])) { s with heap := h'', toks := tk + 1 } :=
      I.turnedNew (ch := [e, it]) (fun b ob hb q => (sb.2 b (fun z => hb (by simp [z]))).trans (hk b ob (fun z => hb (by simp [z])) (fun z => hb (by simp [z])) q)) hf (Nat.le_refl _) new
    refine ⟨.ref s.heap.objs.size, _, I1, rfl, ⟨_, x, rfl, I.hok.fresh (Nat.le_refl _), rfl, fun ys hy => by rw [I.tuple_inj hy hq]; exact hx⟩, ⟨⟨u, ?_⟩, hst.1.at fun o q => (sb.2 it (Ne.symm hne)).trans q, hne, hea, hai⟩, fun b hb => ?_⟩
    · rw [show ((i + 1 : Nat) : Int) = (i : Int) + 1 by omega]
      exact he'
    · have hb' : b < s.heap.objs.size := by
        rcases (show b = e ∨ b = it by simpa using hb) with rfl | rfl
        · exact hel
        · exact hil
      rw [upd_ne (Nat.ne_of_lt hb')]
      exact (hf b hb).1
  done := by
    intro X hP hw hK hc i pins s σ H E I hf st hg
    subst hP hw hK
    obtain ⟨⟨old, he⟩, hit, hne, hea, hai⟩ := st
    obtain ⟨xs, hq, hx⟩ := hg
    obtain ⟨its, rv, p, hz⟩ := I.tuple hq
    obtain ⟨f0, f1, f2, f3, f4, f5⟩ := hf it (by simp)
    have hA : X.A.in1.handled = none := I.ok.hd hc
    have hl := rv.length
    exact enumT_end hA he hit p (by simp; omega) fun h' eb => ⟨rfl, I.turned (t' := s.toks) (fun b o hb q => eb b o hb q) f0 f1 f3 f4 f5⟩
  self := fun A i s Q E st h => let ⟨⟨_, he⟩, _⟩ := st; wpAny_pyIter_enum he h
def iEnumT (K : PySem.W.Frag) (ta : TA) : TI := fun σ H R => ta σ H fun vs H1 => ∃ a xs, vs = [.ref a] ∧ SqT K H1 a xs ∧ R (IteT K a) H1
theorem pi_enumT {X : Cx} {e : Expr} {ta : TA} {p pos tpos : Pos} {elts : List Expr} {kk : Nat} (hg : Gl X "enumerate") (hm : X.mg "enumerate" = none) (ha : PA X [e] ta) (hs : starEach [e] X.env = [(false, eval e X.env)]) :
    PI X (.Tuple elts kk tpos) (.Call (.Name "enumerate" p) [e] [] pos) (iEnumT X.K ta) := by
  refine ⟨fun pins s σ H R I h => ?_⟩
  refine PyProof.Rows.Call_ (ld_blt I hg hm PyProof.Rows.boot_enumerate (PyProof.Rows.callWith_type1 (thn (ha.run pos pins s σ H _ I h) fun us s1 ⟨vs, H1, I1, r1, q1⟩ => ?_) hs rfl))
  obtain ⟨a, xs, rfl, hq, q⟩ := q1
  obtain ⟨u, rfl, ru⟩ := vals1 r1
  obtain rfl : u = Value.ref a := ru
  obtain ⟨its, rv, p', hz⟩ := I1.tuple hq
  have hal : a < s1.heap.objs.size := by obtain ⟨o, ho, _⟩ := p'; exact Heap.lt_size ho
  refine enumT_call p' fun h' he hit hsz hk => wpAny_pyIter_enum he ?_
  have I2 : Inv X pins σ H1 { s1 with heap := h' } := I1.kept (t' := s1.toks) hk
  refine ⟨s1.heap.objs.size + 1, [s1.heap.objs.size + 1, s1.heap.objs.size], _, _, H1, rfl, I2, turn_enumT a (s1.heap.objs.size + 1) s1.heap.objs.size, ⟨⟨.none, he⟩, hit, Nat.succ_ne_self _, (Nat.ne_of_lt (Nat.lt_succ_of_lt hal)).symm, Nat.ne_of_lt hal⟩, fun b hb => ?_, q⟩
  have hle : s1.heap.objs.size ≤ b := by
    rcases (show b = s1.heap.objs.size + 1 ∨ b = s1.heap.objs.size by simpa using hb) with z | z
    · rw [z]; exact Nat.le_succ _
    · rw [z]; exact Nat.le_refl _
  exact I1.fpOk hle (I1.hok.fresh hle)
section
variable {cl : Cl} {X : Cx}
theorem it_enumT {w : Wd} {st : DSt} {σ : L2.St} {H : Hp} {v : Val} {a : Addr} {ts : List T} (h : seqOf st v = some (true, ts.map .t)) (hv : VR X.K cl w σ v (.ref a)) (hs : ∀ i, v ≠ .sl i) : ItR cl X w H ⟨enumV ts, still v true (ts.map .t)⟩ (IteT X.K a) := fun i w1 st1 σ1 H1 la lg r hc => by
  obtain ⟨b, vs, e, g, pr⟩ := seq_at r (still_seq h hc) (vr_later (σ1 := σ1) la lg hv hs)
  cases e
  have g' : SqT X.K H1 a vs := g
  have hl : ts.length = vs.length := by have := pr.length; simpa using this
  refine ⟨fun hi => ⟨vs, g', by rw [← hl]; simpa [enumV] using hi⟩, fun u hu => ?_⟩
  have hu' : (enumV ts)[i]? = some u := hu
  unfold enumV at hu'
  rw [List.getElem?_map, Option.map_eq_some_iff] at hu'
  obtain ⟨k, hk, rfl⟩ := hu'
  have hlt : i < ts.length := by simpa using lt_of_get hk
  rw [List.getElem?_range hlt] at hk
  cases hk
  have hti : ts[i]? = some (ts.getD i .non) := by rw [List.getD_eq_getElem?_getD, List.getElem?_eq_getElem hlt]; rfl
  obtain ⟨x, hx, fx⟩ := paired_at (i := i) (a := Fv.t (ts.getD i .non)) pr (by rw [List.getElem?_map, hti]; rfl)
  refine ⟨⟨vs, x, g', hx⟩, fun y H2 ⟨Ta, x', e1, e2, e3, e4⟩ => ?_⟩
  have := e4 vs g'
  rw [hx] at this
  cases this
  subst e1 e3
  obtain ⟨r2, l2⟩ := r.fresh e2 (.tup [.int (i : Nat), x])
  exact ⟨_, l2, r2, .tup upd_same (.cons (.int _) (.cons (Rep.mono l2.g fx) .nil))⟩
def walkEnumT (v : Val) : M Its := bnd (lend v) fun v => fun s => match seqOf s v with
  | some (true, ts) => match plains ts with
    | some xs => some (.ok ⟨enumV xs, still v true (xs.map .t)⟩, s)
    | none => none
  | _ => none
def iEnT (f : M (List Val)) : M Its := bnd f fun vs => match vs with | [v] => walkEnumT v | _ => stuck
theorem iET {e : Expr} {elts : List Expr} {kk : Nat} {p pos tpos : Pos} {f : M (List Val)} (hm : X.mg "enumerate" = none) (ha : DA cl X [e] f) (hg : Gl X "enumerate" := by rfl) (hs : starEach [e] X.env = [(false, eval e X.env)] := by rfl) :
    DI cl X (.Tuple elts kk tpos) (.Call (.Name "enumerate" p) [e] [] pos) (iEnT f) := fun W cw w st σ H Rr o st' r h pp => by
  refine PI.wi (pi_enumT hg hm paW hs) ?_
  rcases bnd_some h with ⟨c, fs, h1, rfl⟩ | ⟨vs, st1, h1, h2⟩
  · exact ha W cw w st σ H _ _ st' r h1 pp
  · refine ha W cw w st σ H _ _ st1 r h1 fun w1 H1 l1 r1 xs hxs => ?_
    split at h2
    · rename_i v
      obtain ⟨x, rfl, hx⟩ := one_of hxs
      unfold walkEnumT at h2
      rcases bnd_some h2 with ⟨c, fs, h4, rfl⟩ | ⟨v', st2, h4, h5⟩
      · obtain ⟨v2, w2, e2, _⟩ := lend_at r1 hx h4
        cases e2
      · obtain ⟨v2, w2, e2, l2, r2, hv2, ns⟩ := lend_at r1 hx h4
        cases e2
        split at h5
        · rename_i ts e5
          split at h5
          · rename_i xs' e6
            cases h5
            rw [plains_map e6] at e5
            obtain ⟨a, vs, rfl, g, pr⟩ := seq_at r2 e5 hv2
            exact ⟨a, vs, rfl, g, pp w2 H1 (l1.trans l2) r2 _ (it_enumT e5 hv2 ns)⟩
          · cases h5
        · cases h5
    · cases h2
end
end Lf
namespace Lf
open PySem PySem.Spec L2
/-! ### sorting -/
section
variable {α : Type} (le : α → α → Bool)
def insB (x : α) : List α → List α
  | [] => [x]
  | y :: r => if le x y then x :: y :: r else y :: insB x r
def srtB : List α → List α
  | [] => []
  | x :: r => insB le x (srtB r)
variable {le}
theorem insB_perm (x : α) : ∀ l : List α, (insB le x l).Perm (x :: l)
  | [] => .refl _
  | y :: r => by
    unfold insB
    split
    · exact .refl _
    · exact ((insB_perm x r).cons y).trans (.swap x y r)
theorem srtB_perm : ∀ l : List α, (srtB le l).Perm l
  | [] => .refl _
  | x :: r => (insB_perm x _).trans ((srtB_perm r).cons x)
theorem insB_srt (tr : ∀ a b c, le a b = true → le b c = true → le a c = true) (to : ∀ a b, le a b = true ∨ le b a = true) (x : α) : ∀ {l : List α}, l.Pairwise (fun a b => le a b = true) → (insB le x l).Pairwise (fun a b => le a b = true)
  | [], _ => by simp [insB]
  | y :: r, h => by
    unfold insB
    split
    · rename_i hxy
      refine List.pairwise_cons.mpr ⟨fun z hz => ?_, h⟩
      rcases List.mem_cons.mp hz with rfl | hz
      · exact hxy
      · exact tr _ _ _ hxy ((List.pairwise_cons.mp h).1 z hz)
    · rename_i hxy
      have hyx : le y x = true := (to x y).resolve_left hxy
      refine List.pairwise_cons.mpr ⟨fun z hz => ?_, insB_srt tr to x (List.pairwise_cons.mp h).2⟩
      rcases List.mem_cons.mp ((insB_perm x r).mem_iff.mp hz) with rfl | hz
      · exact hyx
      · exact (List.pairwise_cons.mp h).1 z hz
theorem srtB_srt (tr : ∀ a b c, le a b = true → le b c = true → le a c = true) (to : ∀ a b, le a b = true ∨ le b a = true) : ∀ l : List α, (srtB le l).Pairwise (fun a b => le a b = true)
  | [] => .nil
  | x :: r => insB_srt tr to x (srtB_srt tr to r)
end
/-! texts -/
theorem lt_irr : ∀ a : List Nat, ltCps a a = false
  | [] => rfl
  | x :: r => by simp [ltCps, lt_irr r]
theorem lt_tr : ∀ {a b c : List Nat}, ltCps b a = false → ltCps c b = false → ltCps c a = false
  | a, b, [], h1, h2 => by
    cases a with
    | nil => rfl
    | cons x r =>
      cases b with
      | nil => simp [ltCps] at h1
      | cons y t => simp [ltCps] at h2
  | [], b, z :: u, h1, h2 => by simp [ltCps]
  | x :: r, [], z :: u, h1, h2 => by simp [ltCps] at h1
  | x :: r, y :: t, z :: u, h1, h2 => by
    simp only [ltCps, Bool.or_eq_false_iff, Bool.and_eq_false_iff, decide_eq_false_iff_not, beq_eq_false_iff_ne] at h1 h2 ⊢
    refine ⟨by omega, ?_⟩
    by_cases e : z = x
    · have e1 : y = x := by omega
      have e2 : z = y := by omega
      exact .inr (lt_tr (h1.2.resolve_left (fun q => q e1)) (h2.2.resolve_left (fun q => q e2)))
    · exact .inl e
theorem lt_anti : ∀ {a b : List Nat}, ltCps b a = false → ltCps a b = false → a = b
  | [], [], _, _ => rfl
  | [], y :: t, h1, h2 => by simp [ltCps] at h2
  | x :: r, [], h1, h2 => by simp [ltCps] at h1
  | x :: r, y :: t, h1, h2 => by
    simp only [ltCps, Bool.or_eq_false_iff, Bool.and_eq_false_iff, decide_eq_false_iff_not, beq_eq_false_iff_ne] at h1 h2
    have e : x = y := by omega
    subst e
    rw [lt_anti (h1.2.resolve_left (fun q => q rfl)) (h2.2.resolve_left (fun q => q rfl))]
theorem lt_to : ∀ a b : List Nat, ltCps b a = false ∨ ltCps a b = false
  | [], [] => .inl rfl
  | [], y :: t => .inl (by simp [ltCps])
  | x :: r, [] => .inr (by simp [ltCps])
  | x :: r, y :: t => by
    simp only [ltCps, Bool.or_eq_false_iff, Bool.and_eq_false_iff, decide_eq_false_iff_not, beq_eq_false_iff_ne]
    rcases Nat.lt_trichotomy x y with h | h | h
    · exact .inl ⟨by omega, .inl (by omega)⟩
    · rcases lt_to r t with q | q
      · exact .inl ⟨by omega, .inr q⟩
      · exact .inr ⟨by omega, .inr q⟩
    · exact .inr ⟨by omega, .inl (by omega)⟩
def leS (a b : Str) : Bool := !ltCps b.cps.toList a.cps.toList
theorem leS_tr (a b c : Str) (h1 : leS a b = true) (h2 : leS b c = true) : leS a c = true := by
  simp only [leS, Bool.not_eq_true'] at h1 h2 ⊢
  exact lt_tr h1 h2
theorem leS_to (a b : Str) : leS a b = true ∨ leS b a = true := by
  simp only [leS, Bool.not_eq_true']
  exact lt_to _ _
theorem leS_anti {a b : Str} (h1 : leS a b = true) (h2 : leS b a = true) : a = b := by
  simp only [leS, Bool.not_eq_true'] at h1 h2
  obtain ⟨⟨x⟩⟩ := a
  obtain ⟨⟨y⟩⟩ := b
  have : x = y := lt_anti h1 h2
  rw [this]
theorem rising_pw : ∀ {r : List Str} {x : Str}, PyProof.Rows.risingS x r = true → (x :: r).Pairwise (fun a b => leS a b = true)
  | [], x, _ => by simp
  | y :: r, x, h => by
    simp only [PyProof.Rows.risingS, Bool.and_eq_true] at h
    have ih := rising_pw h.2
    refine List.pairwise_cons.mpr ⟨fun z hz => ?_, ih⟩
    rcases List.mem_cons.mp hz with rfl | hz
    · exact h.1
    · exact leS_tr _ _ _ h.1 ((List.pairwise_cons.mp ih).1 z hz)
theorem sortedS_pw {l : List Str} (h : PyProof.Rows.sortedS l = true) : l.Pairwise (fun a b => leS a b = true) := by
  cases l with
  | nil => exact .nil
  | cons x r => exact rising_pw h
abbrev srtS := srtB leS
theorem srtS_eq {l m : List Str} (hp : m.Perm l) (hs : PyProof.Rows.sortedS m = true) : m = srtS l :=
  List.Perm.eq_of_pairwise (le := fun a b => leS a b = true) (fun a b _ _ h1 h2 => leS_anti h1 h2) (sortedS_pw hs) (srtB_srt leS_tr leS_to l) (hp.trans (srtB_perm l).symm)
abbrev leI : Int → Int → Bool := fun a b => decide (a ≤ b)
abbrev srtI := srtB leI
theorem srtI_srt (l : List Int) : (srtI l).Pairwise (fun a b => leI a b = true) := srtB_srt (fun a b c h1 h2 => by simp [leI] at *; omega) (fun a b => by simp [leI]; omega) l
theorem srtI_eq {l m : List Int} (hp : m.Perm l) (hs : m.Pairwise (· ≤ ·)) : m = srtI l :=
  List.Perm.eq_of_pairwise (le := fun a b => leI a b = true) (fun a b _ _ h1 h2 => by simp [leI] at h1 h2; omega) (hs.imp fun h => by simpa [leI] using h) (srtI_srt l) (hp.trans (srtB_perm l).symm)
section
variable {cl : Cl} {X : Cx}
theorem strs_reps {K : PySem.W.Frag} {G : Hp} : ∀ ys : List Str, Reps K cl G (ys.map T.str) (ys.map V.str)
  | [] => .nil
  | y :: r => .cons (.str y) (strs_reps r)
theorem ints_reps {K : PySem.W.Frag} {G : Hp} : ∀ ys : List Int, Reps K cl G (ys.map T.int) (ys.map V.int)
  | [] => .nil
  | y :: r => .cons (.int y) (ints_reps r)
/-- sorted(xs), a list of texts or of ints -/
def dSorted (vs : List Val) : M Own := fun s => match vs with
  | [v] => match lstOf s v with
    | some ts => match strsT ts with
      | some xs => if xs.length < 64 then some (.ok (.lst ((srtS xs).map T.str)), s) else none
      | none => match intsT ts with
        | some ns => some (.ok (.lst ((srtI ns).map T.int)), s)
        | none => none
    | none => none
  | _ => none
theorem dcf_sorted : DCF cl X (.builtin "sorted") dSorted := fun W cw w st σ H Q o st' vs xs us pins s r hv h p I rv => by
  unfold dSorted at h
  split at h
  · split at h
    · rename_i v ts e
      obtain ⟨x, rfl, hx⟩ := one_of hv
      obtain ⟨a, ws, rfl, g, q⟩ := lst_at r e hx
      split at h
      · rename_i ys e2
        split at h
        · rename_i hl
          cases h
          rw [strs_at e2 q] at g
          refine cr_sortedS pins s σ H _ us Q I rv ⟨a, ys, rfl, SqL.of g, hl, fun zs b hp hs hb => ?_⟩
          rw [srtS_eq hp hs]
          exact p w H (Le.refl _ _) r b (.lst ((srtS ys).map V.str)) hb fun H2 e2 => ⟨_, e2, strs_reps _⟩
        · cases h
      · split at h
        · rename_i ns e3
          cases h
          rw [intsT_at e3 q] at g
          refine cr_sortedI pins s σ H _ us Q I rv ⟨a, ns, rfl, SqL.of g, fun zs b hp hs hb => ?_⟩
          rw [srtI_eq hp hs]
          exact p w H (Le.refl _ _) r b (.lst ((srtI ns).map V.int)) hb fun H2 e2 => ⟨_, e2, ints_reps _⟩
        · cases h
    · cases h
  · cases h
theorem gBF {id : String} {g : List Val → M Own} {x : Str} {e : Expr} {es : List Expr} {p pos : Pos} {fa : M (List Val)} (hc : DCF cl X (.builtin id) g) (hm : X.mg x = none) (hv : bootBuiltins x = some (.builtin id)) (ha : DA cl X (e :: es) fa) (hg : Gl X x := by rfl) (hn : x ≠ "__name__" := by decide) (hdb : (x == ("__debug__" : Str)) = false := by decide)
    (he : starEach (e :: es) X.env = (false, eval e X.env) :: starEach es X.env := by rfl) (hpl : (backTo pos (starEach es X.env)).any (·.1) = false := by rfl) : DF cl X (.Call (.Name x p) (e :: es) [] pos) (bnd fa g) := df_callB hc hg hm hv hn hdb he hpl ha
/-! ### list.index -/
def mIndex (v : Val) (vs : List Val) : M Val := fun s => match vs, seqOf s v with
  | [.t y], some (false, ts) => match y.flat, flats ts with
    | some z, some zs => match zs.findIdx? fun q => eqV q z with
      | some j => some (.ok (.t (.int (j : Nat))), s)
      | none => none
    | _, _ => none
  | _, _ => none
theorem dmt_index : DMt cl X "list.index" mIndex := fun W cw w st σ H Q o st' v x u vs xs us pins s r hv hvs h p I ru rv => by
  unfold mIndex at h
  split at h
  · rename_i y ts e
    split at h
    · rename_i z zs e1 e2
      split at h
      · rename_i j e3
        cases h
        obtain ⟨y', rfl, hy⟩ := one_of hvs
        obtain ⟨rfl, f1⟩ := flat_at e1 hy
        obtain ⟨a, ws, rfl, g, pr⟩ := seq_at r e hv
        obtain ⟨rfl, f2⟩ := flats_at e2 pr
        have g' : SqL X.K H a ws := g
        obtain ⟨hj, h1, h2⟩ := List.findIdx?_eq_some_iff_getElem.mp e3
        refine mt_index pins s σ H _ _ u us Q I ru rv ⟨a, ws, y', j, ws[j], rfl, rfl, g', f1, f2, List.getElem?_eq_getElem hj, h1, fun m z' hm hz => ?_, fin0 r p _ (.int _)⟩
        obtain ⟨hm', rfl⟩ := List.getElem?_eq_some_iff.mp hz
        have := h2 m hm
        simpa using this
      · cases h
    · cases h
  · cases h
/-! ### list(x): of a dict too -/
def dListD (vs : List Val) : M Own := fun s => match vs with
  | [v] => match dcK s v with
    | some kvs => some (.ok (.lst (kvs.map fun p => keyTree p.1)), s)
    | none => dList vs s
  | _ => none
theorem dcf_listD (hc : X.calm = true) : DCF cl X (.type "list") dListD := fun W cw w st σ H Q o st' vs xs us pins s r hv h p I rv => by
  unfold dListD at h
  split at h
  · split at h
    · rename_i v kvs e
      cases h
      obtain ⟨x, rfl, hx⟩ := one_of hv
      obtain ⟨a, m, rfl, rd, pr⟩ := dcK_at r e hx
      refine call_listD hc pins s σ H _ us Q I rv ⟨a, m, rfl, rd, fun q hq => ?_⟩
      have e1 : (m.map fun kv => kV kv.1) = (kvs.map (·.1)).map kV := by rw [keys_pair pr, List.map_map]; rfl
      have e2 : (kvs.map fun p => keyTree p.1) = (kvs.map (·.1)).map keyTree := by rw [List.map_map]; rfl
      rw [e1]
      rw [e2] at p
      exact p w H (Le.refl _ _) r q (.lst ((kvs.map (·.1)).map kV)) hq fun H2 e2 => ⟨_, e2, keys_reps _⟩
    · exact dcf_list W cw w st σ H Q o st' _ xs us pins s r hv h p I rv
  · cases h
end
end Lf
namespace Lf
open PySem PySem.Spec L2
section
variable {cl : Cl} {X : Cx}
/-! ### {k: v for x in it if t} -/
/-- one pair more -/
def dcPut (acc : List (Key × Fv)) (y : Val) (f : Fv) : Option (List (Key × Fv)) := match y with
  | .t ty => match keyT ty with
    | some k => if okKeys acc && decide (acc.length < sizeLine) then some (putA acc k f) else none
    | none => none
  | _ => none
def dcL (vs : List Nat) (g : Val → M Unit) (t : M Bool) (fk fv : M Val) (chk : DSt → Bool) : List Val → List (Key × Fv) → M (List (Key × Fv))
  | [], acc => fun s => if chk s then some (.ok acc, s) else none
  | v :: r, acc => fun s => if chk s then bnd (g v) (fun _ => bnd t fun b => if b then bnd fk fun y => bnd fv fun x => bnd (asFv x) fun f => fun s => match dcPut acc y f with
        | some acc' => dcL vs g t fk fv chk r acc' { s with δ := wipeD s.δ vs }
        | none => none
      else fun s => dcL vs g t fk fv chk r acc { s with δ := wipeD s.δ vs }) s else none
def dcRun (vs : List Nat) (fi : M Its) (g : Val → M Unit) (t : M Bool) (fk fv : M Val) : M (List (Key × Fv)) := bnd fi fun I => fun s => if noOwn s.δ vs then
    match hush (dcL vs g t fk fv I.chk I.items []) { s with δ := wipeD s.δ vs } with
    | some (.ok ys, s2) => some (.ok ys, { s2 with δ := backD s.δ s2.δ vs })
    | _ => none
  else none
theorem asFv_quiet : Quiet asFv := fun v s c fs s' h => by
  cases v with
  | t x => cases h
  | loc n => cases h
  | sl i =>
    unfold asFv at h
    rcases bnd_some h with ⟨c, fs, h1, _⟩ | ⟨t, st1, h1, h2⟩
    · exact frz_quiet _ _ _ _ _ h1
    · cases h2
theorem dc_read {tg iter : Expr} {vs : List Nat} {fi : M Its} {g : Val → M Unit} {ft : M Bool} {fk fv : M Val} (hi : DI cl X tg iter fi) {W : WX} (cw : Cw X W) {w : Wd} {st st' : DSt} {σ : L2.St} {H : Hp} {Q : VK} {o : Out (List (Key × Fv))} (r : R X.K cl w st σ H) (h : dcRun vs fi g ft fk fv st = some (o, st'))
    (p : Post cl X W σ w H o st' (fun acc w' H' => ∀ (D : Addr) (accV : List (Key × V)), H' D = none → Paired (PvR X.K cl w') acc accV → Q (.ref D) (upd H' D (.dK accV)))) :
    tDc (WI X tg iter) (tDG cl X.K vs g) (tDT cl X.K ft) (tD cl X.K fk) (tD cl X.K fv) vs σ H Q := by
  unfold tDc
  rcases bnd_some h with ⟨c, fs, h1, rfl⟩ | ⟨its, st1, h1, h2⟩
  · exact hi W cw w st σ H _ _ st' r h1 p
  · refine hi W cw w st σ H _ _ st1 r h1 fun w1 H1 l1 r1 J hJ => ?_
    split at h2
    · rename_i no
      split at h2
      · rename_i ys s2 e2
        cases h2
        obtain ⟨_, z, e3⟩ := hush_some e2
        cases z
        intro D hD
        obtain ⟨gD, oD⟩ := r1.free hD
        refine ⟨fun i m H2 => m = its.items.length - i ∧ i ≤ its.items.length ∧ ∃ w2 st2 acc accV, Le w1 H1 w2 H2 ∧ R X.K cl w2 st2 (wipe σ vs) H2 ∧ w2.G D = none ∧ w2.ω D = none ∧ H2 D = some (.dK accV) ∧ Paired (PvR X.K cl w2) acc accV ∧ dcL vs g ft fk fv its.chk (its.items.drop i) acc st2 = some (.ok ys, s2),
          ⟨its.items.length, by simp, Nat.zero_le _, w1, _, [], [], (Le.refl w1 H1).swap hD (fun a ha => upd_ne ha), (r1.wiped vs).swap gD oD (fun a ha => upd_ne ha), gD, oD, upd_same, .nil, by simpa using e3⟩, ?_⟩
        rintro i m H2 ⟨rfl, hi2, w2, st2, acc, accV, l2, r2, g2, o2, hD2, q2, h3⟩
        cases e : its.items.drop i with
        | nil =>
          rw [e] at h3
          unfold dcL at h3
          split at h3
          · rename_i hck
            cases h3
            refine .inl ⟨(hJ i w2 _ _ H2 l2.as l2.g r2 hck).1 (by have := congrArg List.length e; rw [List.length_drop, List.length_nil] at this; omega), ?_⟩
            have r3 := R.unwipe r1 l2 no r2 (by rw [wipe_agree (vs := vs) (σ := σ) (σ2 := wipe σ vs) (wipe_length ..) (fun j hj => wipe_out hj)])
            let H3 : Hp := fun a => if a = D then none else H2 a
            have hh : ∀ a, a ≠ D → H3 a = H2 a := fun a ha => if_neg ha
            have hfin := p w2 H3 (l1.trans (l2.swap hD hh)) (r3.swap g2 o2 hh) D accV (if_pos rfl) q2
            have eH : upd H3 D (.dK accV) = H2 := by
              funext a
              by_cases ha : a = D
              · rw [ha, upd_same, hD2]
              · rw [upd_ne ha, hh a ha]
            rw [eH] at hfin
            exact hfin
          · cases h3
        | cons v rest =>
          obtain ⟨e1, e2'⟩ := drop_cons e
          rw [e] at h3
          unfold dcL at h3
          split at h3
          · rename_i hck
            obtain ⟨go, yl⟩ := (hJ i w2 st2 _ H2 l2.as l2.g r2 hck).2 v e1
            have hlt : i < its.items.length := lt_of_get e1
            refine .inr ⟨go, fun H6 => ∃ w6 st6 acc6 accV6, Le w1 H1 w6 H6 ∧ R X.K cl w6 st6 (wipe σ vs) H6 ∧ w6.G D = none ∧ w6.ω D = none ∧ H6 D = some (.dK accV6) ∧ Paired (PvR X.K cl w6) acc6 accV6 ∧ dcL vs g ft fk fv its.chk (its.items.drop (i + 1)) acc6 st6 = some (.ok ys, s2),
              fun H6 ⟨w6, st6, acc6, accV6, q⟩ => ⟨its.items.length - (i + 1), by omega, rfl, hlt, w6, st6, acc6, accV6, q⟩, fun x H3 y => ?_⟩
            obtain ⟨w3, l3, r3, hx⟩ := yl x H3 y
            rcases bnd_some h3 with ⟨c, fs, h4, z⟩ | ⟨_, st3, h4, h5⟩
            · cases z
            · refine ⟨w3, st2, st3, v, r3, hx, h4, fun w4 σ4 H4 l4 r4 hl4 ha4 => ⟨?_, ?_⟩⟩
              · rw [wipe_agree (vs := vs) hl4 ha4]
                exact wipe_agree (vs := vs) (wipe_length ..) (fun j hj => wipe_out hj)
              have ew : wipe σ4 vs = wipe σ vs := by
                rw [wipe_agree (vs := vs) hl4 ha4]
                exact wipe_agree (vs := vs) (wipe_length ..) (fun j hj => wipe_out hj)
              rcases bnd_some h5 with ⟨c, fs, h6, z⟩ | ⟨b, st4, h6, h7⟩
              · cases z
              · refine ⟨w4, st3, st4, b, r4, h6, fun w5 H5 l5 r5 => ?_⟩
                have l25 := l3.trans (l4.trans l5)
                have ne2 : H2 D ≠ none := by rw [hD2]; exact fun z => nomatch z
                cases b with
                | false =>
                  have h7 : dcL vs g ft fk fv its.chk rest acc { st4 with δ := wipeD st4.δ vs } = some (.ok ys, s2) := h7
                  refine iteF ?_
                  refine ⟨w5, _, acc, accV, l2.trans l25, ?_, (l25.gk D o2 ne2).trans g2, l25.own D o2 ne2, l25.kp D _ o2 hD2, q2.mono fun _ _ z => z.mono l25.as l25.g, by rw [e2']; exact h7⟩
                  have := r5.wiped vs
                  rw [ew] at this
                  exact this
                | true =>
                  refine iteT ?_
                  rcases bnd_some (show bnd fk _ st4 = some (.ok ys, s2) from h7) with ⟨c, fs, h8, z⟩ | ⟨yv, st5, h8, h9⟩
                  · cases z
                  · refine ⟨w5, st4, st5, yv, r5, h8, fun w6 H6 y6 l6 r6 hy6 => ?_⟩
                    rcases bnd_some h9 with ⟨c, fs, h10, z⟩ | ⟨xv, st6, h10, h11⟩
                    · cases z
                    · refine ⟨w6, st5, st6, xv, r6, h10, fun w7 H7 x7 l7 r7 hx7 => ?_⟩
                      rcases bnd_some h11 with ⟨c, fs, h12, z⟩ | ⟨f, st7, h12, h13⟩
                      · exact absurd h12 (asFv_quiet _ _ _ _ _)
                      · obtain ⟨f', w8, z, l8, r8, q8⟩ := asFv_at r7 hx7 h12
                        cases z
                        have l28 := l25.trans (l6.trans (l7.trans l8))
                        have g8 : w8.G D = none := (l28.gk D o2 ne2).trans g2
                        have o8 : w8.ω D = none := l28.own D o2 ne2
                        have hD8 : H7 D = some (.dK accV) := l28.kp D _ o2 hD2
                        have qq := q2.mono fun _ _ z => PvR.mono l28.as l28.g z
                        have h13 : (match dcPut acc yv f with | some acc' => dcL vs g ft fk fv its.chk rest acc' { st7 with δ := wipeD st7.δ vs } | none => none) = some (.ok ys, s2) := h13
                        split at h13
                        · rename_i acc' ep
                          unfold dcPut at ep
                          split at ep
                          · rename_i ty
                            split at ep
                            · rename_i kk ek
                              split at ep
                              · rename_i hok
                                cases ep
                                simp only [Bool.and_eq_true, decide_eq_true_eq, okKeys] at hok
                                have nd : (accV.map (·.1)).Nodup := by rw [← keys_pair qq]; exact hok.1
                                refine ⟨accV, kk, keyT_at ek hy6, hD8, by rw [← qq.length]; exact hok.2, w8, _, putA acc kk f, putA accV kk x7, (l2.trans l28).swap hD (fun a ha => upd_ne ha), ?_, g8, o8, by rw [putK_put nd]; exact upd_same, put_pair q8 qq, by rw [e2']; exact h13⟩
                                have := (r8.wiped vs).swap g8 o8 (H' := upd H7 D (.dK (L2.putK accV kk x7))) (fun a ha => upd_ne ha)
                                rw [ew] at this
                                exact this
                              · cases ep
                            · cases ep
                          · cases ep
                        · cases h13
          · cases h3
      · cases h2
    · cases h2
section
variable {kx vx tg iter : Expr} {ifs : List Expr} {scope : Scope} {own : List (Str × Nat)} {pos : Pos} {fi : M Its} {g : Val → M Unit} {ft : M Bool} {fk fv : M Val}
/-- as a cell -/
def dDcC (vs : List Nat) (fi : M Its) (g : Val → M Unit) (t : M Bool) (fk fv : M Val) : M Val := bnd (dcRun vs fi g t fk fv) fun acc => fun s => some (.ok (.loc s.μ.length), { s with μ := s.μ ++ [.dic false acc] })
theorem gDcC (hN : X.N.Nodup) (hc : X.calm = true) (ok : BlkOk X.N X.env.scope scope own)
    (hi : DI cl X tg iter fi) (hg : ∀ (s : Shared) (H : Hp) (C : Addr) (c : List (Str × Addr)) (fp : List Addr), DG cl (X.blk s H scope (compEnvC scope c C X.env) fp) tg (own.map (·.2)) g)
    (ht : ∀ (s : Shared) (H : Hp) (C : Addr) (c : List (Str × Addr)) (fp : List Addr), DTs cl (X.blk s H scope (compEnvC scope c C X.env) fp) ifs ft)
    (hk : ∀ (s : Shared) (H : Hp) (C : Addr) (c : List (Str × Addr)) (fp : List Addr), DE cl (X.blk s H scope (compEnvC scope c C X.env) fp) kx fk)
    (he : ∀ (s : Shared) (H : Hp) (C : Addr) (c : List (Str × Addr)) (fp : List Addr), DE cl (X.blk s H scope (compEnvC scope c C X.env) fp) vx fv) (hs : ∀ x, foldedSetIterable iter X.env x = pure x := by intro _; rfl) :
    DE cl X (.DictComp kx vx [⟨tg, iter, ifs, 0⟩] scope pos) (dDcC (own.map (·.2)) fi g ft fk fv) := fun W cw w st σ H Q o st' r h p => by
  refine PE.we (pe_dc (g := tDG cl X.K (own.map (·.2)) g) (tt := tDT cl X.K ft) (tk := tD cl X.K fk) (tv := tD cl X.K fv) hc hN piW ok (fun s H C c fp => pg_tDG cw_blk (hg s H C c fp)) (fun s H C c fp => pts_tDT cw_blk (ht s H C c fp)) (fun s H C c fp => pe_tD cw_blk (hk s H C c fp)) (fun s H C c fp => pe_tD cw_blk (he s H C c fp)) hs) ?_
  rcases bnd_some h with ⟨c, fs, h1, rfl⟩ | ⟨acc, st1, h1, h2⟩
  · exact dc_read hi cw r h1 p.exc
  · cases h2
    refine dc_read hi cw r h1 fun w1 H1 l1 r1 D accV hD q => ?_
    obtain ⟨w2, e2, _, l2, r2⟩ := r1.newC (c := .dic false acc) (ho := .dK accV) hD rfl fun w' H2 pa pg e => ⟨accV, e, q.mono fun _ _ z => z.mono pa pg⟩
    exact p w2 _ (l1.trans l2) r2 _ ⟨D, e2, rfl⟩
/-- as a new object of plain items -/
def dDcF (vs : List Nat) (fi : M Its) (g : Val → M Unit) (t : M Bool) (fk fv : M Val) : M Own := bnd (dcRun vs fi g t fk fv) fun acc => match plainD acc with
  | some l => ret (.dic false l)
  | none => stuck
theorem gDcF (hN : X.N.Nodup) (hc : X.calm = true) (ok : BlkOk X.N X.env.scope scope own)
    (hi : DI cl X tg iter fi) (hg : ∀ (s : Shared) (H : Hp) (C : Addr) (c : List (Str × Addr)) (fp : List Addr), DG cl (X.blk s H scope (compEnvC scope c C X.env) fp) tg (own.map (·.2)) g)
    (ht : ∀ (s : Shared) (H : Hp) (C : Addr) (c : List (Str × Addr)) (fp : List Addr), DTs cl (X.blk s H scope (compEnvC scope c C X.env) fp) ifs ft)
    (hk : ∀ (s : Shared) (H : Hp) (C : Addr) (c : List (Str × Addr)) (fp : List Addr), DE cl (X.blk s H scope (compEnvC scope c C X.env) fp) kx fk)
    (he : ∀ (s : Shared) (H : Hp) (C : Addr) (c : List (Str × Addr)) (fp : List Addr), DE cl (X.blk s H scope (compEnvC scope c C X.env) fp) vx fv) (hs : ∀ x, foldedSetIterable iter X.env x = pure x := by intro _; rfl) :
    DF cl X (.DictComp kx vx [⟨tg, iter, ifs, 0⟩] scope pos) (dDcF (own.map (·.2)) fi g ft fk fv) := fun W cw w st σ H Q o st' r h p => by
  refine PE.we (pe_dc (g := tDG cl X.K (own.map (·.2)) g) (tt := tDT cl X.K ft) (tk := tD cl X.K fk) (tv := tD cl X.K fv) hc hN piW ok (fun s H C c fp => pg_tDG cw_blk (hg s H C c fp)) (fun s H C c fp => pts_tDT cw_blk (ht s H C c fp)) (fun s H C c fp => pe_tD cw_blk (hk s H C c fp)) (fun s H C c fp => pe_tD cw_blk (he s H C c fp)) hs) ?_
  rcases bnd_some h with ⟨c, fs, h1, rfl⟩ | ⟨acc, st1, h1, h2⟩
  · exact dc_read hi cw r h1 p.exc
  · refine dc_read hi cw r h1 ?_
    cases el : plainD acc with
    | none => rw [el] at h2; cases h2
    | some l =>
      rw [el] at h2
      cases h2
      exact fun w1 H1 l1 r1 D accV hD q => p w1 H1 l1 r1 D (.dK accV) hD fun H2 e2 => ⟨accV, e2, plainD_at el q⟩
end
end
end Lf
namespace Lf
open PySem PySem.Spec L2
section
variable {cl : Cl} {X : Cx}
theorem gIxN {a b : Expr} {pos : Pos} {fa fb : M Val} {k : Nat} (hr : Room k X.A) (ha : DE cl X a fa) (hb : DE cl X b fb) (hW : cl.W = X.w := by rfl) (hs : PlainIx b := by intro _ _; rfl) : DE cl X (.Subscript a b pos) (dBin dIxN fa fb) := de_ixN hr hW hs ha hb
def dSetIxN (fo fi fe : M Val) : M Fl := bnd fe fun v => bnd fo fun a => bnd fi fun j => bnd (setIxN a j v) fun _ => ret .nx
theorem sIxN {o i e : Expr} {pos pos' : Pos} {fo fi fe : M Val} {k : Nat} (hr : Room k X.A) (ho : DE cl X o fo) (hi : DE cl X i fi) (he : DE cl X e fe) (hW : cl.W = X.w := by rfl) (hs : swapsWith e (some (.Subscript o i pos')) pos.line X.env = pure false := by rfl) :
    DS cl X (.Assign [.Subscript o i pos'] e pos) (dSetIxN fo fi fe) := ds_setixN hr hW hs ho hi he
end
end Lf
namespace Lf
open PySem PySem.Spec L2
/-! ### plain runs of the forms of LfN .. LfGG -/
@[simp] theorem Wp_listD_L (xs : List T) (s : DSt) (Q : Out Own → DSt → Prop) : Wp (dListD [.t (.lst xs)]) s Q = Q (.ok (.lst xs)) s := Wp_some (by simp [dListD, dcK, dList, seqOf, plains_t])
@[simp] theorem Wp_listD_T (xs : List T) (s : DSt) (Q : Out Own → DSt → Prop) : Wp (dListD [.t (.tup xs)]) s Q = Q (.ok (.lst xs)) s := Wp_some (by simp [dListD, dcK, dList, seqOf, plains_t])
theorem Wp_listD_D {v : Val} {s : DSt} {kvs : List (Key × Fv)} (h : dcK s v = some kvs) (Q : Out Own → DSt → Prop) : Wp (dListD [v]) s Q = Q (.ok (.lst (kvs.map fun p => keyTree p.1))) s := Wp_some (by simp [dListD, h])
@[simp] theorem Wp_dNew (f : M Own) (s : DSt) (Q : Out Val → DSt → Prop) : Wp (dNew f) s Q = Wp f s (Bk (fun o => bnd (newCell o) fun n => ret (.loc n)) Q) := Wp_bnd _ _ _ _
@[simp] theorem Wp_dMakeC (c : Str) (F : DFun) (fa : M (List Val)) (s : DSt) (Q : Out Val → DSt → Prop) : Wp (dMakeC c F fa) s Q = Wp fa s (Bk (fun vs => bnd (asFvs vs) fun fs => mkObjC c F fs) Q) := Wp_bnd _ _ _ _
theorem Wp_mkObjC {c : Str} {F : DFun} {fs : List Fv} {δ : List (Option Slot)} {μ : List Cell} {Q : Out Val → DSt → Prop} (h : Fw F (.loc μ.length :: fs) (μ ++ [.ins c []]) fun o m => (o = .ok (.val (.t .non)) ∧ Q (.ok (.loc μ.length)) ⟨δ, m⟩) ∨ ∃ d l, o = .exc d l ∧ Q (.exc d l) ⟨δ, m⟩) : Wp (mkObjC c F fs) ⟨δ, μ⟩ Q := by
  obtain ⟨o, m, e, h⟩ := h
  rcases h with ⟨rfl, q⟩ | ⟨d, l, rfl, q⟩
  · exact ⟨_, _, by simp only [mkObjC, e], q⟩
  · exact ⟨_, _, by simp only [mkObjC, e], q⟩
@[simp] theorem Wp_dTupF (f : M (List Val)) (s : DSt) (Q : Out Val → DSt → Prop) : Wp (dTupF f) s Q = Wp f s (Bk (fun vs => bnd (frzVs vs) fun ts => if ts.length ≤ sizeLine then ret (.t (.tup ts)) else stuck) Q) := Wp_bnd _ _ _ _
@[simp] theorem Wp_frzVs0 (s : DSt) (Q : Out (List T) → DSt → Prop) : Wp (frzVs []) s Q = Q (.ok []) s := Wp_ret _ _ _
@[simp] theorem Wp_frzVsC (v : Val) (vs : List Val) (s : DSt) (Q : Out (List T) → DSt → Prop) : Wp (frzVs (v :: vs)) s Q = Wp (frzV v) s (Bk (fun t => bnd (frzVs vs) fun ts => ret (t :: ts)) Q) := Wp_bnd _ _ _ _
@[simp] theorem Wp_frzVT (x : T) (s : DSt) (Q : Out T → DSt → Prop) : Wp (frzV (.t x)) s Q = Q (.ok x) s := Wp_ret _ _ _
theorem Wp_frzVO {i : Nat} {o : Own} {δ : List (Option Slot)} {μ : List Cell} (h : δ[i]? = some (some (.own o))) (Q : Out T → DSt → Prop) : Wp (frzV (.sl i)) ⟨δ, μ⟩ Q = Q (.ok o.tree) ⟨δ.set i (some (.t o.tree)), μ⟩ := Wp_some (by simp [frzV, frz, h])
@[simp] theorem Wp_dSetIxN (fo fi fe : M Val) (s : DSt) (Q : Out Fl → DSt → Prop) : Wp (dSetIxN fo fi fe) s Q = Wp fe s (Bk (fun v => bnd fo fun a => bnd fi fun j => bnd (setIxN a j v) fun _ => ret .nx) Q) := Wp_bnd _ _ _ _
theorem Wp_inN {neg : Bool} {x : T} {k : NKey} {v : Val} {s : DSt} {kvs : List (NKey × Int)} (h : dnnOf s v = some kvs) (hk : nkeyT x = some k) (Q : Out Val → DSt → Prop) : Wp (dInN neg (.t x) v) s Q = Q (.ok (.t (.bl (if neg then !(look kvs k).isSome else (look kvs k).isSome)))) s := Wp_some (by simp only [dInN, h, hk])
theorem Wp_ixN {x : T} {k : NKey} {i : Int} {v : Val} {s : DSt} {kvs : List (NKey × Int)} (h : dnnOf s v = some kvs) (hk : nkeyT x = some k) (hl : look kvs k = some i) (Q : Out Val → DSt → Prop) : Wp (dIxN v (.t x)) s Q = Q (.ok (.t (.int i))) s := Wp_some (by simp only [dIxN, h, hk, hl])
theorem Wp_lenN {v : Val} {s : DSt} {kvs : List (NKey × Int)} (h : dnnOf s v = some kvs) (Q : Out Val → DSt → Prop) : Wp (dLenN [v]) s Q = Q (.ok (.t (.int kvs.length))) s := Wp_some (by simp only [dLenN, h])
theorem Wp_setN {x : T} {k : NKey} {z : Int} {n : Nat} {δ : List (Option Slot)} {μ : List Cell} {kvs : List (NKey × Int)} (h : dnnOf ⟨δ, μ⟩ (.loc n) = some kvs) (hk : nkeyT x = some k) (hl : look kvs k = none) (hz : kvs.length < sizeLine) (Q : Out Unit → DSt → Prop) :
    Wp (setIxN (.loc n) (.t x) (.t (.int z))) ⟨δ, μ⟩ Q = Q (.ok ()) ⟨δ, μ.set n (.dnn (kvs ++ [(k, z)]))⟩ := Wp_some (by simp only [setIxN, h, hk, hl, decide_eq_true hz, Option.isNone_none, Bool.and_self, if_true])
theorem Wp_sortS {ys : List Str} (h : ys.length < 64) (s : DSt) (Q : Out Own → DSt → Prop) : Wp (dSorted [.t (.lst (ys.map T.str))]) s Q = Q (.ok (.lst ((srtS ys).map T.str))) s := Wp_some (by simp [dSorted, lstOf, strsT_str, h])
theorem intsT_int : ∀ ns : List Int, intsT (ns.map T.int) = some ns
  | [] => rfl
  | n :: r => by simp [intsT, intsT_int r]
theorem Wp_sortI {ns : List Int} (h : ns ≠ []) (s : DSt) (Q : Out Own → DSt → Prop) : Wp (dSorted [.t (.lst (ns.map T.int))]) s Q = Q (.ok (.lst ((srtI ns).map T.int))) s := Wp_some (by
  cases ns with
  | nil => exact absurd rfl h
  | cons n r =>
    have e := intsT_int (n :: r)
    simp only [dSorted, lstOf, e]
    simp [strsT])
@[simp] theorem Wp_iEnT (f : M (List Val)) (s : DSt) (Q : Out Its → DSt → Prop) : Wp (iEnT f) s Q = Wp f s (Bk (fun vs => match vs with | [v] => walkEnumT v | _ => stuck) Q) := Wp_bnd _ _ _ _
@[simp] theorem Wp_walkEnumT (xs : List T) (s : DSt) (Q : Out Its → DSt → Prop) : Wp (walkEnumT (.t (.tup xs))) s Q = Q (.ok ⟨enumV xs, fun _ => true⟩) s := Wp_some (by
  simp only [walkEnumT, lend, bnd, Lf.ret, seqOf, plains_t, still])
theorem Wp_appL {n : Nat} {xs : List Fv} {δ : List (Option Slot)} {μ : List Cell} (h : μ[n]? = some (.lst xs)) (hl : xs.length < sizeLine) (x : T) (Q : Out Val → DSt → Prop) : Wp (mAppend (.loc n) [.t x]) ⟨δ, μ⟩ Q = Q (.ok (.t .non)) ⟨δ, μ.set n (.lst (xs ++ [.t x]))⟩ := Wp_some (by
  simp [mAppend, asFv, bnd, Lf.ret, getL, setL, h, hl])
theorem Wp_methL {fa : M (List Val)} {g : Val → List Val → M Val} {n : Nat} {xs : List Fv} {δ : List (Option Slot)} {μ : List Cell} (h : μ[n]? = some (.lst xs)) (Q : Out Val → DSt → Prop) : Wp (methK fa g (.loc n)) ⟨δ, μ⟩ Q = Wp fa ⟨δ, μ⟩ (Bk (fun vs => g (.loc n) vs) Q) := Wp_methK (isLst_loc h) Q
theorem Wp_lenLoc {n : Nat} {xs : List Fv} {δ : List (Option Slot)} {μ : List Cell} (h : μ[n]? = some (.lst xs)) (Q : Out Val → DSt → Prop) : Wp (dLen [.loc n]) ⟨δ, μ⟩ Q = Q (.ok (.t (.int xs.length))) ⟨δ, μ⟩ := Wp_some (by simp [dLen, seqOf, h])
@[simp] theorem Wp_methT {fa : M (List Val)} {g : Val → List Val → M Val} (xs : List T) (s : DSt) (Q : Out Val → DSt → Prop) : Wp (methK fa g (.t (.lst xs))) s Q = Wp fa s (Bk (fun vs => g (.t (.lst xs)) vs) Q) := Wp_methK (by simp [isLst, seqOf]) Q
/-! dict comprehensions -/
def dcK2 (vs : List Nat) (g : Val → M Unit) (t : M Bool) (fk fv : M Val) (I : Its) : M (List (Key × Fv)) := fun s => if noOwn s.δ vs then
    match hush (dcL vs g t fk fv I.chk I.items []) { s with δ := wipeD s.δ vs } with
    | some (.ok ys, s2) => some (.ok ys, { s2 with δ := backD s.δ s2.δ vs })
    | _ => none
  else none
def newDic (acc : List (Key × Fv)) : M Val := fun s => some (.ok (.loc s.μ.length), { s with μ := s.μ ++ [.dic false acc] })
@[simp] theorem Wp_newDic (acc : List (Key × Fv)) (δ : List (Option Slot)) (μ : List Cell) (Q : Out Val → DSt → Prop) : Wp (newDic acc) ⟨δ, μ⟩ Q = Q (.ok (.loc μ.length)) ⟨δ, μ ++ [.dic false acc]⟩ := Wp_some rfl
def plnDic (acc : List (Key × Fv)) : M Own := match plainD acc with
  | some l => ret (.dic false l)
  | none => stuck
@[simp] theorem Wp_plnDic (l : List (Key × T)) (s : DSt) (Q : Out Own → DSt → Prop) : Wp (plnDic (l.map fun p => (p.1, Fv.t p.2))) s Q = Q (.ok (.dic false l)) s := by
  unfold plnDic
  rw [plainD_t]
  exact Wp_ret _ _ _
@[simp] theorem Wp_dDcC (vs : List Nat) (fi : M Its) (g : Val → M Unit) (t : M Bool) (fk fv : M Val) (s : DSt) (Q : Out Val → DSt → Prop) : Wp (dDcC vs fi g t fk fv) s Q = Wp fi s (Bk (dcK2 vs g t fk fv) (Bk newDic Q)) := (Wp_bnd (dcRun vs fi g t fk fv) newDic s Q).trans (Wp_bnd fi (dcK2 vs g t fk fv) s _)
@[simp] theorem Wp_dDcF (vs : List Nat) (fi : M Its) (g : Val → M Unit) (t : M Bool) (fk fv : M Val) (s : DSt) (Q : Out Own → DSt → Prop) : Wp (dDcF vs fi g t fk fv) s Q = Wp fi s (Bk (dcK2 vs g t fk fv) (Bk plnDic Q)) := (Wp_bnd (dcRun vs fi g t fk fv) plnDic s Q).trans (Wp_bnd fi (dcK2 vs g t fk fv) s _)
def DkV (acc : List (Key × Fv)) (y : Val) (Nx : List (Key × Fv) → DSt → Prop) : Out Fv → DSt → Prop
  | .ok f, s => ∃ acc', dcPut acc y f = some acc' ∧ Nx acc' s
  | .exc _ _, _ => False
@[simp] theorem DkV_ok (acc : List (Key × Fv)) (y : Val) (Nx : List (Key × Fv) → DSt → Prop) (f : Fv) (s : DSt) : DkV acc y Nx (.ok f) s = ∃ acc', dcPut acc y f = some acc' ∧ Nx acc' s := rfl
def DkY (acc : List (Key × Fv)) (fv : M Val) (Nx : List (Key × Fv) → DSt → Prop) : Out Val → DSt → Prop
  | .ok y, s => Wp fv s (Bk asFv (DkV acc y Nx))
  | .exc _ _, _ => False
@[simp] theorem DkY_ok (acc : List (Key × Fv)) (fv : M Val) (Nx : List (Key × Fv) → DSt → Prop) (y : Val) (s : DSt) : DkY acc fv Nx (.ok y) s = Wp fv s (Bk asFv (DkV acc y Nx)) := rfl
def Dk (acc : List (Key × Fv)) (fk fv : M Val) (Nx : List (Key × Fv) → DSt → Prop) : Out Bool → DSt → Prop
  | .ok b, s => if b = true then Wp fk s (DkY acc fv Nx) else Nx acc s
  | .exc _ _, _ => False
@[simp] theorem Dk_ok (acc : List (Key × Fv)) (fk fv : M Val) (Nx : List (Key × Fv) → DSt → Prop) (b : Bool) (s : DSt) : Dk acc fk fv Nx (.ok b) s = if b = true then Wp fk s (DkY acc fv Nx) else Nx acc s := rfl
theorem dcL_inv (Iv : List Val → List (Key × Fv) → DSt → Prop) {vs : List Nat} {g : Val → M Unit} {t : M Bool} {fk fv : M Val} {chk : DSt → Bool} (hc : ∀ r acc s, Iv r acc s → chk s = true)
    (h1 : ∀ v r acc s, Iv (v :: r) acc s → Wp (g v) s (Bk (fun _ => t) (Dk acc fk fv fun acc' s' => Iv r acc' { s' with δ := wipeD s'.δ vs }))) : ∀ items acc s, Iv items acc s → ∃ ys s2, dcL vs g t fk fv chk items acc s = some (.ok ys, s2) ∧ Iv [] ys s2
  | [], acc, s, h => ⟨acc, s, by simp [dcL, hc _ _ _ h], h⟩
  | v :: r, acc, s, h => by
    obtain ⟨o, s1, e1, q1⟩ := h1 v r acc s h
    cases o with
    | exc c fs => exact q1.elim
    | ok u =>
      obtain ⟨o, s2, e2, q2⟩ := (show Wp t s1 _ from q1)
      cases o with
      | exc c fs => exact q2.elim
      | ok b => cases b with
        | false =>
          obtain ⟨ys, s3, e3, q3⟩ := dcL_inv Iv hc h1 r acc _ q2
          refine ⟨ys, s3, ?_, q3⟩
          rw [dcL]
          dsimp only
          rw [if_pos (hc _ _ _ h)]
          simp only [bnd, e1, e2]
          exact e3
        | true =>
          rw [Dk_ok, if_pos rfl] at q2
          obtain ⟨o, s3, e3, q3⟩ := q2
          cases o with
          | exc c fs => exact q3.elim
          | ok y =>
            obtain ⟨o, s4, e4, q4⟩ := (show Wp fv s3 _ from q3)
            cases o with
            | exc c fs => exact q4.elim
            | ok x =>
              obtain ⟨o, s5, e5, q5⟩ := (show Wp (asFv x) s4 _ from q4)
              cases o with
              | exc c fs => exact q5.elim
              | ok f =>
                obtain ⟨acc', ea, q5⟩ := q5
                obtain ⟨ys, s6, e6, q6⟩ := dcL_inv Iv hc h1 r acc' _ q5
                refine ⟨ys, s6, ?_, q6⟩
                rw [dcL]
                dsimp only
                rw [if_pos (hc _ _ _ h)]
                simp only [bnd, e1, e2]
                show bnd fk _ s2 = _
                simp only [bnd, e3, e4, e5, ea]
                exact e6
theorem Wp_dcK (Iv : List Val → List (Key × Fv) → DSt → Prop) {vs : List Nat} {g : Val → M Unit} {t : M Bool} {fk fv : M Val} {I : Its} {s : DSt} {Q : Out (List (Key × Fv)) → DSt → Prop} (hn : noOwn s.δ vs = true) (hc : ∀ r acc s, Iv r acc s → I.chk s = true)
    (h0 : Iv I.items [] { s with δ := wipeD s.δ vs }) (h1 : ∀ v r acc s, Iv (v :: r) acc s → Wp (g v) s (Bk (fun _ => t) (Dk acc fk fv fun acc' s' => Iv r acc' { s' with δ := wipeD s'.δ vs })))
    (h2 : ∀ ys s2, Iv [] ys s2 → Q (.ok ys) { s2 with δ := backD s.δ s2.δ vs }) : Wp (dcK2 vs g t fk fv I) s Q := by
  obtain ⟨ys, s2, e1, q⟩ := dcL_inv Iv hc h1 I.items [] _ h0
  refine ⟨_, _, ?_, h2 ys s2 q⟩
  unfold dcK2 hush
  rw [if_pos hn, e1]
end Lf
namespace G06
open PySem PySem.Spec L2 Lf
def top (i : Nat) : Stmt := PySem.Challenge.pw_lotmarks_k06_whole_versions_alike.main.body.getD i (.Pass ⟨0, 0, 0, 0⟩)
abbrev st__law_pool : Stmt := top 22
abbrev st__law_cell : Stmt := top 21
abbrev st__law_take : Stmt := top 23
abbrev st__law_names : Stmt := top 25
abbrev st__law_mixed : Stmt := top 24
abbrev st__law_web : Stmt := top 26
abbrev st__law_program : Stmt := top 27
abbrev st_is_list : Stmt := top 8
abbrev st_is_name : Stmt := top 9
abbrev st_are_names : Stmt := top 10
abbrev st_Web_check : Stmt := inClass (top 19) 5
abbrev st_Web_init : Stmt := inClass (top 19) 0
abbrev st__law_number : Stmt := top 28
abbrev st__law_history : Stmt := top 29
abbrev st_Web_check_program : Stmt := inClass (top 19) 6
abbrev st_Kinds_kind_of : Stmt := inClass (top 2) 1
abbrev st_Web_sources : Stmt := inClass (top 19) 7
abbrev st_History_do : Stmt := inClass (top 3) 1
abbrev st_History_init : Stmt := inClass (top 3) 0
abbrev st_Kinds_init : Stmt := inClass (top 2) 0
abbrev st_kinds : Stmt := top 4
abbrev st_Program_init : Stmt := inClass (top 17) 0
abbrev st_law : Stmt := top 30
abbrev st_BadWeb_init : Stmt := inClass (top 13) 0
abbrev st_UnknownCell_init : Stmt := inClass (top 14) 0
abbrev st_BadProgram_init : Stmt := inClass (top 15) 0
def s__law_pool : M Fl :=
  (dSeq (dSet 1 (dBin dMul (cInt 2) (dVar 0)))
  (dSeq (dIf (dTC oLt (dVar 0) (cInt 0))
    (dSeq (dSet 1 (dBin oSub (dBin oSub (cInt 0) (dBin dMul (cInt 2) (dVar 0))) (cInt 1)))
    (ret .nx))
    (ret .nx))
  (dSeq (dIf (dTC oGe (dVar 1) (dBin oPow (cInt 10) (cInt 18)))
    (dSeq (dRetF (dLst (dCons (dVar 1) (dCons (dBin oMod (bnd (dCons (dVar 1) (ret [])) dInt1) (cInt 1000000007)) (dCons (cInt 0) (ret []))))))
    (ret .nx))
    (ret .nx))
  (dSeq (dRetF (dLst (dCons (cInt 0) (dCons (dBin oMod (bnd (dCons (dVar 1) (ret [])) dInt1) (cInt 1000000007)) (dCons (cInt 0) (ret []))))))
  (ret .nx)))))
def F__law_pool : DFun := runD 2 s__law_pool
def s__law_cell : M Fl :=
  (dSeq (dIf (dTC oLt (dVar 1) (bnd (dCons (dVar 0) (ret [])) dLen))
    (dSeq (dRet (dBin dIx (dVar 0) (dVar 1)))
    (ret .nx))
    (ret .nx))
  (dSeq (dRet (cInt 0))
  (ret .nx)))
def F__law_cell : DFun := runD 2 s__law_cell
def s__law_take : M Fl :=
  (dSeq (dIf (dTC oGt (dBin dIx (dVar 0) (cInt 0)) (cInt 0))
    (dSeq (dSet 3 (dBin oMod (bnd (dCons (dBin dIx (dVar 0) (cInt 0)) (ret [])) dInt1) (dVar 1)))
    (dSeq (dSetIx (dVar 0) (cInt 0) (dBin oDiv (dBin dIx (dVar 0) (cInt 0)) (dVar 1)))
    (dSeq (dRet (dVar 3))
    (ret .nx))))
    (ret .nx))
  (dSeq (dSetIx (dVar 0) (cInt 2) (dBin dAdd (dBin dIx (dVar 0) (cInt 2)) (cInt 1)))
  (dSeq (dSet 2 (dBin oMod (bnd (dCons (dBin oPow (dBin dAdd (dBin dAdd (dBin dIx (dVar 0) (cInt 1)) (dBin dMul (cInt 7919) (dBin dIx (dVar 0) (cInt 2)))) (cInt 104729)) (cInt 5)) (ret [])) dInt1) (cInt 2147483647)))
  (dSeq (dRet (dBin oMod (dBin oMod (bnd (dCons (dBin dMul (dBin dAdd (dVar 2) (dBin dIx (dVar 0) (cInt 2))) (cInt 40692)) (ret [])) dInt1) (cInt 2147483629)) (dVar 1)))
  (ret .nx)))))
def F__law_take : DFun := runD 4 s__law_take
def s__law_names : M Fl :=
  (dSeq (dOwn 2 (dLst (ret [])))
  (dSeq (dFor (iRange1 (dCons (dVar 1) (ret []))) (put 3)
    (dSeq (dSet 4 (dBin dIx (dKeep (dLst (dCons (cInt 1) (dCons (cInt 1) (dCons (cInt 2) (dCons (cInt 3) (dCons (cInt 8) (ret [])))))))) (dCallV F__law_take (dCons (dVar 0) (dCons (cInt 5) (ret []))))))
    (dSeq (dSet 5 (dJn (cStr "") (dKeep (dComp [7] (iRange1 (dCons (dVar 4) (ret []))) (put 7) (ret true) (dBin dIx (cStr "abcdefghijklmnopqrstuvwxy") (dCallV F__law_take (dCons (dVar 0) (dCons (cInt 25) (ret [])))))))))
    (dSeq (dSet 6 (dBin dAdd (dKeep (dLst (dCons (dVar 5) (ret [])))) (dKeep (dComp [8] (iSeq (cStr "abcdefghijklmnop")) (put 8) (ret true) (dBin dAdd (dBin dAdd (cStr "z") (dVar 8)) (cStr "q"))))))
    (dSeq (dExpr (dMeth (dVar 2) (dCons (dBin dIx (dKeep (dComp [9] (iSeq (dVar 6)) (put 9) (dTC (dInD true) (dVar 9) (dVar 2)) (dVar 9))) (cInt 0)) (ret [])) mAppend))
    (ret .nx))))))
  (dSeq (dRet (dVar 2))
  (ret .nx))))
def F__law_names : DFun := runD 10 s__law_names
def s__law_mixed : M Fl :=
  (dSeq (dSet 2 (dKeep (bnd (dCons (dVar 1) (ret [])) dListD)))
  (dSeq (dOwn 3 (dLst (ret [])))
  (dSeq (dFor (iRange1 (dCons (bnd (dCons (dVar 1) (ret [])) dLen) (ret []))) (put 4)
    (dSeq (dSet 5 (dCallV F__law_take (dCons (dVar 0) (dCons (bnd (dCons (dVar 2) (ret [])) dLen) (ret [])))))
    (dSeq (dExpr (dMeth (dVar 3) (dCons (dBin dIx (dVar 2) (dVar 5)) (ret [])) mAppend))
    (dSeq (dSet 2 (dBin dAdd (dKeep (dCut (dVar 2) (ret none) (pInt (dVar 5)))) (dKeep (dCut (dVar 2) (pInt (dBin dAdd (dVar 5) (cInt 1))) (ret none)))))
    (ret .nx)))))
  (dSeq (dRet (dVar 3))
  (ret .nx)))))
def F__law_mixed : DFun := runD 6 s__law_mixed
def s__law_web : M Fl :=
  (dSeq (dSet 3 (dCallV F__law_names (dCons (dVar 0) (dCons (dBin dAdd (cInt 1) (dCallV F__law_take (dCons (dVar 0) (dCons (dVar 1) (ret []))))) (ret [])))))
  (dSeq (dOwn 4 (dLst (ret [])))
  (dSeq (dFor (iSeq (dVar 3)) (put 5)
    (dSeq (dExpr (dMeth (dVar 4) (dCons (dTup (dCons (dVar 5) (dCons (dKeep (dCut (dCallV F__law_mixed (dCons (dVar 0) (dCons (dVar 3) (ret [])))) (ret none) (pInt (dCallV F__law_take (dCons (dVar 0) (dCons (dBin dAdd (bnd (dCons (dVar 2) (dCons (bnd (dCons (dVar 3) (ret [])) dLen) (ret []))) dMin) (cInt 1)) (ret []))))))) (ret [])))) (ret [])) mAppend))
    (ret .nx)))
  (dSeq (dRet (dVar 4))
  (ret .nx)))))
def F__law_web : DFun := runD 6 s__law_web
def s__law_program : M Fl :=
  (dSeq (dOwn 3 (dLst (ret [])))
  (dSeq (dFor (iRange1 (dCons (dCallV F__law_take (dCons (dVar 0) (dCons (dBin dAdd (dVar 2) (cInt 1)) (ret [])))) (ret []))) (put 4)
    (dSeq (dExpr (dMeth (dVar 3) (dCons (dKeep (dCut (dCallV F__law_mixed (dCons (dVar 0) (dCons (dVar 1) (ret [])))) (ret none) (pInt (dBin dAdd (cInt 1) (dCallV F__law_take (dCons (dVar 0) (dCons (bnd (dCons (cInt 3) (dCons (bnd (dCons (dVar 1) (ret [])) dLen) (ret []))) dMin) (ret [])))))))) (ret [])) mAppend))
    (ret .nx)))
  (dSeq (dRet (dVar 3))
  (ret .nx))))
def F__law_program : DFun := runD 5 s__law_program
def s_is_list : M Fl :=
  (dSeq (dRet (bnd (dVar 0) (dIsi ["list", "tuple"])))
  (ret .nx))
def F_is_list : DFun := runD 1 s_is_list
def s_is_name : M Fl :=
  (dSeq (dRet (vAnd (bnd (dVar 0) (dIsi ["str"])) (vAnd (dChain oLe oLe (cInt 1) (bnd (dCons (dVar 0) (ret [])) dLen) (cInt 8)) (bnd (dCons (dKeep (dComp [1] (iSeq (dVar 0)) (put 1) (ret true) (dBin (dInD false) (dVar 1) (cStr "abcdefghijklmnopqrstuvwxyz")))) (ret [])) dAll))))
  (ret .nx))
def F_is_name : DFun := runD 2 s_is_name
def s_are_names : M Fl :=
  (dSeq (dIf (dOr (dNot (dT (dCallV F_is_list (dCons (dVar 0) (ret []))))) (dNot (dT (bnd (dCons (dKeep (dComp [2] (iSeq (dVar 0)) (put 2) (ret true) (dCallV F_is_name (dCons (dVar 2) (ret []))))) (ret [])) dAll))))
    (dSeq (dRet (cBl false))
    (ret .nx))
    (ret .nx))
  (dSeq (dRet (bnd (dCons (dKeep (dComp [1, 2] (iEnum (dCons (dVar 0) (ret []))) (unpack [1, 2]) (ret true) (dBin (dInD true) (dVar 2) (dKeep (dCut (dVar 0) (ret none) (pInt (dVar 1))))))) (ret [])) dAll))
  (ret .nx)))
def F_are_names : DFun := runD 3 s_are_names
def s_Web_check : M Fl :=
  (dSeq (dFor (iSeq (dVar 1)) (put 2)
    (dSeq (dIf (dOr (dNot (dT (dCallV F_is_name (dCons (dVar 2) (ret []))))) (dTC (dInD true) (dVar 2) (dAt ["Web"] "held" (dVar 0))))
      (dSeq (dRaise "UnknownCell" "cell" (dVar 2))
      (ret .nx))
      (ret .nx))
    (ret .nx)))
  (ret .nx))
def F_Web_check : DFun := runD 3 s_Web_check
def s_Web_init : M Fl :=
  (dSeq (dIf (dOr (dNot (dT (dCallV F_is_list (dCons (dVar 1) (ret []))))) (dTC (dEq false) (bnd (dCons (dVar 1) (ret [])) dLen) (cInt 0)))
    (dSeq (dRaise "BadWeb" "index" (cInt 0))
    (ret .nx))
    (ret .nx))
  (dSeq (dFldC ["Web"] "held" (dVar 0) (ret (.dic false [])))
  (dSeq (dFor (iEnum (dCons (dVar 1) (ret []))) (unpack [2, 3])
    (dSeq (dIf (dOr (dNot (dT (dCallV F_is_list (dCons (dVar 3) (ret []))))) (dOr (dTC (dEq true) (bnd (dCons (dVar 3) (ret [])) dLen) (cInt 2)) (dOr (dNot (dT (dCallV F_is_name (dCons (dBin dIx (dVar 3) (cInt 0)) (ret []))))) (dOr (dTC (dInD false) (dBin dIx (dVar 3) (cInt 0)) (dAt ["Web"] "held" (dVar 0))) (dNot (dT (dCallV F_are_names (dCons (dBin dIx (dVar 3) (cInt 1)) (ret [])))))))))
      (dSeq (dRaise "BadWeb" "index" (dVar 2))
      (ret .nx))
      (ret .nx))
    (dSeq (dSetIx (dAt ["Web"] "held" (dVar 0)) (dBin dIx (dVar 3) (cInt 0)) (bnd (dCons (dBin dIx (dVar 3) (cInt 1)) (ret [])) dTupleD))
    (ret .nx))))
  (dSeq (dForK (dAt ["Web"] "held" (dVar 0)) (put 4)
    (dSeq (dExpr (dMethV "Web" "check" F_Web_check (dVar 0) (dCons (dBin dIx (dAt ["Web"] "held" (dVar 0)) (dVar 4)) (ret []))))
    (ret .nx)))
  (dSeq (dFld ["Web"] "cells" (dVar 0) (bnd (dCons (dAt ["Web"] "held" (dVar 0)) (ret [])) dTupleD))
  (dSeq (dFld ["Web"] "arrows" (dVar 0) (bnd (dCons (dKeep (dComp2 [4, 5] [5] (iSeq (dAt ["Web"] "cells" (dVar 0))) (put 4) (ret true) (iSeq (dBin dIx (dAt ["Web"] "held" (dVar 0)) (dVar 4))) (put 5) (ret true) (dTup (dCons (dVar 5) (dCons (dVar 4) (ret [])))))) (ret [])) dTupleD))
  (ret .nx)))))))
def F_Web_init : DFun := runD 6 s_Web_init
def s__law_number : M Fl :=
  (dSeq (dIf (dTC (dInN true) (dVar 1) (dVar 0))
    (dSeq (dSetIxN (dVar 0) (dVar 1) (bnd (dCons (dVar 0) (ret [])) dLenN))
    (ret .nx))
    (ret .nx))
  (dSeq (dRet (dBin dIxN (dVar 0) (dVar 1)))
  (ret .nx)))
def F__law_number : DFun := runD 2 s__law_number
def s__law_history : M Fl :=
  (dSeq (dCellS 3 (ret (.dic false [])))
  (dSeq (dFor (iSeq (dVar 0)) (unpack [4, 5])
    (dSeq (dSetIx (dVar 3) (dVar 4) (dNew (dLst (dCons (dCallV F__law_number (dCons (dVar 2) (dCons (dTup (dCons (dVar 4) (ret []))) (ret [])))) (ret [])))))
    (ret .nx)))
  (dSeq (dOwn 6 (dLst (ret [])))
  (dSeq (dFor (iRange1 (dCons (bnd (dCons (dVar 1) (ret [])) dLen) (ret []))) (put 7)
    (dSeq (dOwn 8 (dLst (ret [])))
    (dSeq (dFor (iSeq (dVar 0)) (unpack [4, 5])
      (dSeq (dIf (dTC (dInD false) (dVar 4) (dBin dIx (dVar 1) (dVar 7)))
        (dSeq (dExpr (dMeth (dVar 6) (dCons (dTup (dCons (dVar 7) (dCons (dVar 4) (dCons (bnd (dCons (dBin dIx (dVar 3) (dVar 4)) (ret [])) dLen) (dCons (bnd (dCons (dKeep (dComp [10] (iSeq (dVar 5)) (put 10) (ret true) (dBin oSub (bnd (dCons (dBin dIx (dVar 3) (dVar 10)) (ret [])) dLen) (cInt 1)))) (ret [])) dTupleD) (ret [])))))) (ret [])) mAppend))
        (dSeq (dSet 9 (dCallV F__law_number (dCons (dVar 2) (dCons (dTup (dCons (dVar 4) (dCons (bnd (dCons (dKeep (dComp [10] (iSeq (dVar 5)) (put 10) (ret true) (dBin dIx (dBin dIx (dVar 3) (dVar 10)) (bnd (cInt 1) dNeg)))) (ret [])) dTupleD) (ret [])))) (ret [])))))
        (dSeq (dExpr (dMeth (dVar 8) (dCons (dTup (dCons (dVar 4) (dCons (dVar 9) (ret [])))) (ret [])) mAppend))
        (ret .nx))))
        (ret .nx))
      (ret .nx)))
    (dSeq (dFor (iSeq (dVar 8)) (unpack [4, 9])
      (dSeq (dExpr (dMeth (dBin dIx (dVar 3) (dVar 4)) (dCons (dVar 9) (ret [])) mAppend))
      (ret .nx)))
    (ret .nx)))))
  (dSeq (dRet (dTupF (dCons (dVar 3) (dCons (dVar 6) (ret [])))))
  (ret .nx))))))
def F__law_history : DFun := runD 11 s__law_history
def s_Web_check_program : M Fl :=
  (dSeq (dFor (iSeq (dAt ["Program"] "lots" (dVar 1))) (put 2)
    (dSeq (dExpr (dMethV "Web" "check" F_Web_check (dVar 0) (dCons (dVar 2) (ret []))))
    (ret .nx)))
  (ret .nx))
def F_Web_check_program : DFun := runD 3 s_Web_check_program
def s_Kinds_kind_of : M Fl :=
  (dSeq (dIf (dTC (dInN true) (dVar 1) (dAt ["Kinds"] "numbers" (dVar 0)))
    (dSeq (dSetIxN (dAt ["Kinds"] "numbers" (dVar 0)) (dVar 1) (bnd (dCons (dAt ["Kinds"] "parts" (dVar 0)) (ret [])) dLen))
    (dSeq (dExpr (dMeth (dAt ["Kinds"] "parts" (dVar 0)) (dCons (dVar 1) (ret [])) mAppend))
    (ret .nx)))
    (ret .nx))
  (dSeq (dRet (dBin dIxN (dAt ["Kinds"] "numbers" (dVar 0)) (dVar 1)))
  (ret .nx)))
def F_Kinds_kind_of : DFun := runD 2 s_Kinds_kind_of
def s_Web_sources : M Fl :=
  (dSeq (dExpr (dMethV "Web" "check" F_Web_check (dVar 0) (dCons (dKeep (dLst (dCons (dVar 1) (ret [])))) (ret []))))
  (dSeq (dRet (dBin dIx (dAt ["Web"] "held" (dVar 0)) (dVar 1)))
  (ret .nx)))
def F_Web_sources : DFun := runD 2 s_Web_sources
def s_History_do : M Fl :=
  (dSeq (dOwn 3 (dLst (ret [])))
  (dSeq (dFor (iSeq (dKeep (dComp [4] (iSeq (dAt ["Web"] "cells" (dAt ["History"] "web" (dVar 0)))) (put 4) (dTC (dInD false) (dVar 4) (dVar 2)) (dVar 4)))) (put 4)
    (dSeq (dSet 6 (dMethV "Web" "sources" F_Web_sources (dAt ["History"] "web" (dVar 0)) (dCons (dVar 4) (ret []))))
    (dSeq (dExpr (dMeth (dAt ["History"] "steps" (dVar 0)) (dCons (dTup (dCons (dVar 1) (dCons (dVar 4) (dCons (bnd (dCons (dBin dIx (dAt ["History"] "rows" (dVar 0)) (dVar 4)) (ret [])) dLen) (dCons (bnd (dCons (dKeep (dComp [7] (iSeq (dVar 6)) (put 7) (ret true) (dBin oSub (bnd (dCons (dBin dIx (dAt ["History"] "rows" (dVar 0)) (dVar 7)) (ret [])) dLen) (cInt 1)))) (ret [])) dTupleD) (ret [])))))) (ret [])) mAppend))
    (dSeq (dExpr (dMeth (dVar 3) (dCons (dTup (dCons (dVar 4) (dCons (dMethV "Kinds" "kind_of" F_Kinds_kind_of (dAt ["History"] "kinds" (dVar 0)) (dCons (dTup (dCons (dVar 4) (dCons (bnd (dCons (dKeep (dComp [7] (iSeq (dVar 6)) (put 7) (ret true) (dBin dIx (dBin dIx (dAt ["History"] "rows" (dVar 0)) (dVar 7)) (bnd (cInt 1) dNeg)))) (ret [])) dTupleD) (ret [])))) (ret []))) (ret [])))) (ret [])) mAppend))
    (ret .nx)))))
  (dSeq (dFor (iSeq (dVar 3)) (unpack [4, 5])
    (dSeq (dExpr (dMeth (dBin dIx (dAt ["History"] "rows" (dVar 0)) (dVar 4)) (dCons (dVar 5) (ret [])) mAppend))
    (ret .nx)))
  (ret .nx))))
def F_History_do : DFun := runD 8 s_History_do
def s_History_init : M Fl :=
  (dSeq (dExpr (dMethV "Web" "check_program" F_Web_check_program (dVar 1) (dCons (dVar 2) (ret []))))
  (dSeq (dFld ["History"] "web" (dVar 0) (dVar 1))
  (dSeq (dFld ["History"] "kinds" (dVar 0) (dVar 3))
  (dSeq (dFld ["History"] "rows" (dVar 0) (dDcC [6] (iSeq (dAt ["Web"] "cells" (dVar 1))) (put 6) (ret true) (dVar 6) (dNew (dLst (dCons (dMethV "Kinds" "kind_of" F_Kinds_kind_of (dVar 3) (dCons (dTup (dCons (dVar 6) (ret []))) (ret []))) (ret []))))))
  (dSeq (dFldC ["History"] "steps" (dVar 0) (dLst (ret [])))
  (dSeq (dFor (iEnT (dCons (dAt ["Program"] "lots" (dVar 2)) (ret []))) (unpack [4, 5])
    (dSeq (dExpr (dMethV "History" "do" F_History_do (dVar 0) (dCons (dVar 4) (dCons (dVar 5) (ret [])))))
    (ret .nx)))
  (ret .nx)))))))
def F_History_init : DFun := runD 7 s_History_init
def s_Kinds_init : M Fl :=
  (dSeq (dFldC ["Kinds"] "numbers" (dVar 0) (ret (.dic false [])))
  (dSeq (dFldC ["Kinds"] "parts" (dVar 0) (dLst (ret [])))
  (ret .nx)))
def F_Kinds_init : DFun := runD 1 s_Kinds_init
def s_kinds : M Fl :=
  (dSeq (dSet 2 (dAt ["History"] "rows" (dMakeC "History" F_History_init (dCons (dVar 0) (dCons (dVar 1) (dCons (dMakeC "Kinds" F_Kinds_init (ret [])) (ret [])))))))
  (dSeq (dRetF (dDcF [3] (iSeq (dAt ["Web"] "cells" (dVar 0))) (put 3) (ret true) (dVar 3) (dKeep (dComp [4] (iSeq (dBin dIx (dVar 2) (dVar 3))) (put 4) (ret true) (dMeth (dBin dIx (dVar 2) (dVar 3)) (dCons (dVar 4) (ret [])) mIndex)))))
  (ret .nx)))
def F_kinds : DFun := runD 5 s_kinds
def s_Program_init : M Fl :=
  (dSeq (dIf (dNot (dT (dCallV F_is_list (dCons (dVar 1) (ret [])))))
    (dSeq (dRaise "BadProgram" "index" (cInt 0))
    (ret .nx))
    (ret .nx))
  (dSeq (dFor (iEnum (dCons (dVar 1) (ret []))) (unpack [2, 3])
    (dSeq (dIf (dOr (dNot (dT (dCallV F_are_names (dCons (dVar 3) (ret []))))) (dTC (dEq false) (bnd (dCons (dVar 3) (ret [])) dLen) (cInt 0)))
      (dSeq (dRaise "BadProgram" "index" (dVar 2))
      (ret .nx))
      (ret .nx))
    (ret .nx)))
  (dSeq (dFld ["Program"] "lots" (dVar 0) (bnd (dCons (dKeep (dComp [3] (iSeq (dVar 1)) (put 3) (ret true) (bnd (dCons (dKeep (bnd (dCons (dVar 3) (ret [])) dSorted)) (ret [])) dTupleD))) (ret [])) dTupleD))
  (ret .nx))))
def F_Program_init : DFun := runD 4 s_Program_init
def s_law : M Fl :=
  (dSeq (dFor (iRange1 (dCons (cInt 6) (ret []))) (put 1)
    (dSeq (dCellS 2 (dCallO F__law_pool (dCons (dBin dAdd (dCallV F__law_cell (dCons (dVar 0) (dCons (dVar 1) (ret [])))) (dVar 1)) (ret []))))
    (dSeq (dSet 3 (dCallV F__law_web (dCons (dVar 2) (dCons (cInt 5) (dCons (cInt 2) (ret []))))))
    (dSeq (dSet 4 (dKeep (dComp [9, 10] (iSeq (dVar 3)) (unpack [9, 10]) (ret true) (dVar 9))))
    (dSeq (dSet 5 (dCallV F__law_program (dCons (dVar 2) (dCons (dVar 4) (dCons (cInt 8) (ret []))))))
    (dSeq (dSet 6 (dMake "Web" F_Web_init (dCons (dVar 3) (ret []))))
    (dSeq (dSet 7 (dBin dIx (dCallV F__law_history (dCons (dVar 3) (dCons (dVar 5) (dCons (dNew (ret (.dic false []))) (ret []))))) (cInt 0)))
    (dSeq (dSet 8 (dCallV F_kinds (dCons (dVar 6) (dCons (dMake "Program" F_Program_init (dCons (dVar 5) (ret []))) (ret [])))))
    (dSeq (dIf (dOr (dNot (dT (bnd (dVar 8) (dIsi ["dict"])))) (dTC (dEq true) (dKeep (bnd (dCons (dVar 8) (ret [])) dListD)) (dVar 4)))
      (dSeq (dRet (cBl false))
      (ret .nx))
      (ret .nx))
    (dSeq (dFor (iSeq (dVar 4)) (put 9)
      (dSeq (dSet 11 (dKeep (dComp [13] (iSeq (dBin dIx (dVar 7) (dVar 9))) (put 13) (ret true) (dMeth (dBin dIx (dVar 7) (dVar 9)) (dCons (dVar 13) (ret [])) mIndex))))
      (dSeq (dIf (dOr (dTC (dEq true) (dBin dIx (dVar 8) (dVar 9)) (dVar 11)) (dTC (dEq true) (dBin dIx (dVar 8) (dVar 9)) (dKeep (bnd (dCons (dBin dIx (dVar 8) (dVar 9)) (ret [])) dSorted))))
        (dSeq (dRet (cBl false))
        (ret .nx))
        (ret .nx))
      (ret .nx))))
    (dSeq (dFor (iSeq (dVar 3)) (unpack [9, 10])
      (dSeq (dSet 12 (dBin dIx (dCallV F_kinds (dCons (dVar 6) (dCons (dMake "Program" F_Program_init (dCons (dBin dAdd (dVar 5) (dKeep (dLst (dCons (dKeep (dLst (dCons (dVar 9) (ret [])))) (dCons (dKeep (dLst (dCons (dVar 9) (ret [])))) (ret [])))))) (ret []))) (ret [])))) (dVar 9)))
      (dSeq (dIf (dAnd (dTC (dInD true) (dVar 9) (dVar 10)) (dTC (dEq true) (dBin dIx (dVar 12) (bnd (cInt 1) dNeg)) (dBin dIx (dVar 12) (bnd (cInt 2) dNeg))))
        (dSeq (dRet (cBl false))
        (ret .nx))
        (ret .nx))
      (dSeq (dIf (dAnd (dTC (dInD false) (dVar 9) (dVar 10)) (dTC (dEq true) (dBin dIx (dVar 12) (bnd (cInt 1) dNeg)) (dBin oSub (bnd (dCons (dVar 12) (ret [])) dLen) (cInt 1))))
        (dSeq (dRet (cBl false))
        (ret .nx))
        (ret .nx))
      (ret .nx)))))
    (ret .nx))))))))))))
  (dSeq (dRet (cBl true))
  (ret .nx)))
def F_law : DFun := runD 14 s_law
structure Tx (K : PySem.W.Frag) (mg : Str → Option Value) where
  a_Kinds : Addr
  m_Kinds : mg "Kinds" = some (.ref a_Kinds)
  c_Kinds : Cls K a_Kinds
  n_Kinds_numbers : NoAttr K a_Kinds "numbers"
  n_Kinds_parts : NoAttr K a_Kinds "parts"
  a_History : Addr
  m_History : mg "History" = some (.ref a_History)
  c_History : Cls K a_History
  n_History_web : NoAttr K a_History "web"
  n_History_kinds : NoAttr K a_History "kinds"
  n_History_rows : NoAttr K a_History "rows"
  n_History_steps : NoAttr K a_History "steps"
  a_Program : Addr
  m_Program : mg "Program" = some (.ref a_Program)
  c_Program : Cls K a_Program
  n_Program_lots : NoAttr K a_Program "lots"
  a_Web : Addr
  m_Web : mg "Web" = some (.ref a_Web)
  c_Web : Cls K a_Web
  n_Web_held : NoAttr K a_Web "held"
  n_Web_cells : NoAttr K a_Web "cells"
  n_Web_arrows : NoAttr K a_Web "arrows"
  a__law_pool : Addr
  d__law_pool : FuncData
  f__law_pool : Fun K "_law_pool" "_law_pool" st__law_pool a__law_pool d__law_pool
  b__law_pool : Binds K d__law_pool ["_law_cell_here"] []
  m__law_pool : mg "_law_pool" = some (.ref a__law_pool)
  a__law_cell : Addr
  d__law_cell : FuncData
  f__law_cell : Fun K "_law_cell" "_law_cell" st__law_cell a__law_cell d__law_cell
  b__law_cell : Binds K d__law_cell ["_law_script", "_law_k"] []
  m__law_cell : mg "_law_cell" = some (.ref a__law_cell)
  a__law_take : Addr
  d__law_take : FuncData
  f__law_take : Fun K "_law_take" "_law_take" st__law_take a__law_take d__law_take
  b__law_take : Binds K d__law_take ["_law_pool_here", "_law_many"] []
  m__law_take : mg "_law_take" = some (.ref a__law_take)
  a__law_names : Addr
  d__law_names : FuncData
  f__law_names : Fun K "_law_names" "_law_names" st__law_names a__law_names d__law_names
  b__law_names : Binds K d__law_names ["_law_pool_here", "_law_many"] []
  m__law_names : mg "_law_names" = some (.ref a__law_names)
  a__law_mixed : Addr
  d__law_mixed : FuncData
  f__law_mixed : Fun K "_law_mixed" "_law_mixed" st__law_mixed a__law_mixed d__law_mixed
  b__law_mixed : Binds K d__law_mixed ["_law_pool_here", "_law_things"] []
  m__law_mixed : mg "_law_mixed" = some (.ref a__law_mixed)
  a__law_web : Addr
  d__law_web : FuncData
  f__law_web : Fun K "_law_web" "_law_web" st__law_web a__law_web d__law_web
  b__law_web : Binds K d__law_web ["_law_pool_here", "_law_most", "_law_many"] []
  m__law_web : mg "_law_web" = some (.ref a__law_web)
  a__law_program : Addr
  d__law_program : FuncData
  f__law_program : Fun K "_law_program" "_law_program" st__law_program a__law_program d__law_program
  b__law_program : Binds K d__law_program ["_law_pool_here", "_law_names_here", "_law_most"] []
  m__law_program : mg "_law_program" = some (.ref a__law_program)
  a_is_list : Addr
  d_is_list : FuncData
  f_is_list : Fun K "is_list" "is_list" st_is_list a_is_list d_is_list
  b_is_list : Binds K d_is_list ["thing"] []
  m_is_list : mg "is_list" = some (.ref a_is_list)
  a_is_name : Addr
  d_is_name : FuncData
  f_is_name : Fun K "is_name" "is_name" st_is_name a_is_name d_is_name
  b_is_name : Binds K d_is_name ["thing"] []
  m_is_name : mg "is_name" = some (.ref a_is_name)
  a_are_names : Addr
  d_are_names : FuncData
  f_are_names : Fun K "are_names" "are_names" st_are_names a_are_names d_are_names
  b_are_names : Binds K d_are_names ["thing"] []
  m_are_names : mg "are_names" = some (.ref a_are_names)
  a_Web_check : Addr
  d_Web_check : FuncData
  f_Web_check : Fun K "check" "Web.check" st_Web_check a_Web_check d_Web_check
  b_Web_check : Binds K d_Web_check ["self", "cells"] []
  t_Web_check : Meth K a_Web "check" a_Web_check
  a_Web_init : Addr
  d_Web_init : FuncData
  f_Web_init : Fun K "__init__" "Web.__init__" st_Web_init a_Web_init d_Web_init
  b_Web_init : Binds K d_Web_init ["self", "rows"] []
  k_Web : Mk K a_Web a_Web_init
  a__law_number : Addr
  d__law_number : FuncData
  f__law_number : Fun K "_law_number" "_law_number" st__law_number a__law_number d__law_number
  b__law_number : Binds K d__law_number ["_law_table", "_law_key"] []
  m__law_number : mg "_law_number" = some (.ref a__law_number)
  a__law_history : Addr
  d__law_history : FuncData
  f__law_history : Fun K "_law_history" "_law_history" st__law_history a__law_history d__law_history
  b__law_history : Binds K d__law_history ["_law_rows", "_law_lots", "_law_table"] []
  m__law_history : mg "_law_history" = some (.ref a__law_history)
  a_Web_check_program : Addr
  d_Web_check_program : FuncData
  f_Web_check_program : Fun K "check_program" "Web.check_program" st_Web_check_program a_Web_check_program d_Web_check_program
  b_Web_check_program : Binds K d_Web_check_program ["self", "program"] []
  t_Web_check_program : Meth K a_Web "check_program" a_Web_check_program
  a_Kinds_kind_of : Addr
  d_Kinds_kind_of : FuncData
  f_Kinds_kind_of : Fun K "kind_of" "Kinds.kind_of" st_Kinds_kind_of a_Kinds_kind_of d_Kinds_kind_of
  b_Kinds_kind_of : Binds K d_Kinds_kind_of ["self", "key"] []
  t_Kinds_kind_of : Meth K a_Kinds "kind_of" a_Kinds_kind_of
  a_Web_sources : Addr
  d_Web_sources : FuncData
  f_Web_sources : Fun K "sources" "Web.sources" st_Web_sources a_Web_sources d_Web_sources
  b_Web_sources : Binds K d_Web_sources ["self", "cell"] []
  t_Web_sources : Meth K a_Web "sources" a_Web_sources
  a_History_do : Addr
  d_History_do : FuncData
  f_History_do : Fun K "do" "History.do" st_History_do a_History_do d_History_do
  b_History_do : Binds K d_History_do ["self", "at", "lot"] []
  t_History_do : Meth K a_History "do" a_History_do
  a_History_init : Addr
  d_History_init : FuncData
  f_History_init : Fun K "__init__" "History.__init__" st_History_init a_History_init d_History_init
  b_History_init : Binds K d_History_init ["self", "web", "program", "kinds"] []
  k_History : Mk K a_History a_History_init
  a_Kinds_init : Addr
  d_Kinds_init : FuncData
  f_Kinds_init : Fun K "__init__" "Kinds.__init__" st_Kinds_init a_Kinds_init d_Kinds_init
  b_Kinds_init : Binds K d_Kinds_init ["self"] []
  k_Kinds : Mk K a_Kinds a_Kinds_init
  a_kinds : Addr
  d_kinds : FuncData
  f_kinds : Fun K "kinds" "kinds" st_kinds a_kinds d_kinds
  b_kinds : Binds K d_kinds ["web", "program"] []
  m_kinds : mg "kinds" = some (.ref a_kinds)
  a_Program_init : Addr
  d_Program_init : FuncData
  f_Program_init : Fun K "__init__" "Program.__init__" st_Program_init a_Program_init d_Program_init
  b_Program_init : Binds K d_Program_init ["self", "lots"] []
  k_Program : Mk K a_Program a_Program_init
  a_law : Addr
  d_law : FuncData
  f_law : Fun K "law" "law" st_law a_law d_law
  b_law : Binds K d_law ["_law_script"] []
  m_law : mg "law" = some (.ref a_law)
  a_LotError : Addr
  m_LotError : mg "LotError" = some (.ref a_LotError)
  B_LotError : baseB K a_LotError = true
  a_BadWeb : Addr
  m_BadWeb : mg "BadWeb" = some (.ref a_BadWeb)
  o_BadWeb : OexC K a_BadWeb
  n_BadWeb : PySem.W.findIn K (.ref a_BadWeb) "index" = some none
  w_BadWeb : XfC K a_BadWeb
  a_BadWeb_init : Addr
  d_BadWeb_init : FuncData
  f_BadWeb_init : Fun K "__init__" "BadWeb.__init__" st_BadWeb_init a_BadWeb_init d_BadWeb_init
  b_BadWeb_init : Binds K d_BadWeb_init ["self", "index"] []
  i_BadWeb : PySem.W.findIn K (.ref a_BadWeb) "__init__" = some (some (.ref a_BadWeb_init))
  y_BadWeb : PySem.W.typeIn K (.ref a_BadWeb_init) = some (.type "function")
  a_UnknownCell : Addr
  m_UnknownCell : mg "UnknownCell" = some (.ref a_UnknownCell)
  o_UnknownCell : OexC K a_UnknownCell
  n_UnknownCell : PySem.W.findIn K (.ref a_UnknownCell) "cell" = some none
  w_UnknownCell : XfC K a_UnknownCell
  a_UnknownCell_init : Addr
  d_UnknownCell_init : FuncData
  f_UnknownCell_init : Fun K "__init__" "UnknownCell.__init__" st_UnknownCell_init a_UnknownCell_init d_UnknownCell_init
  b_UnknownCell_init : Binds K d_UnknownCell_init ["self", "cell"] []
  i_UnknownCell : PySem.W.findIn K (.ref a_UnknownCell) "__init__" = some (some (.ref a_UnknownCell_init))
  y_UnknownCell : PySem.W.typeIn K (.ref a_UnknownCell_init) = some (.type "function")
  a_BadProgram : Addr
  m_BadProgram : mg "BadProgram" = some (.ref a_BadProgram)
  o_BadProgram : OexC K a_BadProgram
  n_BadProgram : PySem.W.findIn K (.ref a_BadProgram) "index" = some none
  w_BadProgram : XfC K a_BadProgram
  a_BadProgram_init : Addr
  d_BadProgram_init : FuncData
  f_BadProgram_init : Fun K "__init__" "BadProgram.__init__" st_BadProgram_init a_BadProgram_init d_BadProgram_init
  b_BadProgram_init : Binds K d_BadProgram_init ["self", "index"] []
  i_BadProgram : PySem.W.findIn K (.ref a_BadProgram) "__init__" = some (some (.ref a_BadProgram_init))
  y_BadProgram : PySem.W.typeIn K (.ref a_BadProgram_init) = some (.type "function")
  z_all : mg "all" = none
  z_dict : mg "dict" = none
  z_enumerate : mg "enumerate" = none
  z_int : mg "int" = none
  z_isinstance : mg "isinstance" = none
  z_len : mg "len" = none
  z_list : mg "list" = none
  z_min : mg "min" = none
  z_range : mg "range" = none
  z_sorted : mg "sorted" = none
  z_str : mg "str" = none
  z_tuple : mg "tuple" = none
  g_LETTERS : ∃ tk, mg "LETTERS" = some (.str "abcdefghijklmnopqrstuvwxyz" tk)
  g_LONGEST : ∃ tk, mg "LONGEST" = some (.int 8 tk)
def Tx.cl {K : PySem.W.Frag} {mg : Str → Option Value} (T : Tx K mg) (w : World) : Cl := ⟨fun c => if c = "Kinds" then some T.a_Kinds else if c = "History" then some T.a_History else if c = "Program" then some T.a_Program else if c = "Web" then some T.a_Web else if c = "BadWeb" then some T.a_BadWeb else if c = "UnknownCell" then some T.a_UnknownCell else if c = "BadProgram" then some T.a_BadProgram else none, w⟩
section
variable {P : Program} {w : World} {K : PySem.W.Frag} {mg : Str → Option Value} {base : Heap}
theorem h_numbers (w : World) (T : Tx K mg) : HasA (T.cl w) K ["Kinds"] "numbers" := by
  intro c hc C h
  simp only [List.mem_cons, List.mem_nil_iff, or_false] at hc
  subst hc
  · obtain rfl : T.a_Kinds = C := Option.some.inj h
    exact ⟨T.c_Kinds, T.n_Kinds_numbers⟩
theorem h_parts (w : World) (T : Tx K mg) : HasA (T.cl w) K ["Kinds"] "parts" := by
  intro c hc C h
  simp only [List.mem_cons, List.mem_nil_iff, or_false] at hc
  subst hc
  · obtain rfl : T.a_Kinds = C := Option.some.inj h
    exact ⟨T.c_Kinds, T.n_Kinds_parts⟩
theorem h_web (w : World) (T : Tx K mg) : HasA (T.cl w) K ["History"] "web" := by
  intro c hc C h
  simp only [List.mem_cons, List.mem_nil_iff, or_false] at hc
  subst hc
  · obtain rfl : T.a_History = C := Option.some.inj h
    exact ⟨T.c_History, T.n_History_web⟩
theorem h_kinds (w : World) (T : Tx K mg) : HasA (T.cl w) K ["History"] "kinds" := by
  intro c hc C h
  simp only [List.mem_cons, List.mem_nil_iff, or_false] at hc
  subst hc
  · obtain rfl : T.a_History = C := Option.some.inj h
    exact ⟨T.c_History, T.n_History_kinds⟩
theorem h_rows (w : World) (T : Tx K mg) : HasA (T.cl w) K ["History"] "rows" := by
  intro c hc C h
  simp only [List.mem_cons, List.mem_nil_iff, or_false] at hc
  subst hc
  · obtain rfl : T.a_History = C := Option.some.inj h
    exact ⟨T.c_History, T.n_History_rows⟩
theorem h_steps (w : World) (T : Tx K mg) : HasA (T.cl w) K ["History"] "steps" := by
  intro c hc C h
  simp only [List.mem_cons, List.mem_nil_iff, or_false] at hc
  subst hc
  · obtain rfl : T.a_History = C := Option.some.inj h
    exact ⟨T.c_History, T.n_History_steps⟩
theorem h_lots (w : World) (T : Tx K mg) : HasA (T.cl w) K ["Program"] "lots" := by
  intro c hc C h
  simp only [List.mem_cons, List.mem_nil_iff, or_false] at hc
  subst hc
  · obtain rfl : T.a_Program = C := Option.some.inj h
    exact ⟨T.c_Program, T.n_Program_lots⟩
theorem h_held (w : World) (T : Tx K mg) : HasA (T.cl w) K ["Web"] "held" := by
  intro c hc C h
  simp only [List.mem_cons, List.mem_nil_iff, or_false] at hc
  subst hc
  · obtain rfl : T.a_Web = C := Option.some.inj h
    exact ⟨T.c_Web, T.n_Web_held⟩
theorem h_cells (w : World) (T : Tx K mg) : HasA (T.cl w) K ["Web"] "cells" := by
  intro c hc C h
  simp only [List.mem_cons, List.mem_nil_iff, or_false] at hc
  subst hc
  · obtain rfl : T.a_Web = C := Option.some.inj h
    exact ⟨T.c_Web, T.n_Web_cells⟩
theorem h_arrows (w : World) (T : Tx K mg) : HasA (T.cl w) K ["Web"] "arrows" := by
  intro c hc C h
  simp only [List.mem_cons, List.mem_nil_iff, or_false] at hc
  subst hc
  · obtain rfl : T.a_Web = C := Option.some.inj h
    exact ⟨T.c_Web, T.n_Web_arrows⟩
theorem sc_BadWeb_init : FnScope ["self", "index"] ["self", "index"] (defScope st_BadWeb_init) := ⟨rfl, rfl, rfl, by decide +kernel, rfl, by decide +kernel, by decide +kernel⟩
theorem ok_BadWeb_init (T : Tx K mg) : FnOk P w K mg base (L2.CX P w) 1 T.a_BadWeb_init T.d_BadWeb_init ["self", "index"] (spErr K "index") :=
  err_ok T.f_BadWeb_init sc_BadWeb_init rfl T.m_LotError T.B_LotError (by decide) (by decide) (by decide) (Or.inl rfl) (Or.inl rfl) (fun _ _ _ _ _ _ => ⟨rfl, ⟨_, rfl⟩, rfl, rfl, rfl, rfl⟩)
theorem sc_UnknownCell_init : FnScope ["self", "cell"] ["self", "cell"] (defScope st_UnknownCell_init) := ⟨rfl, rfl, rfl, by decide +kernel, rfl, by decide +kernel, by decide +kernel⟩
theorem ok_UnknownCell_init (T : Tx K mg) : FnOk P w K mg base (L2.CX P w) 1 T.a_UnknownCell_init T.d_UnknownCell_init ["self", "cell"] (spErr K "cell") :=
  err_ok T.f_UnknownCell_init sc_UnknownCell_init rfl T.m_LotError T.B_LotError (by decide) (by decide) (by decide) (Or.inl rfl) (Or.inl rfl) (fun _ _ _ _ _ _ => ⟨rfl, ⟨_, rfl⟩, rfl, rfl, rfl, rfl⟩)
theorem sc_BadProgram_init : FnScope ["self", "index"] ["self", "index"] (defScope st_BadProgram_init) := ⟨rfl, rfl, rfl, by decide +kernel, rfl, by decide +kernel, by decide +kernel⟩
theorem ok_BadProgram_init (T : Tx K mg) : FnOk P w K mg base (L2.CX P w) 1 T.a_BadProgram_init T.d_BadProgram_init ["self", "index"] (spErr K "index") :=
  err_ok T.f_BadProgram_init sc_BadProgram_init rfl T.m_LotError T.B_LotError (by decide) (by decide) (by decide) (Or.inl rfl) (Or.inl rfl) (fun _ _ _ _ _ _ => ⟨rfl, ⟨_, rfl⟩, rfl, rfl, rfl, rfl⟩)
theorem nd__law_pool : (["_law_cell_here", "_law_folded"] : List Str).Nodup := by decide +kernel
theorem sc__law_pool : FnScope ["_law_cell_here", "_law_folded"] ["_law_cell_here"] (defScope st__law_pool) := ⟨rfl, rfl, rfl, nd__law_pool, rfl, by decide +kernel, by decide +kernel⟩
theorem ok__law_pool (T : Tx K mg) : FnOk P w K mg base (L2.CX P w) 1 T.a__law_pool T.d__law_pool ["_law_cell_here"] (spD (T.cl w) K 1 F__law_pool) :=
  fn_ok (k := 0) T.f__law_pool sc__law_pool (fun cdv A outer s H E hr =>
  (dss_cons (sSet 1 nd__law_pool (de_op op2_mul de_int (gv 0)))
  (dss_cons (ds_if (tCmp op2_lt (gv 0) de_int)
    (dss_cons (sSet 1 nd__law_pool (de_op op2_sub (de_op op2_sub de_int (de_op op2_mul de_int (gv 0))) de_int))
    dss_nil)
    dss_nil)
  (dss_cons (ds_if (tCmp op2_ge (gv 1) (de_op op2_pow de_int de_int))
    (dss_cons (sRetF (gLst (gA (gv 1) (gA (de_op op2_mod (gTy dc_int T.z_int (by decide +kernel) (gA (gv 1) da_nil)) de_int) (gA de_int da_nil)))))
    dss_nil)
    dss_nil)
  (dss_cons (sRetF (gLst (gA de_int (gA (de_op op2_mod (gTy dc_int T.z_int (by decide +kernel) (gA (gv 1) da_nil)) de_int) (gA de_int da_nil)))))
  dss_nil)))))
theorem nd__law_cell : (["_law_script", "_law_k"] : List Str).Nodup := by decide +kernel
theorem sc__law_cell : FnScope ["_law_script", "_law_k"] ["_law_script", "_law_k"] (defScope st__law_cell) := ⟨rfl, rfl, rfl, nd__law_cell, rfl, by decide +kernel, by decide +kernel⟩
theorem ok__law_cell (T : Tx K mg) : FnOk P w K mg base (L2.CX P w) 1 T.a__law_cell T.d__law_cell ["_law_script", "_law_k"] (spD (T.cl w) K 2 F__law_cell) :=
  fn_ok (k := 0) T.f__law_cell sc__law_cell (fun cdv A outer s H E hr =>
  (dss_cons (ds_if (tCmp op2_lt (gv 1) (gB dc_len T.z_len (by decide +kernel) (gA (gv 0) da_nil)))
    (dss_cons (sRet (gIx hr (gv 0) (gv 1)))
    dss_nil)
    dss_nil)
  (dss_cons (sRet de_int)
  dss_nil)))
theorem nd__law_take : (["_law_pool_here", "_law_many", "_law_mixed_here", "_law_draw"] : List Str).Nodup := by decide +kernel
theorem sc__law_take : FnScope ["_law_pool_here", "_law_many", "_law_mixed_here", "_law_draw"] ["_law_pool_here", "_law_many"] (defScope st__law_take) := ⟨rfl, rfl, rfl, nd__law_take, rfl, by decide +kernel, by decide +kernel⟩
theorem ok__law_take (T : Tx K mg) : FnOk P w K mg base (L2.CX P w) 1 T.a__law_take T.d__law_take ["_law_pool_here", "_law_many"] (spD (T.cl w) K 2 F__law_take) :=
  fn_ok (k := 0) T.f__law_take sc__law_take (fun cdv A outer s H E hr =>
  (dss_cons (ds_if (tCmp op2_gt (gIx hr (gv 0) de_int) de_int)
    (dss_cons (sSet 3 nd__law_take (de_op op2_mod (gTy dc_int T.z_int (by decide +kernel) (gA (gIx hr (gv 0) de_int) da_nil)) (gv 1)))
    (dss_cons (sIx hr (gv 0) de_int (de_op op2_fdiv (gIx hr (gv 0) de_int) (gv 1)))
    (dss_cons (sRet (gv 3))
    dss_nil)))
    dss_nil)
  (dss_cons (sIx hr (gv 0) de_int (de_op op2_add (gIx hr (gv 0) de_int) de_int))
  (dss_cons (sSet 2 nd__law_take (de_op op2_mod (gTy dc_int T.z_int (by decide +kernel) (gA (de_op op2_pow (de_op op2_add (de_op op2_add (gIx hr (gv 0) de_int) (de_op op2_mul de_int (gIx hr (gv 0) de_int))) de_int) de_int) da_nil)) de_int))
  (dss_cons (sRet (de_op op2_mod (de_op op2_mod (gTy dc_int T.z_int (by decide +kernel) (gA (de_op op2_mul (de_op op2_add (gv 2) (gIx hr (gv 0) de_int)) de_int) da_nil)) de_int) (gv 1)))
  dss_nil)))))
theorem nd__law_names : (["_law_pool_here", "_law_many", "_law_found", "_law_k", "_law_size", "_law_name", "_law_spare", "_law_j", "_law_letter", "_law_each"] : List Str).Nodup := by decide +kernel
theorem sc__law_names : FnScope ["_law_pool_here", "_law_many", "_law_found", "_law_k", "_law_size", "_law_name", "_law_spare", "_law_j", "_law_letter", "_law_each"] ["_law_pool_here", "_law_many"] (defScope st__law_names) := ⟨rfl, rfl, rfl, nd__law_names, rfl, by decide +kernel, by decide +kernel⟩
theorem ok__law_names (T : Tx K mg) : FnOk P w K mg base (L2.CX P w) 2 T.a__law_names T.d__law_names ["_law_pool_here", "_law_many"] (spD (T.cl w) K 2 F__law_names) :=
  fn_ok (k := 1) T.f__law_names sc__law_names (fun cdv A outer s H E hr =>
  (dss_cons (sOwn 2 nd__law_names (gLst da_nil))
  (dss_cons (sFor rfl put_quiet (iR1 T.z_range (gA (gv 1) da_nil)) (gN 3 nd__law_names)
    (dss_cons (sSet 4 nd__law_names (gIx hr (gFr (gLst (gA de_int (gA de_int (gA de_int (gA de_int (gA de_int da_nil))))))) (gCall (ok__law_take T) (hr.mono (by decide)) T.m__law_take T.f__law_take.kp T.b__law_take (len_cons (len_cons len_nil)) (gA (gv 0) (gA de_int da_nil)))))
    (dss_cons (sSet 5 nd__law_names (gJn de_str (gFr (gComp nd__law_names (own := [("_law_j", 7)]) (blkOk_by rfl) (iR1 T.z_range (gA (gv 4) da_nil)) (fun _ _ _ _ _ => (gN 7 nd__law_names)) (fun _ _ _ _ _ => .nil) (fun _ _ _ _ _ => (gIx hr de_str (gCall (ok__law_take T) (hr.mono (by decide)) T.m__law_take T.f__law_take.kp T.b__law_take (len_cons (len_cons len_nil)) (gA (gv 0) (gA de_int da_nil)))))))))
    (dss_cons (sSet 6 nd__law_names (de_op op2_add (gFr (gLst (gA (gv 5) da_nil))) (gFr (gComp nd__law_names (own := [("_law_letter", 8)]) (blkOk_by rfl) (iS de_str) (fun _ _ _ _ _ => (gN 8 nd__law_names)) (fun _ _ _ _ _ => .nil) (fun _ _ _ _ _ => (de_op op2_add (de_op op2_add de_str (gv 8)) de_str))))))
    (dss_cons (sExpr (gLm PySem.slot_list_append (by kernel_rfl) dmt_append (gv 2) (gA (gIx hr (gFr (gComp nd__law_names (own := [("_law_each", 9)]) (blkOk_by rfl) (iS (gv 6)) (fun _ _ _ _ _ => (gN 9 nd__law_names)) (fun _ _ _ _ _ => (.one (tCmp (op3_notin hr) (gv 9) (gv 2)))) (fun _ _ _ _ _ => (gv 9)))) de_int) da_nil)))
    dss_nil)))))
  (dss_cons (sRet (gv 2))
  dss_nil))))
theorem nd__law_mixed : (["_law_pool_here", "_law_things", "_law_left", "_law_found", "_law_k", "_law_at"] : List Str).Nodup := by decide +kernel
theorem sc__law_mixed : FnScope ["_law_pool_here", "_law_things", "_law_left", "_law_found", "_law_k", "_law_at"] ["_law_pool_here", "_law_things"] (defScope st__law_mixed) := ⟨rfl, rfl, rfl, nd__law_mixed, rfl, by decide +kernel, by decide +kernel⟩
theorem ok__law_mixed (T : Tx K mg) : FnOk P w K mg base (L2.CX P w) 2 T.a__law_mixed T.d__law_mixed ["_law_pool_here", "_law_things"] (spD (T.cl w) K 2 F__law_mixed) :=
  fn_ok (k := 1) T.f__law_mixed sc__law_mixed (fun cdv A outer s H E hr =>
  (dss_cons (sSet 2 nd__law_mixed (gFr (gTyF (dcf_listD rfl) T.z_list (by decide +kernel) (gA (gv 1) da_nil))))
  (dss_cons (sOwn 3 nd__law_mixed (gLst da_nil))
  (dss_cons (sFor rfl put_quiet (iR1 T.z_range (gA (gB dc_len T.z_len (by decide +kernel) (gA (gv 1) da_nil)) da_nil)) (gN 4 nd__law_mixed)
    (dss_cons (sSet 5 nd__law_mixed (gCall (ok__law_take T) (hr.mono (by decide)) T.m__law_take T.f__law_take.kp T.b__law_take (len_cons (len_cons len_nil)) (gA (gv 0) (gA (gB dc_len T.z_len (by decide +kernel) (gA (gv 2) da_nil)) da_nil))))
    (dss_cons (sExpr (gLm PySem.slot_list_append (by kernel_rfl) dmt_append (gv 3) (gA (gIx hr (gv 2) (gv 5)) da_nil)))
    (dss_cons (sSet 2 nd__law_mixed (de_op op2_add (gFr (df_slice (gv 2) .dn (gPt (gv 5)))) (gFr (df_slice (gv 2) (gPt (de_op op2_add (gv 5) de_int)) .dn))))
    dss_nil))))
  (dss_cons (sRet (gv 3))
  dss_nil)))))
theorem nd__law_web : (["_law_pool_here", "_law_most", "_law_many", "_law_names_here", "_law_rows", "_law_name"] : List Str).Nodup := by decide +kernel
theorem sc__law_web : FnScope ["_law_pool_here", "_law_most", "_law_many", "_law_names_here", "_law_rows", "_law_name"] ["_law_pool_here", "_law_most", "_law_many"] (defScope st__law_web) := ⟨rfl, rfl, rfl, nd__law_web, rfl, by decide +kernel, by decide +kernel⟩
theorem ok__law_web (T : Tx K mg) : FnOk P w K mg base (L2.CX P w) 3 T.a__law_web T.d__law_web ["_law_pool_here", "_law_most", "_law_many"] (spD (T.cl w) K 3 F__law_web) :=
  fn_ok (k := 2) T.f__law_web sc__law_web (fun cdv A outer s H E hr =>
  (dss_cons (sSet 3 nd__law_web (gCall (ok__law_names T) (hr.mono (by decide)) T.m__law_names T.f__law_names.kp T.b__law_names (len_cons (len_cons len_nil)) (gA (gv 0) (gA (de_op op2_add de_int (gCall (ok__law_take T) (hr.mono (by decide)) T.m__law_take T.f__law_take.kp T.b__law_take (len_cons (len_cons len_nil)) (gA (gv 0) (gA (gv 1) da_nil)))) da_nil))))
  (dss_cons (sOwn 4 nd__law_web (gLst da_nil))
  (dss_cons (sFor rfl put_quiet (iS (gv 3)) (gN 5 nd__law_web)
    (dss_cons (sExpr (gLm PySem.slot_list_append (by kernel_rfl) dmt_append (gv 4) (gA (gTup (gA (gv 5) (gA (gFr (df_slice (gCall (ok__law_mixed T) (hr.mono (by decide)) T.m__law_mixed T.f__law_mixed.kp T.b__law_mixed (len_cons (len_cons len_nil)) (gA (gv 0) (gA (gv 3) da_nil))) .dn (gPt (gCall (ok__law_take T) (hr.mono (by decide)) T.m__law_take T.f__law_take.kp T.b__law_take (len_cons (len_cons len_nil)) (gA (gv 0) (gA (de_op op2_add (gB (dc_min rfl) T.z_min (by decide +kernel) (gA (gv 2) (gA (gB dc_len T.z_len (by decide +kernel) (gA (gv 3) da_nil)) da_nil))) de_int) da_nil)))))) da_nil))) da_nil)))
    dss_nil))
  (dss_cons (sRet (gv 4))
  dss_nil)))))
theorem nd__law_program : (["_law_pool_here", "_law_names_here", "_law_most", "_law_lots", "_law_k"] : List Str).Nodup := by decide +kernel
theorem sc__law_program : FnScope ["_law_pool_here", "_law_names_here", "_law_most", "_law_lots", "_law_k"] ["_law_pool_here", "_law_names_here", "_law_most"] (defScope st__law_program) := ⟨rfl, rfl, rfl, nd__law_program, rfl, by decide +kernel, by decide +kernel⟩
theorem ok__law_program (T : Tx K mg) : FnOk P w K mg base (L2.CX P w) 3 T.a__law_program T.d__law_program ["_law_pool_here", "_law_names_here", "_law_most"] (spD (T.cl w) K 3 F__law_program) :=
  fn_ok (k := 2) T.f__law_program sc__law_program (fun cdv A outer s H E hr =>
  (dss_cons (sOwn 3 nd__law_program (gLst da_nil))
  (dss_cons (sFor rfl put_quiet (iR1 T.z_range (gA (gCall (ok__law_take T) (hr.mono (by decide)) T.m__law_take T.f__law_take.kp T.b__law_take (len_cons (len_cons len_nil)) (gA (gv 0) (gA (de_op op2_add (gv 2) de_int) da_nil))) da_nil)) (gN 4 nd__law_program)
    (dss_cons (sExpr (gLm PySem.slot_list_append (by kernel_rfl) dmt_append (gv 3) (gA (gFr (df_slice (gCall (ok__law_mixed T) (hr.mono (by decide)) T.m__law_mixed T.f__law_mixed.kp T.b__law_mixed (len_cons (len_cons len_nil)) (gA (gv 0) (gA (gv 1) da_nil))) .dn (gPt (de_op op2_add de_int (gCall (ok__law_take T) (hr.mono (by decide)) T.m__law_take T.f__law_take.kp T.b__law_take (len_cons (len_cons len_nil)) (gA (gv 0) (gA (gB (dc_min rfl) T.z_min (by decide +kernel) (gA de_int (gA (gB dc_len T.z_len (by decide +kernel) (gA (gv 1) da_nil)) da_nil))) da_nil))))))) da_nil)))
    dss_nil))
  (dss_cons (sRet (gv 3))
  dss_nil))))
theorem nd_is_list : (["thing"] : List Str).Nodup := by decide +kernel
theorem sc_is_list : FnScope ["thing"] ["thing"] (defScope st_is_list) := ⟨rfl, rfl, rfl, nd_is_list, rfl, by decide +kernel, by decide +kernel⟩
theorem ok_is_list (T : Tx K mg) : FnOk P w K mg base (L2.CX P w) 1 T.a_is_list T.d_is_list ["thing"] (spD (T.cl w) K 1 F_is_list) :=
  fn_ok (k := 0) T.f_is_list sc_is_list (fun cdv A outer s H E hr =>
  (dss_cons (sRet (gIsi2 T.z_isinstance T.z_list T.z_tuple (kit_ok (by decide +kernel)) (kit_ok (by decide +kernel)) (by decide +kernel) (by decide +kernel) (gv 0)))
  dss_nil))
theorem nd_is_name : (["thing", "sign"] : List Str).Nodup := by decide +kernel
theorem sc_is_name : FnScope ["thing", "sign"] ["thing"] (defScope st_is_name) := ⟨rfl, rfl, rfl, nd_is_name, rfl, by decide +kernel, by decide +kernel⟩
theorem ok_is_name (T : Tx K mg) : FnOk P w K mg base (L2.CX P w) 1 T.a_is_name T.d_is_name ["thing"] (spD (T.cl w) K 1 F_is_name) :=
  fn_ok (k := 0) T.f_is_name sc_is_name (fun cdv A outer s H E hr =>
  (dss_cons (sRet (de_and (gIsi1 T.z_isinstance T.z_str (kit_ok (by decide +kernel)) (by decide +kernel) (gv 0)) (de_and (gChain op2_le op2_le de_int (gB dc_len T.z_len (by decide +kernel) (gA (gv 0) da_nil)) (gGI T.g_LONGEST)) (de_one (gB (dc_all rfl) T.z_all (by decide +kernel) (gA (gFr (gComp nd_is_name (own := [("sign", 1)]) (blkOk_by rfl) (iS (gv 0)) (fun _ _ _ _ _ => (gN 1 nd_is_name)) (fun _ _ _ _ _ => .nil) (fun _ _ _ _ _ => (gCmp (op3_in hr) (gv 1) (gGS T.g_LETTERS))))) da_nil))))))
  dss_nil))
theorem nd_are_names : (["thing", "at", "name"] : List Str).Nodup := by decide +kernel
theorem sc_are_names : FnScope ["thing", "at", "name"] ["thing"] (defScope st_are_names) := ⟨rfl, rfl, rfl, nd_are_names, rfl, by decide +kernel, by decide +kernel⟩
theorem ok_are_names (T : Tx K mg) : FnOk P w K mg base (L2.CX P w) 2 T.a_are_names T.d_are_names ["thing"] (spD (T.cl w) K 1 F_are_names) :=
  fn_ok (k := 1) T.f_are_names sc_are_names (fun cdv A outer s H E hr =>
  (dss_cons (ds_if (dt_w (dw_or (dt_not (tV (gCall (ok_is_list T) (hr.mono (by decide)) T.m_is_list T.f_is_list.kp T.b_is_list (len_cons len_nil) (gA (gv 0) da_nil)))) (dw_or1 (dt_not (tV (gB (dc_all rfl) T.z_all (by decide +kernel) (gA (gFr (gComp nd_are_names (own := [("name", 2)]) (blkOk_by rfl) (iS (gv 0)) (fun _ _ _ _ _ => (gN 2 nd_are_names)) (fun _ _ _ _ _ => .nil) (fun _ _ _ _ _ => (gCall (ok_is_name T) (hr.mono (by decide)) T.m_is_name T.f_is_name.kp T.b_is_name (len_cons len_nil) (gA (gv 2) da_nil))))) da_nil)))))))
    (dss_cons (sRet de_bl)
    dss_nil)
    dss_nil)
  (dss_cons (sRet (gB (dc_all rfl) T.z_all (by decide +kernel) (gA (gFr (gComp nd_are_names (own := [("at", 1), ("name", 2)]) (blkOk_by rfl) (iE T.z_enumerate (gA (gv 0) da_nil)) (fun _ _ _ _ _ => (dg_tup rfl nd_are_names (nmC 1 (nmC 2 .nil)))) (fun _ _ _ _ _ => .nil) (fun _ _ _ _ _ => (gCmp (op3_notin hr) (gv 2) (gFr (df_slice (gv 0) .dn (gPt (gv 1)))))))) da_nil)))
  dss_nil)))
theorem nd_Web_check : (["self", "cells", "cell"] : List Str).Nodup := by decide +kernel
theorem sc_Web_check : FnScope ["self", "cells", "cell"] ["self", "cells"] (defScope st_Web_check) := ⟨rfl, rfl, rfl, nd_Web_check, rfl, by decide +kernel, by decide +kernel⟩
theorem ok_Web_check (T : Tx K mg) : FnOk P w K mg base (L2.CX P w) 3 T.a_Web_check T.d_Web_check ["self", "cells"] (spD (T.cl w) K 2 F_Web_check) :=
  fn_ok (k := 2) T.f_Web_check sc_Web_check (fun cdv A outer s H E hr =>
  (dss_cons (sFor rfl put_quiet (iS (gv 1)) (gN 2 nd_Web_check)
    (dss_cons (ds_if (dt_w (dw_or (dt_not (tV (gCall (ok_is_name T) (hr.mono (by decide)) T.m_is_name T.f_is_name.kp T.b_is_name (len_cons len_nil) (gA (gv 2) da_nil)))) (dw_or1 (tCmp (op3_notin hr) (gv 2) (gAt (h_held _ T) (gv 0))))))
      (dss_cons (sRaise rfl rfl T.o_UnknownCell T.n_UnknownCell T.i_UnknownCell T.y_UnknownCell (ok_UnknownCell_init T) (hr.mono (by decide)) T.b_UnknownCell_init T.m_UnknownCell (gv 2))
      dss_nil)
      dss_nil)
    dss_nil))
  dss_nil))
theorem nd_Web_init : (["self", "rows", "at", "row", "cell", "source"] : List Str).Nodup := by decide +kernel
theorem sc_Web_init : FnScope ["self", "rows", "at", "row", "cell", "source"] ["self", "rows"] (defScope st_Web_init) := ⟨rfl, rfl, rfl, nd_Web_init, rfl, by decide +kernel, by decide +kernel⟩
theorem ok_Web_init (T : Tx K mg) : FnOk P w K mg base (L2.CX P w) 4 T.a_Web_init T.d_Web_init ["self", "rows"] (spD (T.cl w) K 2 F_Web_init) :=
  fn_ok (k := 3) T.f_Web_init sc_Web_init (fun cdv A outer s H E hr =>
  (dss_cons (ds_if (dt_w (dw_or (dt_not (tV (gCall (ok_is_list T) (hr.mono (by decide)) T.m_is_list T.f_is_list.kp T.b_is_list (len_cons len_nil) (gA (gv 1) da_nil)))) (dw_or1 (tCmp (op2_eq hr) (gB dc_len T.z_len (by decide +kernel) (gA (gv 1) da_nil)) de_int))))
    (dss_cons (sRaise rfl rfl T.o_BadWeb T.n_BadWeb T.i_BadWeb T.y_BadWeb (ok_BadWeb_init T) (hr.mono (by decide)) T.b_BadWeb_init T.m_BadWeb de_int)
    dss_nil)
    dss_nil)
  (dss_cons (sFldC (h_held _ T) (gv 0) df_dict)
  (dss_cons (sFor rfl unpack_quiet (iE T.z_enumerate (gA (gv 1) da_nil)) (dg_tup rfl nd_Web_init (nmC 2 (nmC 3 .nil)))
    (dss_cons (ds_if (dt_w (dw_or (dt_not (tV (gCall (ok_is_list T) (hr.mono (by decide)) T.m_is_list T.f_is_list.kp T.b_is_list (len_cons len_nil) (gA (gv 3) da_nil)))) (dw_or (tCmp (op2_ne hr) (gB dc_len T.z_len (by decide +kernel) (gA (gv 3) da_nil)) de_int) (dw_or (dt_not (tV (gCall (ok_is_name T) (hr.mono (by decide)) T.m_is_name T.f_is_name.kp T.b_is_name (len_cons len_nil) (gA (gIx hr (gv 3) de_int) da_nil)))) (dw_or (tCmp (op3_in hr) (gIx hr (gv 3) de_int) (gAt (h_held _ T) (gv 0))) (dw_or1 (dt_not (tV (gCall (ok_are_names T) (hr.mono (by decide)) T.m_are_names T.f_are_names.kp T.b_are_names (len_cons len_nil) (gA (gIx hr (gv 3) de_int) da_nil))))))))))
      (dss_cons (sRaise rfl rfl T.o_BadWeb T.n_BadWeb T.i_BadWeb T.y_BadWeb (ok_BadWeb_init T) (hr.mono (by decide)) T.b_BadWeb_init T.m_BadWeb (gv 2))
      dss_nil)
      dss_nil)
    (dss_cons (sIx hr (gAt (h_held _ T) (gv 0)) (gIx hr (gv 3) de_int) (gTy (dc_tupleD rfl) T.z_tuple (by decide +kernel) (gA (gIx hr (gv 3) de_int) da_nil)))
    dss_nil)))
  (dss_cons (sForK rfl put_quiet (gAt (h_held _ T) (gv 0)) (gN 4 nd_Web_init)
    (dss_cons (sExpr (gMeth rfl T.c_Web T.t_Web_check (ok_Web_check T) (hr.mono (by decide)) T.b_Web_check rfl (len_cons len_nil) (gv 0) (gA (gIx hr (gAt (h_held _ T) (gv 0)) (gv 4)) da_nil)))
    dss_nil))
  (dss_cons (sFld (h_cells _ T) (gv 0) (gTy (dc_tupleD rfl) T.z_tuple (by decide +kernel) (gA (gAt (h_held _ T) (gv 0)) da_nil)))
  (dss_cons (sFld (h_arrows _ T) (gv 0) (gTy (dc_tupleD rfl) T.z_tuple (by decide +kernel) (gA (gFr (gComp2 nd_Web_init (own := [("cell", 4), ("source", 5)]) (vs1 := [5]) (blkOk_by rfl) (iS (gAt (h_cells _ T) (gv 0))) (fun _ _ _ _ _ => DG.mono (by decide) (gN 4 nd_Web_init)) (fun _ _ _ _ _ => .nil) (fun _ _ _ _ _ => (iS (gIx hr (gAt (h_held _ T) (gv 0)) (gv 4)))) (fun _ _ _ _ _ => (gN 5 nd_Web_init)) (fun _ _ _ _ _ => .nil) (fun _ _ _ _ _ => (gTup (gA (gv 5) (gA (gv 4) da_nil)))))) da_nil)))
  dss_nil)))))))
theorem nd__law_number : (["_law_table", "_law_key"] : List Str).Nodup := by decide +kernel
theorem sc__law_number : FnScope ["_law_table", "_law_key"] ["_law_table", "_law_key"] (defScope st__law_number) := ⟨rfl, rfl, rfl, nd__law_number, rfl, by decide +kernel, by decide +kernel⟩
theorem ok__law_number (T : Tx K mg) : FnOk P w K mg base (L2.CX P w) 1 T.a__law_number T.d__law_number ["_law_table", "_law_key"] (spD (T.cl w) K 2 F__law_number) :=
  fn_ok (k := 0) T.f__law_number sc__law_number (fun cdv A outer s H E hr =>
  (dss_cons (ds_if (tCmp (op4_notin hr rfl) (gv 1) (gv 0))
    (dss_cons (sIxN hr (gv 0) (gv 1) (gB (dc_lenN rfl) T.z_len (by decide +kernel) (gA (gv 0) da_nil)))
    dss_nil)
    dss_nil)
  (dss_cons (sRet (gIxN hr (gv 0) (gv 1)))
  dss_nil)))
theorem nd__law_history : (["_law_rows", "_law_lots", "_law_table", "_law_found", "_law_cell_here", "_law_sources", "_law_steps", "_law_at", "_law_fresh", "_law_kind", "_law_each"] : List Str).Nodup := by decide +kernel
theorem sc__law_history : FnScope ["_law_rows", "_law_lots", "_law_table", "_law_found", "_law_cell_here", "_law_sources", "_law_steps", "_law_at", "_law_fresh", "_law_kind", "_law_each"] ["_law_rows", "_law_lots", "_law_table"] (defScope st__law_history) := ⟨rfl, rfl, rfl, nd__law_history, rfl, by decide +kernel, by decide +kernel⟩
theorem ok__law_history (T : Tx K mg) : FnOk P w K mg base (L2.CX P w) 2 T.a__law_history T.d__law_history ["_law_rows", "_law_lots", "_law_table"] (spD (T.cl w) K 3 F__law_history) :=
  fn_ok (k := 1) T.f__law_history sc__law_history (fun cdv A outer s H E hr =>
  (dss_cons (sCell 3 nd__law_history df_dict)
  (dss_cons (sFor rfl unpack_quiet (iS (gv 0)) (dg_tup rfl nd__law_history (nmC 4 (nmC 5 .nil)))
    (dss_cons (sIx hr (gv 3) (gv 4) (gNew (gLst (gA (gCall (ok__law_number T) (hr.mono (by decide)) T.m__law_number T.f__law_number.kp T.b__law_number (len_cons (len_cons len_nil)) (gA (gv 2) (gA (gTup (gA (gv 4) da_nil)) da_nil))) da_nil))))
    dss_nil))
  (dss_cons (sOwn 6 nd__law_history (gLst da_nil))
  (dss_cons (sFor rfl put_quiet (iR1 T.z_range (gA (gB dc_len T.z_len (by decide +kernel) (gA (gv 1) da_nil)) da_nil)) (gN 7 nd__law_history)
    (dss_cons (sOwn 8 nd__law_history (gLst da_nil))
    (dss_cons (sFor rfl unpack_quiet (iS (gv 0)) (dg_tup rfl nd__law_history (nmC 4 (nmC 5 .nil)))
      (dss_cons (ds_if (tCmp (op3_in hr) (gv 4) (gIx hr (gv 1) (gv 7)))
        (dss_cons (sExpr (gLm PySem.slot_list_append (by kernel_rfl) dmt_append (gv 6) (gA (gTup (gA (gv 7) (gA (gv 4) (gA (gB dc_len T.z_len (by decide +kernel) (gA (gIx hr (gv 3) (gv 4)) da_nil)) (gA (gTy (dc_tupleD rfl) T.z_tuple (by decide +kernel) (gA (gFr (gComp nd__law_history (own := [("_law_each", 10)]) (blkOk_by rfl) (iS (gv 5)) (fun _ _ _ _ _ => (gN 10 nd__law_history)) (fun _ _ _ _ _ => .nil) (fun _ _ _ _ _ => (de_op op2_sub (gB dc_len T.z_len (by decide +kernel) (gA (gIx hr (gv 3) (gv 10)) da_nil)) de_int)))) da_nil)) da_nil))))) da_nil)))
        (dss_cons (sSet 9 nd__law_history (gCall (ok__law_number T) (hr.mono (by decide)) T.m__law_number T.f__law_number.kp T.b__law_number (len_cons (len_cons len_nil)) (gA (gv 2) (gA (gTup (gA (gv 4) (gA (gTy (dc_tupleD rfl) T.z_tuple (by decide +kernel) (gA (gFr (gComp nd__law_history (own := [("_law_each", 10)]) (blkOk_by rfl) (iS (gv 5)) (fun _ _ _ _ _ => (gN 10 nd__law_history)) (fun _ _ _ _ _ => .nil) (fun _ _ _ _ _ => (gIx hr (gIx hr (gv 3) (gv 10)) (de_neg de_int))))) da_nil)) da_nil))) da_nil))))
        (dss_cons (sExpr (gLm PySem.slot_list_append (by kernel_rfl) dmt_append (gv 8) (gA (gTup (gA (gv 4) (gA (gv 9) da_nil))) da_nil)))
        dss_nil)))
        dss_nil)
      dss_nil))
    (dss_cons (sFor rfl unpack_quiet (iS (gv 8)) (dg_tup rfl nd__law_history (nmC 4 (nmC 9 .nil)))
      (dss_cons (sExpr (gLm PySem.slot_list_append (by kernel_rfl) dmt_append (gIx hr (gv 3) (gv 4)) (gA (gv 9) da_nil)))
      dss_nil))
    dss_nil))))
  (dss_cons (sRet (gTupF (gA (gv 3) (gA (gv 6) da_nil))))
  dss_nil))))))
theorem nd_Web_check_program : (["self", "program", "lot"] : List Str).Nodup := by decide +kernel
theorem sc_Web_check_program : FnScope ["self", "program", "lot"] ["self", "program"] (defScope st_Web_check_program) := ⟨rfl, rfl, rfl, nd_Web_check_program, rfl, by decide +kernel, by decide +kernel⟩
theorem ok_Web_check_program (T : Tx K mg) : FnOk P w K mg base (L2.CX P w) 4 T.a_Web_check_program T.d_Web_check_program ["self", "program"] (spD (T.cl w) K 2 F_Web_check_program) :=
  fn_ok (k := 3) T.f_Web_check_program sc_Web_check_program (fun cdv A outer s H E hr =>
  (dss_cons (sFor rfl put_quiet (iS (gAt (h_lots _ T) (gv 1))) (gN 2 nd_Web_check_program)
    (dss_cons (sExpr (gMeth rfl T.c_Web T.t_Web_check (ok_Web_check T) (hr.mono (by decide)) T.b_Web_check rfl (len_cons len_nil) (gv 0) (gA (gv 2) da_nil)))
    dss_nil))
  dss_nil))
theorem nd_Kinds_kind_of : (["self", "key"] : List Str).Nodup := by decide +kernel
theorem sc_Kinds_kind_of : FnScope ["self", "key"] ["self", "key"] (defScope st_Kinds_kind_of) := ⟨rfl, rfl, rfl, nd_Kinds_kind_of, rfl, by decide +kernel, by decide +kernel⟩
theorem ok_Kinds_kind_of (T : Tx K mg) : FnOk P w K mg base (L2.CX P w) 1 T.a_Kinds_kind_of T.d_Kinds_kind_of ["self", "key"] (spD (T.cl w) K 2 F_Kinds_kind_of) :=
  fn_ok (k := 0) T.f_Kinds_kind_of sc_Kinds_kind_of (fun cdv A outer s H E hr =>
  (dss_cons (ds_if (tCmp (op4_notin hr rfl) (gv 1) (gAt (h_numbers _ T) (gv 0)))
    (dss_cons (sIxN hr (gAt (h_numbers _ T) (gv 0)) (gv 1) (gB dc_len T.z_len (by decide +kernel) (gA (gAt (h_parts _ T) (gv 0)) da_nil)))
    (dss_cons (sExpr (gLm PySem.slot_list_append (by kernel_rfl) dmt_append (gAt (h_parts _ T) (gv 0)) (gA (gv 1) da_nil)))
    dss_nil))
    dss_nil)
  (dss_cons (sRet (gIxN hr (gAt (h_numbers _ T) (gv 0)) (gv 1)))
  dss_nil)))
theorem nd_Web_sources : (["self", "cell"] : List Str).Nodup := by decide +kernel
theorem sc_Web_sources : FnScope ["self", "cell"] ["self", "cell"] (defScope st_Web_sources) := ⟨rfl, rfl, rfl, nd_Web_sources, rfl, by decide +kernel, by decide +kernel⟩
theorem ok_Web_sources (T : Tx K mg) : FnOk P w K mg base (L2.CX P w) 4 T.a_Web_sources T.d_Web_sources ["self", "cell"] (spD (T.cl w) K 2 F_Web_sources) :=
  fn_ok (k := 3) T.f_Web_sources sc_Web_sources (fun cdv A outer s H E hr =>
  (dss_cons (sExpr (gMeth rfl T.c_Web T.t_Web_check (ok_Web_check T) (hr.mono (by decide)) T.b_Web_check rfl (len_cons len_nil) (gv 0) (gA (gFr (gLst (gA (gv 1) da_nil))) da_nil)))
  (dss_cons (sRet (gIx hr (gAt (h_held _ T) (gv 0)) (gv 1)))
  dss_nil)))
theorem nd_History_do : (["self", "at", "lot", "fresh", "cell", "kind", "sources", "each"] : List Str).Nodup := by decide +kernel
theorem sc_History_do : FnScope ["self", "at", "lot", "fresh", "cell", "kind", "sources", "each"] ["self", "at", "lot"] (defScope st_History_do) := ⟨rfl, rfl, rfl, nd_History_do, rfl, by decide +kernel, by decide +kernel⟩
theorem ok_History_do (T : Tx K mg) : FnOk P w K mg base (L2.CX P w) 5 T.a_History_do T.d_History_do ["self", "at", "lot"] (spD (T.cl w) K 3 F_History_do) :=
  fn_ok (k := 4) T.f_History_do sc_History_do (fun cdv A outer s H E hr =>
  (dss_cons (sOwn 3 nd_History_do (gLst da_nil))
  (dss_cons (sFor rfl put_quiet (iS (gFr (gComp nd_History_do (own := [("cell", 4)]) (blkOk_by rfl) (iS (gAt (h_cells _ T) (gAt (h_web _ T) (gv 0)))) (fun _ _ _ _ _ => (gN 4 nd_History_do)) (fun _ _ _ _ _ => (.one (tCmp (op3_in hr) (gv 4) (gv 2)))) (fun _ _ _ _ _ => (gv 4))))) (gN 4 nd_History_do)
    (dss_cons (sSet 6 nd_History_do (gMeth rfl T.c_Web T.t_Web_sources (ok_Web_sources T) (hr.mono (by decide)) T.b_Web_sources rfl (len_cons len_nil) (gAt (h_web _ T) (gv 0)) (gA (gv 4) da_nil)))
    (dss_cons (sExpr (gLm PySem.slot_list_append (by kernel_rfl) dmt_append (gAt (h_steps _ T) (gv 0)) (gA (gTup (gA (gv 1) (gA (gv 4) (gA (gB dc_len T.z_len (by decide +kernel) (gA (gIx hr (gAt (h_rows _ T) (gv 0)) (gv 4)) da_nil)) (gA (gTy (dc_tupleD rfl) T.z_tuple (by decide +kernel) (gA (gFr (gComp nd_History_do (own := [("each", 7)]) (blkOk_by rfl) (iS (gv 6)) (fun _ _ _ _ _ => (gN 7 nd_History_do)) (fun _ _ _ _ _ => .nil) (fun _ _ _ _ _ => (de_op op2_sub (gB dc_len T.z_len (by decide +kernel) (gA (gIx hr (gAt (h_rows _ T) (gv 0)) (gv 7)) da_nil)) de_int)))) da_nil)) da_nil))))) da_nil)))
    (dss_cons (sExpr (gLm PySem.slot_list_append (by kernel_rfl) dmt_append (gv 3) (gA (gTup (gA (gv 4) (gA (gMeth rfl T.c_Kinds T.t_Kinds_kind_of (ok_Kinds_kind_of T) (hr.mono (by decide)) T.b_Kinds_kind_of rfl (len_cons len_nil) (gAt (h_kinds _ T) (gv 0)) (gA (gTup (gA (gv 4) (gA (gTy (dc_tupleD rfl) T.z_tuple (by decide +kernel) (gA (gFr (gComp nd_History_do (own := [("each", 7)]) (blkOk_by rfl) (iS (gv 6)) (fun _ _ _ _ _ => (gN 7 nd_History_do)) (fun _ _ _ _ _ => .nil) (fun _ _ _ _ _ => (gIx hr (gIx hr (gAt (h_rows _ T) (gv 0)) (gv 7)) (de_neg de_int))))) da_nil)) da_nil))) da_nil)) da_nil))) da_nil)))
    dss_nil))))
  (dss_cons (sFor rfl unpack_quiet (iS (gv 3)) (dg_tup rfl nd_History_do (nmC 4 (nmC 5 .nil)))
    (dss_cons (sExpr (gLm PySem.slot_list_append (by kernel_rfl) dmt_append (gIx hr (gAt (h_rows _ T) (gv 0)) (gv 4)) (gA (gv 5) da_nil)))
    dss_nil))
  dss_nil))))
theorem nd_History_init : (["self", "web", "program", "kinds", "at", "lot", "cell"] : List Str).Nodup := by decide +kernel
theorem sc_History_init : FnScope ["self", "web", "program", "kinds", "at", "lot", "cell"] ["self", "web", "program", "kinds"] (defScope st_History_init) := ⟨rfl, rfl, rfl, nd_History_init, rfl, by decide +kernel, by decide +kernel⟩
theorem ok_History_init (T : Tx K mg) : FnOk P w K mg base (L2.CX P w) 6 T.a_History_init T.d_History_init ["self", "web", "program", "kinds"] (spD (T.cl w) K 4 F_History_init) :=
  fn_ok (k := 5) T.f_History_init sc_History_init (fun cdv A outer s H E hr =>
  (dss_cons (sExpr (gMeth rfl T.c_Web T.t_Web_check_program (ok_Web_check_program T) (hr.mono (by decide)) T.b_Web_check_program rfl (len_cons len_nil) (gv 1) (gA (gv 2) da_nil)))
  (dss_cons (sFld (h_web _ T) (gv 0) (gv 1))
  (dss_cons (sFld (h_kinds _ T) (gv 0) (gv 3))
  (dss_cons (sFld (h_rows _ T) (gv 0) (gDcC (own := [("cell", 6)]) nd_History_init rfl (blkOk_by rfl) (iS (gAt (h_cells _ T) (gv 1))) (fun _ _ _ _ _ => (gN 6 nd_History_init)) (fun _ _ _ _ _ => .nil) (fun _ _ _ _ _ => (gv 6)) (fun _ _ _ _ _ => (gNew (gLst (gA (gMeth rfl T.c_Kinds T.t_Kinds_kind_of (ok_Kinds_kind_of T) (hr.mono (by decide)) T.b_Kinds_kind_of rfl (len_cons len_nil) (gv 3) (gA (gTup (gA (gv 6) da_nil)) da_nil)) da_nil))))))
  (dss_cons (sFldC (h_steps _ T) (gv 0) (gLst da_nil))
  (dss_cons (sFor rfl unpack_quiet (iET T.z_enumerate (gA (gAt (h_lots _ T) (gv 2)) da_nil)) (dg_tup rfl nd_History_init (nmC 4 (nmC 5 .nil)))
    (dss_cons (sExpr (gMeth rfl T.c_History T.t_History_do (ok_History_do T) (hr.mono (by decide)) T.b_History_do rfl (len_cons (len_cons len_nil)) (gv 0) (gA (gv 4) (gA (gv 5) da_nil))))
    dss_nil))
  dss_nil)))))))
theorem nd_Kinds_init : (["self"] : List Str).Nodup := by decide +kernel
theorem sc_Kinds_init : FnScope ["self"] ["self"] (defScope st_Kinds_init) := ⟨rfl, rfl, rfl, nd_Kinds_init, rfl, by decide +kernel, by decide +kernel⟩
theorem ok_Kinds_init (T : Tx K mg) : FnOk P w K mg base (L2.CX P w) 1 T.a_Kinds_init T.d_Kinds_init ["self"] (spD (T.cl w) K 1 F_Kinds_init) :=
  fn_ok (k := 0) T.f_Kinds_init sc_Kinds_init (fun cdv A outer s H E hr =>
  (dss_cons (sFldC (h_numbers _ T) (gv 0) df_dict)
  (dss_cons (sFldC (h_parts _ T) (gv 0) (gLst da_nil))
  dss_nil)))
theorem nd_kinds : (["web", "program", "rows", "cell", "kind"] : List Str).Nodup := by decide +kernel
theorem sc_kinds : FnScope ["web", "program", "rows", "cell", "kind"] ["web", "program"] (defScope st_kinds) := ⟨rfl, rfl, rfl, nd_kinds, rfl, by decide +kernel, by decide +kernel⟩
theorem ok_kinds (T : Tx K mg) : FnOk P w K mg base (L2.CX P w) 8 T.a_kinds T.d_kinds ["web", "program"] (spD (T.cl w) K 2 F_kinds) :=
  fn_ok (k := 7) T.f_kinds sc_kinds (fun cdv A outer s H E hr =>
  (dss_cons (sSet 2 nd_kinds (gAt (h_rows _ T) (gMakeC rfl T.k_History (ok_History_init T) (hr.mono (by decide)) T.m_History T.b_History_init rfl (len_cons (len_cons (len_cons len_nil))) (gA (gv 0) (gA (gv 1) (gA (gMakeC0 rfl T.k_Kinds (ok_Kinds_init T) (hr.mono (by decide)) T.m_Kinds T.b_Kinds_init rfl) da_nil))))))
  (dss_cons (sRetF (gDcF (own := [("cell", 3)]) nd_kinds rfl (blkOk_by rfl) (iS (gAt (h_cells _ T) (gv 0))) (fun _ _ _ _ _ => (gN 3 nd_kinds)) (fun _ _ _ _ _ => .nil) (fun _ _ _ _ _ => (gv 3)) (fun _ _ _ _ _ => (gFr (gComp nd_kinds (own := [("kind", 4)]) (blkOk_by rfl) (iS (gIx hr (gv 2) (gv 3))) (fun _ _ _ _ _ => (gN 4 nd_kinds)) (fun _ _ _ _ _ => .nil) (fun _ _ _ _ _ => (gLm PySem.F.slot_list_index (by kernel_rfl) dmt_index (gIx hr (gv 2) (gv 3)) (gA (gv 4) da_nil))))))))
  dss_nil)))
theorem nd_Program_init : (["self", "lots", "at", "lot"] : List Str).Nodup := by decide +kernel
theorem sc_Program_init : FnScope ["self", "lots", "at", "lot"] ["self", "lots"] (defScope st_Program_init) := ⟨rfl, rfl, rfl, nd_Program_init, rfl, by decide +kernel, by decide +kernel⟩
theorem ok_Program_init (T : Tx K mg) : FnOk P w K mg base (L2.CX P w) 3 T.a_Program_init T.d_Program_init ["self", "lots"] (spD (T.cl w) K 2 F_Program_init) :=
  fn_ok (k := 2) T.f_Program_init sc_Program_init (fun cdv A outer s H E hr =>
  (dss_cons (ds_if (dt_not (tV (gCall (ok_is_list T) (hr.mono (by decide)) T.m_is_list T.f_is_list.kp T.b_is_list (len_cons len_nil) (gA (gv 1) da_nil))))
    (dss_cons (sRaise rfl rfl T.o_BadProgram T.n_BadProgram T.i_BadProgram T.y_BadProgram (ok_BadProgram_init T) (hr.mono (by decide)) T.b_BadProgram_init T.m_BadProgram de_int)
    dss_nil)
    dss_nil)
  (dss_cons (sFor rfl unpack_quiet (iE T.z_enumerate (gA (gv 1) da_nil)) (dg_tup rfl nd_Program_init (nmC 2 (nmC 3 .nil)))
    (dss_cons (ds_if (dt_w (dw_or (dt_not (tV (gCall (ok_are_names T) (hr.mono (by decide)) T.m_are_names T.f_are_names.kp T.b_are_names (len_cons len_nil) (gA (gv 3) da_nil)))) (dw_or1 (tCmp (op2_eq hr) (gB dc_len T.z_len (by decide +kernel) (gA (gv 3) da_nil)) de_int))))
      (dss_cons (sRaise rfl rfl T.o_BadProgram T.n_BadProgram T.i_BadProgram T.y_BadProgram (ok_BadProgram_init T) (hr.mono (by decide)) T.b_BadProgram_init T.m_BadProgram (gv 2))
      dss_nil)
      dss_nil)
    dss_nil))
  (dss_cons (sFld (h_lots _ T) (gv 0) (gTy (dc_tupleD rfl) T.z_tuple (by decide +kernel) (gA (gFr (gComp nd_Program_init (own := [("lot", 3)]) (blkOk_by rfl) (iS (gv 1)) (fun _ _ _ _ _ => (gN 3 nd_Program_init)) (fun _ _ _ _ _ => .nil) (fun _ _ _ _ _ => (gTy (dc_tupleD rfl) T.z_tuple (by decide +kernel) (gA (gFr (gBF dcf_sorted T.z_sorted (by decide +kernel) (gA (gv 3) da_nil))) da_nil))))) da_nil)))
  dss_nil))))
theorem nd_law : (["_law_script", "_law_k", "_law_pool_here", "_law_rows", "_law_names_here", "_law_lots", "_law_web_here", "_law_found", "_law_told", "_law_cell_here", "_law_sources", "_law_due", "_law_again", "_law_kind"] : List Str).Nodup := by decide +kernel
theorem sc_law : FnScope ["_law_script", "_law_k", "_law_pool_here", "_law_rows", "_law_names_here", "_law_lots", "_law_web_here", "_law_found", "_law_told", "_law_cell_here", "_law_sources", "_law_due", "_law_again", "_law_kind"] ["_law_script"] (defScope st_law) := ⟨rfl, rfl, rfl, nd_law, rfl, by decide +kernel, by decide +kernel⟩
theorem ok_law (T : Tx K mg) : FnOk P w K mg base (L2.CX P w) 9 T.a_law T.d_law ["_law_script"] (spD (T.cl w) K 1 F_law) :=
  fn_ok (k := 8) T.f_law sc_law (fun cdv A outer s H E hr =>
  (dss_cons (sFor rfl put_quiet (iR1 T.z_range (gA de_int da_nil)) (gN 1 nd_law)
    (dss_cons (sCell 2 nd_law (gCallF (ok__law_pool T) (hr.mono (by decide)) T.m__law_pool T.f__law_pool.kp T.b__law_pool (len_cons len_nil) (gA (de_op op2_add (gCall (ok__law_cell T) (hr.mono (by decide)) T.m__law_cell T.f__law_cell.kp T.b__law_cell (len_cons (len_cons len_nil)) (gA (gv 0) (gA (gv 1) da_nil))) (gv 1)) da_nil)))
    (dss_cons (sSet 3 nd_law (gCall (ok__law_web T) (hr.mono (by decide)) T.m__law_web T.f__law_web.kp T.b__law_web (len_cons (len_cons (len_cons len_nil))) (gA (gv 2) (gA de_int (gA de_int da_nil)))))
    (dss_cons (sSetLc 4 nd_law (own := [("_law_cell_here", 9), ("_law_sources", 10)]) (blkOk_by rfl) (iS (gv 3)) (fun _ _ _ _ _ => (dg_tup rfl nd_law (nmC 9 (nmC 10 .nil)))) (fun _ _ _ _ _ => .nil) (fun _ _ _ _ _ => (gv 9)))
    (dss_cons (sSet 5 nd_law (gCall (ok__law_program T) (hr.mono (by decide)) T.m__law_program T.f__law_program.kp T.b__law_program (len_cons (len_cons (len_cons len_nil))) (gA (gv 2) (gA (gv 4) (gA de_int da_nil)))))
    (dss_cons (sSet 6 nd_law (gMake rfl T.k_Web (ok_Web_init T) (hr.mono (by decide)) T.m_Web T.b_Web_init rfl (len_cons len_nil) (gA (gv 3) da_nil)))
    (dss_cons (sSet 7 nd_law (gIx hr (gCall (ok__law_history T) (hr.mono (by decide)) T.m__law_history T.f__law_history.kp T.b__law_history (len_cons (len_cons (len_cons len_nil))) (gA (gv 3) (gA (gv 5) (gA (gNew df_dict) da_nil)))) de_int))
    (dss_cons (sSet 8 nd_law (gCall (ok_kinds T) (hr.mono (by decide)) T.m_kinds T.f_kinds.kp T.b_kinds (len_cons (len_cons len_nil)) (gA (gv 6) (gA (gMake rfl T.k_Program (ok_Program_init T) (hr.mono (by decide)) T.m_Program T.b_Program_init rfl (len_cons len_nil) (gA (gv 5) da_nil)) da_nil))))
    (dss_cons (ds_if (dt_w (dw_or (dt_not (tV (gIsi1 T.z_isinstance T.z_dict (kit_ok (by decide +kernel)) (by decide +kernel) (gv 8)))) (dw_or1 (tCmp (op2_ne hr) (gFr (gTyF (dcf_listD rfl) T.z_list (by decide +kernel) (gA (gv 8) da_nil))) (gv 4)))))
      (dss_cons (sRet de_bl)
      dss_nil)
      dss_nil)
    (dss_cons (sFor rfl put_quiet (iS (gv 4)) (gN 9 nd_law)
      (dss_cons (sSetLc 11 nd_law (own := [("_law_kind", 13)]) (blkOk_by rfl) (iS (gIx hr (gv 7) (gv 9))) (fun _ _ _ _ _ => (gN 13 nd_law)) (fun _ _ _ _ _ => .nil) (fun _ _ _ _ _ => (gLm PySem.F.slot_list_index (by kernel_rfl) dmt_index (gIx hr (gv 7) (gv 9)) (gA (gv 13) da_nil))))
      (dss_cons (ds_if (dt_w (dw_or (tCmp (op2_ne hr) (gIx hr (gv 8) (gv 9)) (gv 11)) (dw_or1 (tCmp (op2_ne hr) (gIx hr (gv 8) (gv 9)) (gFr (gBF dcf_sorted T.z_sorted (by decide +kernel) (gA (gIx hr (gv 8) (gv 9)) da_nil)))))))
        (dss_cons (sRet de_bl)
        dss_nil)
        dss_nil)
      dss_nil)))
    (dss_cons (sFor rfl unpack_quiet (iS (gv 3)) (dg_tup rfl nd_law (nmC 9 (nmC 10 .nil)))
      (dss_cons (sSet 12 nd_law (gIx hr (gCall (ok_kinds T) (hr.mono (by decide)) T.m_kinds T.f_kinds.kp T.b_kinds (len_cons (len_cons len_nil)) (gA (gv 6) (gA (gMake rfl T.k_Program (ok_Program_init T) (hr.mono (by decide)) T.m_Program T.b_Program_init rfl (len_cons len_nil) (gA (de_op op2_add (gv 5) (gFr (gLst (gA (gFr (gLst (gA (gv 9) da_nil))) (gA (gFr (gLst (gA (gv 9) da_nil))) da_nil))))) da_nil)) da_nil))) (gv 9)))
      (dss_cons (ds_if (dt_w (dw_and (tCmp (op3_notin hr) (gv 9) (gv 10)) (dw_and1 (tCmp (op2_ne hr) (gIx hr (gv 12) (de_neg de_int)) (gIx hr (gv 12) (de_neg de_int))))))
        (dss_cons (sRet de_bl)
        dss_nil)
        dss_nil)
      (dss_cons (ds_if (dt_w (dw_and (tCmp (op3_in hr) (gv 9) (gv 10)) (dw_and1 (tCmp (op2_ne hr) (gIx hr (gv 12) (de_neg de_int)) (de_op op2_sub (gB dc_len T.z_len (by decide +kernel) (gA (gv 12) da_nil)) de_int)))))
        (dss_cons (sRet de_bl)
        dss_nil)
        dss_nil)
      dss_nil))))
    dss_nil)))))))))))
  (dss_cons (sRet de_bl)
  dss_nil)))
end
end G06
namespace G06
open PySem PySem.Spec L2 Lf
theorem take_spec {μ : List Cell} {n k m : Nat} {Q : Out Ret → List Cell → Prop} (h : PoolAt n k μ) (hk : k < 1073741824) (hm : 0 < m) (hm2 : m < 1073741824)
    (hQ : ∀ d : Nat, d < m → ∀ μ', Draw n μ (k + 1) μ' → Q (.ok (.val (.t (.int d)))) μ') : Fw F__law_take [.loc n, .t (.int m)] μ Q := by
  obtain ⟨a, b, c, h, ha, hb, hb2, hc, hc2⟩ := h
  have hn : n < μ.length := (List.getElem?_eq_some_iff.mp h).1
  have hmI : (0 : Int) < m := by omega
  have hmI2 : (m : Int) < 1073741824 := by omega
  have fin : ∀ z a' c' : Int, 0 ≤ a' → 0 ≤ c' → c' ≤ k + 1 → Q (.ok (.val (.t (.int (z % m))))) (μ.set n (poolC a' b c')) := fun z a' c' h1 h2 h3 => by
    have e := Int.emod_nonneg z (show (m : Int) ≠ 0 by omega)
    have e2 := Int.emod_lt_of_pos z hmI
    have e3 : z % m = ((z % m).toNat : Int) := by omega
    rw [e3]
    exact hQ _ (by omega) _ ⟨⟨_, rfl⟩, a', b, c', by simp [hn], h1, hb, hb2, h2, by omega⟩
  refine Fw_run ?_
  unfold s__law_take
  have h0 : ∀ a b c : Int, atI [Fv.t (.int a), .t (.int b), .t (.int c)] 0 = some (.t (.int a)) := fun _ _ _ => rfl
  have h1 : ∀ a b c : Int, atI [Fv.t (.int a), .t (.int b), .t (.int c)] 1 = some (.t (.int b)) := fun _ _ _ => rfl
  have h2 : ∀ a b c : Int, atI [Fv.t (.int a), .t (.int b), .t (.int c)] 2 = some (.t (.int c)) := fun _ _ _ => rfl
  simp [Wp_ixL h (h0 _ _ _), startD]
  split
  · rename_i hp
    simp [Wp_ixL h (h0 _ _ _), hm, hmI2, Wp_setIxL h (i := 0) (j := 0) rfl]
    exact fin a _ c (Int.ediv_nonneg ha (by omega)) hc (by omega)
  · rename_i hp
    have h' : (μ.set n (poolC a b (c + 1)))[n]? = some (poolC a b (c + 1)) := by simp [hn]
    simp [Wp_ixL h (h2 _ _ _), Wp_setIxL h (i := 2) (j := 2) rfl]
    have hcc : (c + 1 : Int) ≤ 1073741824 := by omega
    rw [Wp_ixL h' (h1 _ _ _)]
    simp [Wp_ixL h' (h2 _ _ _)]
    rw [Wp_dMulI (by simp)]
    simp
    refine ⟨by omega, ?_⟩
    simp [Wp_ixL h' (h2 _ _ _)]
    rw [Wp_dMulI (by simp)]
    simp
    exact ⟨hm, fin _ a (c + 1) ha (by omega) (by omega)⟩
theorem pool_spec {μ : List Cell} {Q : Out Ret → List Cell → Prop} (z : Int) (hQ : ∀ a b : Int, 0 ≤ a → 0 ≤ b → b < 1073741824 → Q (.ok (.own (.lst [.int a, .int b, .int 0]))) μ) : Fw F__law_pool [.t (.int z)] μ Q := by
  refine Fw_run ?_
  unfold s__law_pool
  have e : ∀ y : Int, 0 ≤ y % 1000000007 ∧ y % 1000000007 < 1073741824 := fun y => by
    have e := Int.emod_nonneg y (show (1000000007 : Int) ≠ 0 by decide)
    have e2 := Int.emod_lt_of_pos y (show (0 : Int) < 1000000007 by decide)
    omega
  simp [startD]
  rw [Wp_dMulI (by simp)]
  simp
  split
  · rw [Wp_dMulI (by simp)]
    simp
    split
    · simp [sizeLine_eq]
      exact hQ _ _ (by omega) (e _).1 (e _).2
    · simp [sizeLine_eq]
      exact hQ _ _ (by omega) (e _).1 (e _).2
  · split
    · simp [sizeLine_eq]
      exact hQ _ _ (by omega) (e _).1 (e _).2
    · simp [sizeLine_eq]
      exact hQ _ _ (by omega) (e _).1 (e _).2
theorem cell_spec {μ : List Cell} {Q : Out Ret → List Cell → Prop} (ns : List Int) (k : Nat) (hQ : ∀ z : Int, Q (.ok (.val (.t (.int z)))) μ) : Fw F__law_cell [.t (.fro (ns.map T.int)), .t (.int k)] μ Q := by
  refine Fw_run ?_
  unfold s__law_cell
  simp [startD]
  split
  · rename_i h
    have e : atI (ns.map T.int) (k : Int) = some (.int ns[k]) := Lf.atI_nat (by simp [h])
    simp [Wp_ixF e, hQ]
  · simp [hQ]
theorem perm_cut {α : Type} {l f : List α} {i : Nat} {x : α} (h : l[i]? = some x) : (l.take i ++ l.drop (i + 1) ++ (f ++ [x])).Perm (l ++ f) := by
  obtain ⟨hl, e⟩ := List.getElem?_eq_some_iff.mp h
  have e1 : l = l.take i ++ x :: l.drop (i + 1) := by
    rw [← e, List.getElem_cons_drop, List.take_append_drop]
  have p1 : (f ++ [x]).Perm (x :: f) := List.perm_append_singleton x f
  refine (p1.append_left _).trans ?_
  have p2 : (l.take i ++ l.drop (i + 1) ++ x :: f).Perm (x :: (l.take i ++ l.drop (i + 1) ++ f)) := List.perm_middle
  refine p2.trans ?_
  have p3 : (l.take i ++ x :: l.drop (i + 1)).Perm (x :: (l.take i ++ l.drop (i + 1))) := List.perm_middle
  have p4 := p3.append_right f
  rw [← e1] at p4
  exact p4.symm
theorem mixed_spec {μ : List Cell} {n k : Nat} {xs : List T} {Q : Out Ret → List Cell → Prop} (h : PoolAt n k μ) (hl : xs.length < 1000000) (hk : k + xs.length < 1073741824)
    (hQ : ∀ ys : List T, ys.Perm xs → ∀ μ', Draw n μ (k + xs.length) μ' → Q (.ok (.val (.t (.lst ys)))) μ') : Fw F__law_mixed [.loc n, .t (.lst xs)] μ Q := by
  refine Fw_run ?_
  unfold s__law_mixed
  simp [startD, sizeLine_eq]
  rw [Wp_rng1 (by omega) (by omega)]
  simp
  refine Wp_forInv (fun vs s => ∃ (left found : List T) (j : Nat) (o4 o5 : Option Lf.Slot) (μ' : List Cell), s = ⟨[some (.loc n), some (.t (.lst xs)), some (.t (.lst left)), some (.own (.lst found)), o4, o5], μ'⟩ ∧ (left ++ found).Perm xs ∧ left.length = vs.length ∧ found.length = j ∧ Draw n μ (k + j) μ' ∧ ∀ v ∈ vs, ∃ x, v = .t x)
    (fun _ _ _ => rfl) ?_ ?_ _ _ ⟨xs, [], 0, none, none, μ, rfl, by simp, by simp [rangeV], rfl, Draw.refl h, ?_⟩
  · rintro s ⟨left, found, j, o4, o5, μ', rfl, hp, hle, rfl, hD, _⟩
    have : left = [] := by simpa using hle
    subst this
    simp [Own.tree]
    have hlen : found.length = xs.length := by simpa using hp.length_eq
    refine ⟨μ', trunc_len hD.len, hQ found (by simpa using hp) μ' (by rw [← hlen]; exact hD)⟩
  · rintro v vs s ⟨left, found, j, o4, o5, μ', rfl, hp, hle, rfl, hD, hv⟩
    obtain ⟨x, rfl⟩ := hv v (by simp)
    have hle : left.length = vs.length + 1 := by simpa using hle
    have htot : left.length + found.length = xs.length := by simpa using hp.length_eq
    simp
    refine take_spec hD.2 (by omega) (by omega) (by omega) fun d hd μ2 hD2 => ?_
    have e : left[d]? = some left[d] := List.getElem?_eq_getElem hd
    simp [Wp_ixT (Lf.atI_nat e), sizeLine_eq]
    have ec : cutT left (some ((d : Int) + 1)) none = left.drop (d + 1) := cutT_drop left (d + 1)
    rw [ec]
    refine ⟨by omega, by rw [List.length_drop]; omega, _, _, found.length + 1, _, _, μ2, ⟨⟨rfl, rfl, rfl, rfl⟩, rfl⟩, ?_, ?_, by simp, hD.trans hD2, fun v h => hv v (List.mem_cons_of_mem _ h)⟩
    · have := perm_cut (f := found) e
      exact this.trans hp
    · simp
      omega
  · exact fun v hv => rangeV_t hv
end G06
namespace G06
open PySem PySem.Spec L2 Lf
/-- the letters -/
def isL (c : Nat) : Prop := 97 ≤ c ∧ c ≤ 122
/-- a name of a cell -/
def Nm (x : Str) : Prop := 1 ≤ x.cps.size ∧ x.cps.size ≤ 8 ∧ ∀ c ∈ x.cps.toList, isL c
/-- no z but in the spare names -/
def Nz (x : Str) : Prop := 122 ∉ x.cps.toList ∨ x.cps.size = 3
def isK (c : Nat) : Prop := 97 ≤ c ∧ c ≤ 121
theorem az : (Str.ofString "abcdefghijklmnopqrstuvwxy").cps.toList = (List.range 25).map (97 + ·) := by decide +kernel
theorem az16 : (Str.ofString "abcdefghijklmnop").cps.toList = (List.range 16).map (97 + ·) := by decide +kernel
theorem join_nil (cs : List Nat) : (Txt.join (Str.ofString "") (cs.map fun c => (⟨#[c]⟩ : Str))).cps.toList = cs := by
  rw [TL.join_eq]
  have h : ∀ cs : List Nat, (Str.join (Str.ofString "") (cs.map fun c => (⟨#[c]⟩ : Str))).cps.toList = cs := by
    intro cs
    induction cs with
    | nil => rfl
    | cons a r ih => cases r with
      | nil => rfl
      | cons b r =>
        show ((⟨#[a]⟩ : Str) ++ Str.ofString "" ++ Str.join (Str.ofString "") ((b :: r).map fun c => (⟨#[c]⟩ : Str))).cps.toList = _
        have e : ∀ x y : Str, (x ++ y).cps.toList = x.cps.toList ++ y.cps.toList := fun x y => by
          show (x.cps ++ y.cps).toList = _
          simp
        rw [e, e, ih]
        rfl
  exact h cs
theorem pigeon : ∀ {l m : List Str}, l.Nodup → (∀ x ∈ l, x ∈ m) → l.length ≤ m.length
  | [], _, _, _ => Nat.zero_le _
  | a :: l, m, hn, h => by
    have ha := h a (by simp)
    have hn' := List.nodup_cons.mp hn
    have := pigeon (l := l) (m := m.erase a) hn'.2 fun x hx => (List.mem_erase_of_ne (fun z : x = a => hn'.1 (z ▸ hx))).mpr (h x (List.mem_cons_of_mem _ hx))
    rw [List.length_erase_of_mem ha] at this
    have hp : 0 < m.length := List.length_pos_of_mem ha
    simp
    omega
/-- the names that are always there -/
def spares : List Str := (List.range 16).map fun i => ⟨#[122, 97 + i, 113]⟩
theorem spares_nd : spares.Nodup := by decide +kernel
theorem spares_nm : ∀ y ∈ spares, Nm y := by
  intro y hy
  obtain ⟨i, hi, rfl⟩ := List.mem_map.mp hy
  have hi : i < 16 := by simpa using hi
  refine ⟨by simp, by simp, fun c hc => ?_⟩
  have hc : c = 122 ∨ c = 97 + i ∨ c = 113 := by simpa using hc
  unfold isL
  omega
def φz : Val → Option T
  | .t (.str y) => some (.str (Str.ofString "z" ++ y ++ Str.ofString "q"))
  | _ => none
theorem spares_eq : (signs (Str.ofString "abcdefghijklmnop")).filterMap φz = spares.map T.str := by
  have e : signs (Str.ofString "abcdefghijklmnop") = ((List.range 16).map (97 + ·)).map fun c => Val.t (.str ⟨#[c]⟩) := by
    unfold signs
    rw [az16]
  rw [e]
  rfl
theorem spares_nz : ∀ y ∈ spares, Nz y := by
  intro y hy
  obtain ⟨i, hi, rfl⟩ := List.mem_map.mp hy
  exact .inr rfl
theorem filt (found : List Str) : ∀ l : List Str, List.filterMap (fun v => match v with | Val.t (T.str y) => if y ∈ found then none else some (T.str y) | x => none) (l.map (Val.t ∘ T.str)) = (l.filter fun y => !decide (y ∈ found)).map T.str
  | [] => rfl
  | y :: r => by
    by_cases h : y ∈ found
    · simp [h, filt found r]
    · simp [h, filt found r]
theorem names_spec {μ : List Cell} {n k m : Nat} {Q : Out Ret → List Cell → Prop} (h : PoolAt n k μ) (hm : m ≤ 16) (hk : k + 9 * m < 1073741824)
    (hQ : ∀ ys : List Str, ys.length = m → ys.Nodup → (∀ y ∈ ys, Nm y ∧ Nz y) → ∀ μ', Draw n μ (k + 9 * m) μ' → Q (.ok (.val (.t (.lst (ys.map T.str))))) μ') : Fw F__law_names [.loc n, .t (.int m)] μ Q := by
  refine Fw_run ?_
  unfold s__law_names
  simp [startD, sizeLine_eq]
  rw [Wp_rng1 (by omega) (by omega)]
  simp
  refine Wp_forInv (fun vs s => ∃ (found : List Str) (j : Nat) (o3 o4 o5 o6 : Option Lf.Slot) (μ' : List Cell), s = ⟨[some (.loc n), some (.t (.int m)), some (.own (.lst (found.map T.str))), o3, o4, o5, o6, none, none, none], μ'⟩ ∧ found.Nodup ∧ (∀ y ∈ found, Nm y ∧ Nz y) ∧ found.length = j ∧ j + vs.length = m ∧ Draw n μ (k + 9 * j) μ' ∧ ∀ v ∈ vs, ∃ x, v = .t x)
    (fun _ _ _ => rfl) ?_ ?_ _ _ ⟨[], 0, none, none, none, none, μ, rfl, by simp, by simp, rfl, by simp, Draw.refl h, ?_⟩
  · rintro s ⟨found, j, o3, o4, o5, o6, μ', rfl, hn, hN, rfl, hle, hD, _⟩
    have hle : found.length = m := by simpa using hle
    simp [Own.tree]
    exact ⟨μ', trunc_len hD.len, hQ found hle hn hN μ' (by rw [← hle]; exact hD)⟩
  · rintro v vs s ⟨found, j, o3, o4, o5, o6, μ', rfl, hn, hN, rfl, hle, hD, hv⟩
    obtain ⟨x, rfl⟩ := hv v (by simp)
    have hle : found.length + (vs.length + 1) = m := by simpa using hle
    simp [sizeLine_eq]
    refine take_spec (m := 5) hD.2 (by omega) (by omega) (by omega) fun d hd μ2 hD2 => ?_
    have sz : ∃ z : Nat, atI [T.int 1, T.int 1, T.int 2, T.int 3, T.int 8] (d : Int) = some (.int z) ∧ 1 ≤ z ∧ z ≤ 8 := by
      have : d = 0 ∨ d = 1 ∨ d = 2 ∨ d = 3 ∨ d = 4 := by omega
      rcases this with rfl | rfl | rfl | rfl | rfl
      · exact ⟨1, rfl, by omega, by omega⟩
      · exact ⟨1, rfl, by omega, by omega⟩
      · exact ⟨2, rfl, by omega, by omega⟩
      · exact ⟨3, rfl, by omega, by omega⟩
      · exact ⟨8, rfl, by omega, by omega⟩
    obtain ⟨z, ez, z1, z8⟩ := sz
    simp [Wp_ixT ez]
    rw [Wp_rng1 (by omega) (by omega)]
    simp
    refine Wp_comp (fun r acc s => ∃ (cs : List Nat) (μ3 : List Cell), s = ⟨[some (.loc n), some (.t (.int m)), some (.own (.lst (found.map T.str))), some (.t x), some (.t (.int z)), o5, o6, none, none, none], μ3⟩ ∧ acc = cs.map (fun c => T.str ⟨#[c]⟩) ∧ (∀ c ∈ cs, isK c) ∧ cs.length + r.length = z ∧ Draw n μ (k + 9 * found.length + 1 + cs.length) μ3 ∧ ∀ v ∈ r, ∃ y, v = .t y)
      rfl (fun _ _ _ _ => rfl) ⟨[], μ2, rfl, rfl, by simp, by simp, hD.trans hD2, fun v hv => rangeV_t hv⟩ ?_ ?_
    · rintro v r acc s ⟨cs, μ3, rfl, rfl, hL, hz, hD3, hr⟩
      obtain ⟨y, rfl⟩ := hr v (by simp)
      have hz : cs.length + (r.length + 1) = z := by simpa using hz
      simp
      refine take_spec (m := 25) hD3.2 (by omega) (by omega) (by omega) fun i hi μ4 hD4 => ?_
      have ei : atI (Str.ofString "abcdefghijklmnopqrstuvwxy").cps.toList (i : Int) = some (97 + i) := Lf.atI_nat (by rw [az]; simp [hi])
      simp
      rw [Wp_ixS (by decide +kernel) ei]
      simp [wipeD, sizeLine_eq]
      refine ⟨by omega, cs ++ [97 + i], by simp, ?_, by simp; omega, ?_, fun v h => hr v (List.mem_cons_of_mem _ h)⟩
      · intro c hc
        rcases List.mem_append.mp hc with h | h
        · exact hL c h
        · have : c = 97 + i := by simpa using h
          subst this
          exact ⟨by omega, by omega⟩
      · have := hD3.trans hD4
        simpa [Nat.add_assoc] using this
    · rintro ys s2 ⟨cs, μ3, rfl, rfl, hL, hz, hD3, _⟩
      have hz : cs.length = z := by simpa using hz
      simp [backD]
      have ecs : List.map (fun c => T.str ⟨#[c]⟩) cs = (cs.map fun c => (⟨#[c]⟩ : Str)).map T.str := by rw [List.map_map]; rfl
      rw [ecs, Wp_join (by
        have : ∀ l : List Nat, ((l.map fun c => (⟨#[c]⟩ : Str)).map (·.length)).sum = l.length := by
          intro l
          induction l with
          | nil => rfl
          | cons a r ih => simp [Str.length] at ih ⊢; omega
        rw [this]
        have e0 : (Str.ofString "").length = 0 := by decide +kernel
        rw [e0]
        simp
        omega)]
      generalize hw : Txt.join (Str.ofString "") (cs.map fun c => (⟨#[c]⟩ : Str)) = w
      have ew : w.cps.toList = cs := by rw [← hw]; exact join_nil cs
      have hNw : Nm w := ⟨by rw [← Array.length_toList, ew]; omega, by rw [← Array.length_toList, ew]; omega, by rw [ew]; exact fun c hc => ⟨(hL c hc).1, by have := (hL c hc).2; omega⟩⟩
      have hZw : Nz w := .inl (by rw [ew]; intro hz; have := (hL _ hz).2; omega)
      simp [sizeLine_eq]
      refine Wp_compP φz rfl rfl (by decide +kernel) rfl ?_ ?_
      · intro v hv acc hacc
        obtain ⟨c, hc, rfl⟩ := List.mem_map.mp hv
        have e1 : (Str.ofString "z").length = 1 := by decide +kernel
        have e2 : (Str.ofString "q").length = 1 := by decide +kernel
        have e3 : ∀ (a b : Str), (a ++ b).length = a.length + b.length := fun a b => by
          show (a.cps ++ b.cps).size = _
          simp [Str.length]
        have e4 : (⟨#[c]⟩ : Str).length = 1 := rfl
        simp [wipeD, sizeLine_eq, φz, e1, e2, e3, e4]
        rw [sizeLine_eq] at hacc
        exact hacc
      · simp [spares_eq, sizeLine_eq]
        have el : spares.length = 16 := by decide +kernel
        refine ⟨by omega, ?_⟩
        refine Wp_compP (fun v => match v with | .t (.str y) => if y ∈ found then none else some (.str y) | _ => none) rfl rfl (by simp [el, sizeLine_eq]) rfl ?_ ?_
        · intro v hv acc hacc
          have : ∃ y : Str, v = .t (.str y) := by
            rcases List.mem_cons.mp hv with h | h
            · exact ⟨w, h⟩
            · obtain ⟨y, _, rfl⟩ := List.mem_map.mp h
              exact ⟨y, rfl⟩
          obtain ⟨y, rfl⟩ := this
          simp [wipeD]
          rw [Wp_inO (ys := found) rfl]
          simp [Ek_dec]
          rw [sizeLine_eq] at hacc ⊢
          by_cases hy : y ∈ found
          · simp [hy, wipeD]
          · simp [hy, wipeD, hacc]
        · have ef := filt found (w :: spares)
          rw [List.map_cons] at ef
          show Bk keep _ (Out.ok (Own.lst (List.filterMap _ (Val.t (T.str w) :: List.map (Val.t ∘ T.str) spares)))) _
          rw [show Val.t (T.str w) = (Val.t ∘ T.str) w from rfl, ef]
          have hmem : ∀ y ∈ (w :: spares).filter (fun y => !decide (y ∈ found)), y ∉ found ∧ Nm y ∧ Nz y := fun y hy => by
            obtain ⟨h1, h2⟩ := List.mem_filter.mp hy
            refine ⟨by simpa using h2, ?_⟩
            rcases List.mem_cons.mp h1 with h | h
            · rw [h]; exact ⟨hNw, hZw⟩
            · exact ⟨spares_nm y h, spares_nz y h⟩
          have hne : (w :: spares).filter (fun y => !decide (y ∈ found)) ≠ [] := fun hnil => by
            have := pigeon spares_nd (m := found) fun x hx => by
              cases Decidable.em (x ∈ found) with
              | inl h => exact h
              | inr h =>
                have : x ∈ (w :: spares).filter (fun y => !decide (y ∈ found)) := List.mem_filter.mpr ⟨List.mem_cons_of_mem _ hx, by simp [h]⟩
                rw [hnil] at this
                cases this
            omega
          generalize (w :: spares).filter (fun y => !decide (y ∈ found)) = fl at hmem hne
          cases fl with
          | nil => exact absurd rfl hne
          | cons y r =>
            obtain ⟨y1, y2⟩ := hmem y (by simp)
            have e0 : atI (T.str y :: r.map T.str) 0 = some (T.str y) := Lf.atI_nat (i := 0) rfl
            simp [Wp_ixT e0, sizeLine_eq]
            refine ⟨by omega, found ++ [y], found.length + 1, _, _, _, _, μ3, ⟨⟨by simp, rfl, rfl, rfl, rfl⟩, rfl⟩, ?_, ?_, by simp, by omega, hD3.mono (by omega), fun v h => hv v (List.mem_cons_of_mem _ h)⟩
            · rw [List.nodup_append]
              refine ⟨hn, by simp, fun a ha b hb => ?_⟩
              have : b = y := by simpa using hb
              subst this
              exact fun z => y1 (z ▸ ha)
            · intro a ha
              rcases List.mem_append.mp ha with h | h
              · exact hN a h
              · have : a = y := by simpa using h
                subst this
                exact y2
  · exact fun v hv => rangeV_t hv
end G06
namespace G06
open PySem PySem.Spec L2 Lf
def unS : T → Option Str
  | .str y => some y
  | _ => none
theorem unS_map (l : List Str) : (l.map T.str).filterMap unS = l := by
  induction l with
  | nil => rfl
  | cons a r ih => simp [unS, ih]
theorem perm_strs {ys : List T} {l : List Str} (h : ys.Perm (l.map T.str)) : ∃ zs : List Str, zs.Perm l ∧ ys = zs.map T.str := by
  refine ⟨ys.filterMap unS, ?_, ?_⟩
  · have := h.filterMap unS
    rw [unS_map] at this
    exact this
  · have hall : ∀ y ∈ ys, ∃ s, y = T.str s := fun y hy => by
      obtain ⟨s, _, rfl⟩ := List.mem_map.mp (h.mem_iff.mp hy)
      exact ⟨s, rfl⟩
    clear h
    induction ys with
    | nil => rfl
    | cons a r ih =>
      obtain ⟨s, rfl⟩ := hall a (by simp)
      have := ih fun y hy => hall y (List.mem_cons_of_mem _ hy)
      simp [unS]
      exact this
/-- a row of a web: a cell and its sources -/
abbrev Row := Str × List Str
def rowT (r : Row) : T := .tup [.str r.1, .lst (r.2.map T.str)]
/-- the rows of a web -/
structure Rows (rows : List Row) : Prop where
  ne : rows ≠ []
  nd : (rows.map (·.1)).Nodup
  nm : ∀ r ∈ rows, Nm r.1
  sn : ∀ r ∈ rows, r.2.Nodup
  si : ∀ r ∈ rows, ∀ s ∈ r.2, s ∈ rows.map (·.1)
theorem web_spec {μ : List Cell} {n k most many : Nat} {Q : Out Ret → List Cell → Prop} (h : PoolAt n k μ) (hm0 : 0 < most) (hm : most ≤ 16) (hy : many < 1000) (hk : k + 1000 < 1073741824)
    (hQ : ∀ rows : List Row, Rows rows → rows.length ≤ most → (∀ r ∈ rows, Nz r.1) → ∀ μ', Draw n μ (k + 1000) μ' → Q (.ok (.val (.t (.lst (rows.map rowT))))) μ') : Fw F__law_web [.loc n, .t (.int most), .t (.int many)] μ Q := by
  refine Fw_run ?_
  unfold s__law_web
  simp [startD]
  refine take_spec h (by omega) hm0 (by omega) fun d hd μ1 hD1 => ?_
  simp
  have e1 : (1 : Int) + (d : Int) = ((1 + d : Nat) : Int) := by omega
  rw [e1]
  refine names_spec hD1.2 (by omega) (by omega) fun ns hl hnd hnm μ2 hD2 => ?_
  simp [sizeLine_eq]
  refine Wp_forInv (fun vs s => ∃ (rows : List Row) (rest : List Str) (o5 : Option Lf.Slot) (μ' : List Cell), s = ⟨[some (.loc n), some (.t (.int most)), some (.t (.int many)), some (.t (.lst (ns.map T.str))), some (.own (.lst (rows.map rowT))), o5], μ'⟩ ∧ vs = rest.map (fun y => Val.t (.str y)) ∧ ns = rows.map (·.1) ++ rest ∧ (∀ r ∈ rows, r.2.Nodup ∧ ∀ s ∈ r.2, s ∈ ns) ∧ Draw n μ (k + 1 + 9 * (1 + d) + 18 * rows.length) μ')
    (fun _ _ _ => rfl) ?_ ?_ _ _ ⟨[], ns, none, μ2, rfl, by simp [List.map_map, Function.comp_def], by simp, by simp, (hD1.trans hD2).mono (by simp)⟩
  · rintro s ⟨rows, rest, o5, μ', rfl, e2, e3, hr, hD⟩
    have : rest = [] := by simpa using e2.symm
    subst this
    rw [List.append_nil] at e3
    have el : rows.length = 1 + d := by rw [← hl, e3]; simp
    simp [Own.tree]
    refine ⟨μ', trunc_len hD.len, hQ rows ⟨?_, by rw [← e3]; exact hnd, fun r hr' => ?_, fun r hr' => (hr r hr').1, fun r hr' s hs => by rw [← e3]; exact (hr r hr').2 s hs⟩ (by omega) (fun r hr' => (hnm _ (by rw [e3]; exact List.mem_map.mpr ⟨r, hr', rfl⟩)).2) μ' (hD.mono (by omega))⟩
    · intro z
      rw [z] at el
      simp at el
      omega
    · exact (hnm _ (by rw [e3]; exact List.mem_map.mpr ⟨r, hr', rfl⟩)).1
  · rintro v vs s ⟨rows, rest, o5, μ', rfl, e2, e3, hr, hD⟩
    cases rest with
    | nil => cases e2
    | cons y rest =>
      simp only [List.map_cons, List.cons.injEq] at e2
      obtain ⟨rfl, rfl⟩ := e2
      have el : rows.length + (rest.length + 1) = 1 + d := by rw [← hl, e3]; simp
      simp
      refine mixed_spec hD.2 (by simp; omega) (by simp; omega) fun ys hp μ3 hD3 => ?_
      obtain ⟨zs, hz, rfl⟩ := perm_strs hp
      simp [Wp_min2N]
      have e4 : (((min many ns.length : Nat) : Int)) + 1 = ((min many ns.length + 1 : Nat) : Int) := by omega
      rw [e4]
      refine take_spec hD3.2 (by simp; omega) (by omega) (by omega) fun i hi μ4 hD4 => ?_
      simp [sizeLine_eq]
      refine ⟨by omega, rows ++ [(y, zs.take i)], rest, _, μ4, ⟨⟨?_, rfl⟩, rfl⟩, rfl, by rw [e3]; simp, ?_, ?_⟩
      · simp [rowT]
      · intro a b hab
        rcases List.mem_append.mp hab with h | h
        · exact hr (a, b) h
        · have : a = y ∧ b = zs.take i := by simpa using h
          obtain ⟨rfl, rfl⟩ := this
          have hzn : zs.Nodup := hz.nodup_iff.mpr hnd
          exact ⟨hzn.sublist (List.take_sublist _ _), fun s hs => hz.mem_iff.mp (List.mem_of_mem_take hs)⟩
      · refine ((hD.trans hD3).trans hD4).mono ?_
        simp
        omega
end G06
namespace G06
open PySem PySem.Spec L2 Lf
def lB (c : Nat) : Bool := decide (97 ≤ c) && decide (c ≤ 122)
def nmB (x : Str) : Bool := decide (1 ≤ x.cps.size) && decide (x.cps.size ≤ 8) && x.cps.toList.all lB
theorem nmB_iff {x : Str} : nmB x = true ↔ Nm x := by
  unfold nmB Nm
  simp only [Bool.and_eq_true, decide_eq_true_eq, List.all_eq_true, and_assoc]
  constructor
  · rintro ⟨a, b, c⟩
    exact ⟨a, b, fun z hz => by have := c z hz; simpa [lB, isL] using this⟩
  · rintro ⟨a, b, c⟩
    exact ⟨a, b, fun z hz => by have := c z hz; simpa [lB, isL] using this⟩
theorem az26 : (Str.ofString "abcdefghijklmnopqrstuvwxyz").cps.toList = (List.range 26).map (97 + ·) := by decide +kernel
theorem in_az (c : Nat) : decide (c ∈ (Str.ofString "abcdefghijklmnopqrstuvwxyz").cps.toList) = lB c := by
  rw [az26]
  unfold lB
  rw [Bool.eq_iff_iff]
  simp
  constructor
  · rintro ⟨a, h1, h2⟩; omega
  · rintro ⟨h1, h2⟩; exact ⟨c - 97, by omega, by omega⟩
theorem is_list_L {μ : List Cell} {Q : Out Ret → List Cell → Prop} (xs : List T) (hQ : Q (.ok (.val (.t (.bl true)))) μ) : Fw F_is_list [.t (.lst xs)] μ Q := by
  refine Fw_run ?_
  unfold s_is_list
  simp [startD, isiB, hQ]
theorem is_list_T {μ : List Cell} {Q : Out Ret → List Cell → Prop} (xs : List T) (hQ : Q (.ok (.val (.t (.bl true)))) μ) : Fw F_is_list [.t (.tup xs)] μ Q := by
  refine Fw_run ?_
  unfold s_is_list
  simp [startD, isiB, hQ]
theorem Wp_inZ (c : Nat) (s : DSt) (Q : Out Val → DSt → Prop) : Wp (dInD false (.t (.str ⟨#[c]⟩)) (.t (.str (Str.ofString "abcdefghijklmnopqrstuvwxyz")))) s Q = Q (.ok (.t (.bl (lB c)))) s := Wp_some (by
  rw [← in_az]
  rfl)
theorem is_name_S {μ : List Cell} {Q : Out Ret → List Cell → Prop} {x : Str} (hl : x.length ≤ sizeLine) (hQ : Q (.ok (.val (.t (.bl (nmB x))))) μ) : Fw F_is_name [.t (.str x)] μ Q := by
  refine Fw_run ?_
  unfold s_is_name
  simp [startD, isiB, Wp_lenS hl]
  have hq : nmB x = (decide (1 ≤ x.cps.size) && decide (x.cps.size ≤ 8) && x.cps.toList.all lB) := rfl
  split
  · rename_i h1
    have h1 : 1 ≤ x.cps.size := by have : (1 : Int) ≤ (x.cps.size : Int) := h1; omega
    split
    · rename_i h2
      have h2 : x.cps.size ≤ 8 := by have : (x.cps.size : Int) ≤ 8 := h2; omega
      refine Wp_compA x.cps.toList (fun c => Val.t (.str ⟨#[c]⟩)) (fun c => .bl (lB c)) rfl rfl rfl (by
        rw [sizeLine_eq, Array.length_toList]
        omega) rfl ?_ ?_
      · intro c hc acc hacc
        simp [wipeD, Wp_inZ]
        exact hacc
      · rw [hq] at hQ
        simp only [h1, h2, decide_true, Bool.true_and] at hQ
        simp only [Bk_ok, Wp_keepL, Wp_bnd, Wp_ret, Wp_allM, Wp_backT, Sk_rt, Rk_rt, trunc_same]
        exact ⟨μ, rfl, hQ⟩
    · rename_i h2
      have h2 : ¬ x.cps.size ≤ 8 := by have : ¬ (x.cps.size : Int) ≤ 8 := h2; omega
      rw [hq] at hQ
      simp [h2] at hQ
      exact hQ
  · rename_i h1
    have h1 : ¬ 1 ≤ x.cps.size := by have : ¬ (1 : Int) ≤ (x.cps.size : Int) := h1; omega
    rw [hq] at hQ
    simp only [h1, decide_false, Bool.false_and] at hQ
    exact hQ
theorem is_name_O {μ : List Cell} {Q : Out Ret → List Cell → Prop} {x : T} {t : String} (ht : tagOf ⟨[some (.t x), none], μ⟩ (.t x) = some t) (hs : isiB t "str" = false) (hQ : Q (.ok (.val (.t (.bl false)))) μ) : Fw F_is_name [.t x] μ Q := by
  refine Fw_run ?_
  unfold s_is_name
  simp [startD, Wp_isi ht, hs, hQ]
theorem are_names_L {μ : List Cell} {Q : Out Ret → List Cell → Prop} {xs : List Str} (hl : xs.length < 1000) (hn : ∀ x ∈ xs, Nm x) (hd : xs.Nodup) (hQ : Q (.ok (.val (.t (.bl true)))) μ) : Fw F_are_names [.t (.lst (xs.map T.str))] μ Q := by
  refine Fw_run ?_
  unfold s_are_names
  simp [startD]
  refine is_list_L _ ?_
  simp
  refine Wp_compA xs (fun x => Val.t (.str x)) (fun _ => .bl true) rfl rfl (by simp [Function.comp_def]) (by rw [sizeLine_eq]; omega) rfl ?_ ?_
  · intro x hx acc hacc
    have nx := hn x hx
    simp [wipeD]
    refine is_name_S (by rw [sizeLine_eq]; have := nx.2.1; unfold Str.length; omega) ?_
    simp [nmB_iff.mpr nx, wipeD]
    exact hacc
  · simp only [Bk_ok, Wp_keepL, Wp_bnd, Wp_ret, Wp_allM]
    simp
    refine Wp_compA (List.range xs.length) (fun i => Val.t (.tup [.int (i : Nat), (xs.map T.str).getD i .non])) (fun _ => .bl true) rfl rfl (by simp [enumV]) (by rw [sizeLine_eq, List.length_range]; omega) rfl ?_ ?_
    · intro i hi acc hacc
      have hi : i < xs.length := by simpa using hi
      have ei : (xs.map T.str).getD i .non = .str xs[i] := by simp [List.getD, hi]
      rw [ei]
      simp [wipeD]
      have hni : xs[i] ∉ xs.take i := fun hm => by
        obtain ⟨j, hj, e⟩ := List.mem_iff_getElem.mp hm
        have hj2 : j < i := by rw [List.length_take] at hj; omega
        rw [List.getElem_take] at e
        exact (List.pairwise_iff_getElem.mp hd) j i (by omega) hi hj2 e
      rw [← List.map_take, Wp_inL]
      simp [hni]
      exact hacc
    · simp only [Bk_ok, Wp_keepL, Wp_bnd, Wp_ret, Wp_allM]
      simp
      have : ((List.range xs.length).all fun a => true) = true := by simp
      rw [this]
      exact hQ
/-! ### check -/
/-- v is a Web, or one that is being made; held by it are the rows -/
def HeldAt (v : Fv) (μ : List Cell) (rows : List Row) : Prop := ∀ δ, ∃ l g, insOf ⟨δ, μ⟩ v.val = some (("Web" : Str), l) ∧ look l ("held" : Str) = some g ∧ look l ("check" : Str) = none ∧ dcK ⟨δ, μ⟩ g.val = some (rows.map fun r => ((Sum.inr r.1 : Key), Fv.t (.tup (r.2.map T.str))))
def okB (rows : List Row) : T → Bool
  | .str y => nmB y && decide (y ∈ rows.map (·.1))
  | _ => false
/-- a thing that can be looked at -/
def gd : T → Prop
  | .str y => y.length ≤ sizeLine
  | .non => True
  | .bl _ => True
  | .int _ => True
  | .tup _ => True
  | .lst _ => True
  | _ => False
def isNmT : T → Bool
  | .str y => nmB y
  | _ => false
theorem is_name_gen {μ : List Cell} {Q : Out Ret → List Cell → Prop} {x : T} (hg : gd x) (hQ : Q (.ok (.val (.t (.bl (isNmT x))))) μ) : Fw F_is_name [.t x] μ Q := by
  cases x with
  | str y => exact is_name_S hg hQ
  | non => exact is_name_O rfl rfl hQ
  | bl b => exact is_name_O rfl rfl hQ
  | int b => exact is_name_O rfl rfl hQ
  | tup b => exact is_name_O rfl rfl hQ
  | lst b => exact is_name_O rfl rfl hQ
  | fro b => exact hg.elim
  | dic b => exact hg.elim
  | dit b => exact hg.elim
  | obj c b => exact hg.elim
theorem look_rows (y : Str) : ∀ rows : List Row, (look (rows.map fun r => ((Sum.inr r.1 : Key), Fv.t (.tup (r.2.map T.str)))) (Sum.inr y)).isSome = decide (y ∈ rows.map (·.1))
  | [] => rfl
  | r :: rows => by
    rw [List.map_cons]
    unfold look
    by_cases h : r.1 = y
    · rw [if_pos (by rw [h])]
      simp [h]
    · have h' : ¬ y = r.1 := fun z => h z.symm
      rw [if_neg (fun z => h (Sum.inr.inj z)), look_rows y rows]
      simp [h']
theorem Wp_inD {neg : Bool} {y : Str} {v : Val} {s : DSt} {rows : List Row} (h : dcK s v = some (rows.map fun r => ((Sum.inr r.1 : Key), Fv.t (.tup (r.2.map T.str))))) (Q : Out Val → DSt → Prop) :
    Wp (dInD neg (.t (.str y)) v) s Q = Q (.ok (.t (.bl (if neg then !decide (y ∈ rows.map (·.1)) else decide (y ∈ rows.map (·.1)))))) s := Wp_some (by
  simp only [dInD, h, keyT, look_rows])
theorem check_gen {v : Fv} {μ : List Cell} {rows : List Row} {Q : Out Ret → List Cell → Prop} (hH : HeldAt v μ rows) {c : T} {ts : List T} (hc : c = .lst ts ∨ c = .tup ts) (hg : ∀ t ∈ ts, gd t)
    (hQ : match ts.find? (fun t => !okB rows t) with | none => Q (.ok (.val (.t .non))) μ | some t => Q (.exc "UnknownCell" [("cell", t)]) μ) : Fw F_Web_check [v, .t c] μ Q := by
  refine Fw_run ?_
  unfold s_Web_check
  have key : ∀ (ts : List T) (o : Option Lf.Slot), (∀ t ∈ ts, gd t) → (match ts.find? (fun t => !okB rows t) with | none => Q (.ok (.val (.t .non))) μ | some t => Q (.exc "UnknownCell" [("cell", t)]) μ) →
      Wp (forL (put 2) (dSeq (dIf (dOr (dNot (dT (dCallV F_is_name (dCons (dVar 2) (Lf.ret []))))) (dTC (dInD true) (dVar 2) (dAt ["Web"] "held" (dVar 0))))
      (dSeq (dRaise "UnknownCell" "cell" (dVar 2))
      (Lf.ret .nx))
      (Lf.ret .nx))
    (Lf.ret .nx)) (fun _ => true) (ts.map Val.t)) ⟨[some v.slot, some (.t c), o], μ⟩ (Sk (Lf.ret .nx) (Rk μ Q)) := by
    intro ts
    induction ts with
    | nil =>
      intro o _ hQ
      refine Wp_forNil rfl ?_
      simp
      exact hQ
    | cons t ts ih =>
      intro o hg hQ
      rw [List.map_cons]
      refine Wp_forCons rfl ?_
      simp
      refine is_name_gen (hg t (by simp)) ?_
      cases hb : isNmT t with
      | false =>
        have hk : okB rows t = false := by
          cases t <;> first | rfl | (simp [okB]; simp [isNmT] at hb; intro z; rw [hb] at z; cases z)
        simp
        rw [List.find?_cons_of_pos (by simp [hk])] at hQ
        exact hQ
      | true =>
        cases t with
        | str y =>
          have hb : nmB y = true := hb
          obtain ⟨l, g, h1, h2, h3, h4⟩ := hH [some v.slot, some (.t c), some (.t (.str y))]
          simp
          rw [Wp_dVarF rfl, Bk_ok, Wp_attr h1 (by decide) h2, Bk_ok, Wp_inD h4]
          by_cases hy : y ∈ rows.map (·.1)
          · simp [hy]
            refine ih _ (fun t ht => hg t (List.mem_cons_of_mem _ ht)) ?_
            rw [List.find?_cons_of_neg (by simp [okB, hb, hy])] at hQ
            exact hQ
          · simp [hy]
            rw [List.find?_cons_of_pos (by simp [okB, hy])] at hQ
            exact hQ
        | _ => cases hb
  rcases hc with rfl | rfl
  · simp [startD]
    exact key ts none hg hQ
  · simp [startD]
    exact key ts none hg hQ
end G06
namespace G06
open PySem PySem.Spec L2 Lf
section
variable {μ : List Cell} {a b x : Cell} {l : List Cell}
theorem get0 : (μ ++ a :: l)[μ.length]? = some a := by simp
theorem get1 : (μ ++ a :: b :: l)[μ.length + 1]? = some b := by simp
theorem set0 : (μ ++ a :: l).set μ.length x = μ ++ x :: l := by simp
theorem set1 : (μ ++ a :: b :: l).set (μ.length + 1) x = μ ++ a :: x :: l := by
  rw [List.set_append_right _ _ (by omega)]
  simp
end
def kvF (r : Row) : Key × Fv := (Sum.inr r.1, Fv.t (.tup (r.2.map T.str)))
def kvT (r : Row) : Key × T := (Sum.inr r.1, .tup (r.2.map T.str))
/-- a Web as data -/
def webT (rows : List Row) : T := .obj "Web" [("held", .dic (rows.map kvT)), ("cells", .tup (rows.map fun r => T.str r.1)), ("arrows", .tup (rows.flatMap fun r => r.2.map fun s => T.tup [.str s, .str r.1]))]
/-- the store while a Web is made -/
abbrev mk1 (μ : List Cell) (d : Cell) : List Cell := μ ++ [.ins "Web" [("held", .loc (μ.length + 1))], d]
theorem held_mk {μ : List Cell} {rows : List Row} {d : Cell} (hd : d = .dic false (rows.map kvF) ∨ d = .fz (.dic (rows.map kvT))) : HeldAt (.loc μ.length) (mk1 μ d) rows := by
  intro δ
  refine ⟨[("held", .loc (μ.length + 1))], .loc (μ.length + 1), ?_, rfl, rfl, ?_⟩
  · simp [insOf, mk1]
  · rcases hd with rfl | rfl
    · simp [dcK, mk1, kvF]
    · simp [dcK, mk1, kvT, List.map_map, Function.comp_def]
theorem dcK_mk {μ : List Cell} {rows : List Row} {d : Cell} {l : List (Str × Fv)} {δ : List (Option Lf.Slot)} (hd : d = .dic false (rows.map kvF) ∨ d = .fz (.dic (rows.map kvT))) : dcK ⟨δ, μ ++ [.ins "Web" l, d]⟩ (.loc (μ.length + 1)) = some (rows.map fun r => ((Sum.inr r.1 : Key), Fv.t (.tup (r.2.map T.str)))) := by
  rcases hd with rfl | rfl
  · simp [dcK, kvF]
  · simp [dcK, kvT, List.map_map, Function.comp_def]
theorem at_held {μ : List Cell} {d : Cell} {δ : List (Option Lf.Slot)} (Q : Out Val → DSt → Prop) : Wp (dAttr ["Web"] "held" (.loc μ.length)) ⟨δ, mk1 μ d⟩ Q = Q (.ok (.loc (μ.length + 1))) ⟨δ, mk1 μ d⟩ :=
  Wp_attr (cs := ["Web"]) (c := "Web") (f := "held") (v := .loc μ.length) (s := ⟨δ, mk1 μ d⟩) (l := [("held", .loc (μ.length + 1))]) (g := .loc (μ.length + 1)) (by simp [insOf, mk1]) (by decide) rfl Q
theorem put_new {rows : List Row} {r : Row} (h : r.1 ∉ rows.map (·.1)) : putA (rows.map kvF) (Sum.inr r.1) (Fv.t (.tup (r.2.map T.str))) = (rows ++ [r]).map kvF := by
  induction rows with
  | nil => rfl
  | cons q rows ih =>
    have h1 : ¬ q.1 = r.1 := fun z => h (by simp [z])
    have h2 : r.1 ∉ rows.map (·.1) := fun z => h (List.mem_cons_of_mem _ z)
    rw [List.map_cons]
    unfold putA
    show (if (Sum.inr q.1 : Key) = Sum.inr r.1 then _ else _) = _
    rw [if_neg (fun z => h1 (Sum.inr.inj z)), ih h2]
    rfl
theorem keys_ok {rows : List Row} (h : (rows.map (·.1)).Nodup) : okKeys (rows.map kvF) = true := by
  unfold okKeys
  rw [decide_eq_true_eq, List.map_map]
  have e : ((fun x : Key × Fv => x.1) ∘ kvF) = (Sum.inr ∘ fun r : Row => r.1) := rfl
  rw [e, ← List.map_map]
  exact List.Pairwise.map (R := (· ≠ ·)) (S := (· ≠ ·)) _ (fun a b hab z => hab (Sum.inr.inj z)) h
theorem kvF_eq (rows : List Row) : rows.map kvF = (rows.map kvT).map fun p => (p.1, Fv.t p.2) := by
  rw [List.map_map]
  rfl
theorem keys_eq (rows : List Row) : keysV (rows.map kvT) = rows.map fun r => Val.t (.str r.1) := by
  unfold keysV
  rw [List.map_map]
  rfl
theorem look_in {rows : List Row} (hn : (rows.map (·.1)).Nodup) {r : Row} (hr : r ∈ rows) : look (rows.map fun r => ((Sum.inr r.1 : Key), Fv.t (.tup (r.2.map T.str)))) (Sum.inr r.1) = some (Fv.t (.tup (r.2.map T.str))) := by
  induction rows with
  | nil => cases hr
  | cons q rows ih =>
    rw [List.map_cons] at hn ⊢
    unfold look
    rcases List.mem_cons.mp hr with rfl | h
    · rw [if_pos rfl]
    · have hne : ¬ q.1 = r.1 := fun z => (List.nodup_cons.mp hn).1 (by rw [z]; exact List.mem_map.mpr ⟨r, h, rfl⟩)
      rw [if_neg (fun z => hne (Sum.inr.inj z))]
      exact ih (List.nodup_cons.mp hn).2 h
def IvC (μ : List Cell) (rows : List Row) (vs : List Val) (s : DSt) : Prop := ∃ (rest : List Row) (o2 o3 : Option Lf.Slot) (x4 : Option T), s = ⟨[some (.loc μ.length), some (.t (.lst (rows.map rowT))), o2, o3, x4.map Lf.Slot.t, none], mk1 μ (.fz (.dic (rows.map kvT)))⟩ ∧ vs = rest.map (fun r => Val.t (.str r.1)) ∧ ∀ r ∈ rest, r ∈ rows
abbrev cellsT (rows : List Row) : T := .tup (rows.map fun r => T.str r.1)
abbrev mk2 (μ : List Cell) (rows : List Row) : List Cell := μ ++ [.ins "Web" [("held", .loc (μ.length + 1)), ("cells", .t (cellsT rows))], .fz (.dic (rows.map kvT))]
/-- the arrows told so far -/
def arrT (rows : List Row) : List T := rows.flatMap fun r => r.2.map fun s => T.tup [.str s, .str r.1]
def IvA (μ : List Cell) (rows : List Row) (p2 p3 : Option Lf.Slot) (vs : List Val) (acc : List T) (s : DSt) : Prop := ∃ pre rest : List Row, s = ⟨[some (.loc μ.length), some (.t (.lst (rows.map rowT))), p2, p3, none, none], mk2 μ rows⟩ ∧ rows = pre ++ rest ∧ vs = rest.map (fun r => Val.t (.str r.1)) ∧ acc = arrT pre
def IvB (μ : List Cell) (rows : List Row) (p2 p3 : Option Lf.Slot) (r : Row) (acc0 : List T) (vs : List Val) (acc : List T) (s : DSt) : Prop := ∃ pre rest : List Str, s = ⟨[some (.loc μ.length), some (.t (.lst (rows.map rowT))), p2, p3, some (.t (.str r.1)), none], mk2 μ rows⟩ ∧ r.2 = pre ++ rest ∧ vs = rest.map (fun y => Val.t (.str y)) ∧ acc = acc0 ++ pre.map (fun y => T.tup [.str y, .str r.1])
theorem arr_len (rows : List Row) (hs : ∀ r ∈ rows, r.2.length < 1000) : (arrT rows).length ≤ 1000 * rows.length := by
  induction rows with
  | nil => simp [arrT]
  | cons r rows ih =>
    have h1 := hs r (by simp)
    have h2 := ih fun q hq => hs q (List.mem_cons_of_mem _ hq)
    unfold arrT at h2 ⊢
    rw [List.flatMap_cons, List.length_append, List.length_map, List.length_cons]
    omega
/-- ahead of a turn of the loop over the rows -/
def IvI (μ : List Cell) (rows : List Row) (vs : List Val) (s : DSt) : Prop := ∃ (pre rest : List Row) (o2 o3 : Option Lf.Slot), s = ⟨[some (.loc μ.length), some (.t (.lst (rows.map rowT))), o2, o3, none, none], mk1 μ (.dic false (pre.map kvF))⟩ ∧ rows = pre ++ rest ∧ vs = (enumV (rows.map rowT)).drop pre.length
theorem init_spec {μ : List Cell} {rows : List Row} {Q : Out Ret → List Cell → Prop} (hR : Rows rows) (hl : rows.length < 1000) (hs : ∀ r ∈ rows, r.2.length < 1000)
    (hQ : Q (.ok (.val (.t .non))) (μ ++ [.ins "Web" [("held", .loc (μ.length + 1)), ("cells", .t (.tup (rows.map fun r => T.str r.1))), ("arrows", .t (.tup (rows.flatMap fun r => r.2.map fun s => T.tup [.str s, .str r.1])))], .fz (.dic (rows.map kvT))])) :
    Fw F_Web_init [.loc μ.length, .t (.lst (rows.map rowT))] (μ ++ [.ins "Web" []]) Q := by
  refine Fw_run ?_
  unfold s_Web_init
  simp [startD]
  refine is_list_L _ ?_
  have hne : ¬ ((rows.length : Int) = 0) := by
    have := hR.ne
    have : rows.length ≠ 0 := fun z => this (List.eq_nil_of_length_eq_zero z)
    omega
  simp only [Ck_eq, Bk_ok, Wp_retVv, Fv_val_t, Wp_asBl, Wp_ret, Bool.not_true, Ik_ok, Bool.false_eq_true, if_false]
  have hne' : rows ≠ [] := hR.ne
  simp [hne']
  have e1 : (μ ++ [Cell.ins "Web" [], (Own.dic false []).cell])[μ.length]? = some (Cell.ins "Web" []) := get0
  rw [Wp_setF e1 (by decide) (by simp)]
  simp [set0]
  refine Wp_forInv (IvI μ rows) (fun _ _ _ => rfl) ?_ ?_ _ _ ⟨[], rows, none, none, rfl, rfl, rfl⟩
  · rintro s ⟨pre, rest, o2, o3, rfl, er, ev⟩
    have hrest : rest = [] := by
      have h1 : (enumV (rows.map rowT)).length ≤ pre.length := by
        have := congrArg List.length ev
        simp at this
        omega
      have h2 : (enumV (rows.map rowT)).length = rows.length := by simp [enumV]
      rw [h2, er, List.length_append] at h1
      exact List.eq_nil_of_length_eq_zero (by omega)
    subst hrest
    rw [List.append_nil] at er
    subst er
    simp [at_held]
    have eD : (mk1 μ (.dic false (rows.map kvF)))[μ.length + 1]? = some (.dic false ((rows.map kvT).map fun p => (p.1, Fv.t p.2))) := by rw [← kvF_eq]; exact get1
    rw [Wp_stillC eD]
    have eS : (mk1 μ (.dic false (rows.map kvF))).set (μ.length + 1) (.fz (.dic (rows.map kvT))) = mk1 μ (.fz (.dic (rows.map kvT))) := set1
    rw [eS, Bk_ok, keys_eq]
    refine Wp_forInv (IvC μ rows) (fun _ _ _ => rfl) ?_ ?_ _ _ ⟨rows, o2, o3, none, rfl, rfl, fun r h => h⟩
    · rintro s ⟨rest, p2, p3, p4, rfl, _, _⟩
      simp [at_held]
      rw [Wp_tupD (dcK_mk (rows := rows) (.inr rfl))]
      have e0 : (mk1 μ (.fz (.dic (rows.map kvT))))[μ.length]? = some (.ins "Web" [("held", .loc (μ.length + 1))]) := get0
      have eC : (List.map (fun p : Key × Fv => keyTree p.1) (rows.map fun r => ((Sum.inr r.1 : Key), Fv.t (.tup (r.2.map T.str))))) = rows.map fun r => T.str r.1 := by
        rw [List.map_map]
        rfl
      rw [eC]
      simp
      rw [Wp_setF e0 (by decide) (by simp)]
      have eS2 : ∀ x, (mk1 μ (.fz (.dic (rows.map kvT)))).set μ.length x = μ ++ [x, .fz (.dic (rows.map kvT))] := fun x => set0
      rw [eS2]
      have eM : μ ++ [Cell.ins "Web" (putA [(("held" : Str), Fv.loc (μ.length + 1))] "cells" (Fv.t (T.tup (rows.map fun r => T.str r.1)))), .fz (.dic (rows.map kvT))] = mk2 μ rows := rfl
      rw [eM]
      have eI : ∀ δ, insOf ⟨δ, mk2 μ rows⟩ (.loc μ.length) = some (("Web" : Str), ([("held", .loc (μ.length + 1)), ("cells", .t (cellsT rows))] : List (Str × Fv))) := fun δ => by simp [insOf, mk2]
      simp
      rw [Wp_attr (eI _) (by decide) (g := .t (cellsT rows)) rfl]
      simp
      refine Wp_comp2 (IvA μ rows p2 p3) (by cases p4 <;> rfl) (fun _ _ _ _ => rfl) ⟨[], rows, by cases p4 <;> rfl, rfl, by simp [List.map_map, Function.comp_def], rfl⟩ ?_ ?_
      · rintro v vs acc s ⟨pre, rest, rfl, er2, evs, rfl⟩
        cases rest with
        | nil => cases evs
        | cons r rest =>
          rw [List.map_cons] at evs
          obtain ⟨rfl, rfl⟩ := List.cons.inj evs
          have hr : r ∈ rows := by rw [er2]; simp
          simp
          rw [Wp_attr (eI _) (by decide) (g := .loc (μ.length + 1)) rfl]
          simp
          rw [Wp_ixD (dcK_mk (rows := rows) (.inr rfl)) rfl (look_in hR.nd hr)]
          simp
          have step : ∀ v rr acc s, IvB μ rows p2 p3 r (arrT pre) (v :: rr) acc s → Wp (put 5 v) s (Bk (fun _ => Lf.ret true) (Ek acc (dTup (dCons (dVar 5) (dCons (dVar 4) (Lf.ret [])))) fun acc' s' => IvB μ rows p2 p3 r (arrT pre) rr acc' { s' with δ := wipeD s'.δ [5] })) := by
            rintro v vs acc s ⟨pr, rs, rfl, e3, e4, rfl⟩
            cases rs with
            | nil => cases e4
            | cons y rs =>
              rw [List.map_cons] at e4
              obtain ⟨rfl, rfl⟩ := List.cons.inj e4
              have hpl : pre.length ≤ rows.length := by rw [er2]; simp
              have hal := arr_len pre fun q hq => hs q (by rw [er2]; simp [hq])
              have hrl := hs r hr
              rw [e3] at hrl
              simp at hrl
              simp [sizeLine_eq]
              refine ⟨by omega, pr ++ [y], rs, rfl, by rw [e3]; simp, rfl, by simp⟩
          obtain ⟨ys, s3, c1, c2⟩ := compL_inv (IvB μ rows p2 p3 r (arrT pre)) (vs := [5]) (g := put 5) (t := Lf.ret true) (e := dTup (dCons (dVar 5) (dCons (dVar 4) (Lf.ret [])))) (chk := fun _ => true) (fun _ _ _ _ => rfl) step (r.2.map (Val.t ∘ T.str)) (arrT pre) ⟨[some (.loc μ.length), some (.t (.lst (rows.map rowT))), p2, p3, some (.t (.str r.1)), none], mk2 μ rows⟩ ⟨[], r.2, rfl, rfl, rfl, by simp⟩
          refine ⟨ys, s3, c1, ?_⟩
          obtain ⟨pr, rs, rfl, e3, e4, rfl⟩ := c2
          have : rs = [] := by simpa using e4.symm
          subst this
          rw [List.append_nil] at e3
          refine ⟨pre ++ [r], rest, rfl, by rw [er2]; simp, rfl, ?_⟩
          unfold arrT
          rw [List.flatMap_append, ← e3]
          simp
      · rintro ys s2 ⟨pre, rest, rfl, er2, evs, rfl⟩
        have hrest : rest = [] := by simpa using evs.symm
        subst hrest
        rw [List.append_nil] at er2
        subst er2
        simp [backD]
        have e0' : (mk2 μ rows)[μ.length]? = some (.ins "Web" [("held", .loc (μ.length + 1)), ("cells", .t (cellsT rows))]) := get0
        rw [Wp_setF e0' (by decide) (by simp)]
        have eS3 : ∀ x, (mk2 μ rows).set μ.length x = μ ++ [x, .fz (.dic (rows.map kvT))] := fun x => set0
        rw [eS3]
        simp
        refine ⟨_, trunc_new ?_, hQ⟩
        intro z
        have z2 := congrArg (fun l : List Cell => l[μ.length]?) z
        simp at z2
        have z3 : putA [(("held" : Str), Fv.loc (μ.length + 1)), ("cells", Fv.t (cellsT rows))] "arrows" (Fv.t (T.tup (arrT rows))) = ([("held", Fv.loc (μ.length + 1)), ("cells", Fv.t (cellsT rows)), ("arrows", Fv.t (T.tup (arrT rows)))] : List (Str × Fv)) := rfl
        rw [z3] at z2
        cases z2
    · rintro v vs s ⟨rest, p2, p3, p4, rfl, evs, hin⟩
      cases rest with
      | nil => cases evs
      | cons r rest =>
        rw [List.map_cons] at evs
        obtain ⟨rfl, rfl⟩ := List.cons.inj evs
        have hr : r ∈ rows := hin r (by simp)
        have hH : HeldAt (.loc μ.length) (mk1 μ (.fz (.dic (rows.map kvT)))) rows := held_mk (.inr rfl)
        simp
        rw [Wp_mcK (l := [("held", .loc (μ.length + 1))]) (by simp [insOf, mk1]) rfl]
        simp [at_held]
        rw [Wp_ixD (dcK_mk (rows := rows) (.inr rfl)) rfl (look_in hR.nd hr)]
        simp
        refine check_gen hH (.inr rfl) (fun t ht => ?_) ?_
        · obtain ⟨y, hy, rfl⟩ := List.mem_map.mp ht
          obtain ⟨q, hq, e⟩ := List.mem_map.mp (hR.si r hr y hy)
          have := (hR.nm q hq).2.1
          rw [e] at this
          show y.length ≤ sizeLine
          rw [sizeLine_eq]
          unfold Str.length
          omega
        · have hf : (r.2.map T.str).find? (fun t => !okB rows t) = none := by
            rw [List.find?_eq_none]
            intro t ht
            obtain ⟨y, hy, rfl⟩ := List.mem_map.mp ht
            have h1 := hR.si r hr y hy
            obtain ⟨q, hq, e⟩ := List.mem_map.mp h1
            have h2 := nmB_iff.mpr (hR.nm q hq)
            rw [e] at h2
            simp only [okB, h2, Bool.true_and, decide_eq_true h1]
            decide
          rw [hf]
          simp
          exact ⟨rest, _, _, some _, rfl, rfl, fun q hq => hin q (List.mem_cons_of_mem _ hq)⟩
  · rintro v vs s ⟨pre, rest, o2, o3, rfl, er, ev⟩
    have hlen : (enumV (rows.map rowT)).length = rows.length := by simp [enumV]
    cases rest with
    | nil =>
      have h2 := congrArg List.length ev
      rw [List.length_drop, hlen, er] at h2
      simp at h2
    | cons r rest =>
      have hlt : pre.length < (enumV (rows.map rowT)).length := by rw [hlen, er]; simp
      rw [List.drop_eq_getElem_cons hlt] at ev
      obtain ⟨rfl, rfl⟩ := List.cons.inj ev
      have eg : (enumV (rows.map rowT))[pre.length] = Val.t (.tup [.int (pre.length : Nat), rowT r]) := by
        simp [enumV, List.getD, er]
      rw [eg]
      have hmem : r ∈ rows := by rw [er]; simp
      have hnm := hR.nm r hmem
      have hpre : r.1 ∉ pre.map (·.1) := fun z => by
        have := hR.nd
        rw [er, List.map_append, List.nodup_append] at this
        exact this.2.2 _ z _ (by simp) rfl
      have hprend : (pre.map (·.1)).Nodup := by
        have := hR.nd
        rw [er, List.map_append, List.nodup_append] at this
        exact this.1
      have i0 : atI [T.str r.1, T.lst (r.2.map T.str)] 0 = some (T.str r.1) := rfl
      have i1 : atI [T.str r.1, T.lst (r.2.map T.str)] 1 = some (T.lst (r.2.map T.str)) := rfl
      simp [rowT]
      refine is_list_T _ ?_
      simp [Wp_ixU i0]
      refine is_name_S (by rw [sizeLine_eq]; have := hnm.2.1; unfold Str.length; omega) ?_
      have hH : HeldAt (.loc μ.length) (mk1 μ (.dic false (pre.map kvF))) pre := held_mk (.inl rfl)
      simp [nmB_iff.mpr hnm, Wp_ixU i0, at_held]
      rw [Wp_inD (rows := pre) (dcK_mk (.inl rfl))]
      simp [hpre, Wp_ixU i1]
      refine are_names_L (hs r hmem) (fun y hy => ?_) (hR.sn r hmem) ?_
      · obtain ⟨q, hq, e⟩ := List.mem_map.mp (hR.si r hmem y hy)
        rw [← e]
        exact hR.nm q hq
      · simp [Wp_ixU i1, Wp_ixU i0, at_held]
        have eD : (mk1 μ (.dic false (pre.map kvF)))[μ.length + 1]? = some (.dic false (pre.map kvF)) := get1
        rw [Wp_setD eD rfl (keys_ok hprend) (by rw [sizeLine_eq, List.length_map]; rw [er, List.length_append] at hl; omega)]
        simp only [Bk_ok, Wp_ret, Sk_nx, Lk_nx]
        have eS : (mk1 μ (.dic false (pre.map kvF))).set (μ.length + 1) (.dic false ((pre ++ [r]).map kvF)) = mk1 μ (.dic false ((pre ++ [r]).map kvF)) := set1
        rw [put_new hpre, eS]
        exact ⟨pre ++ [r], rest, _, _, rfl, by rw [er]; simp, by simp⟩
end G06
namespace G06
open PySem PySem.Spec L2 Lf
theorem web_make {μ : List Cell} {δ : List (Option Lf.Slot)} {rows : List Row} {Q : Out Val → DSt → Prop} (hR : Rows rows) (hl : rows.length < 1000) (hs : ∀ r ∈ rows, r.2.length < 1000) (hQ : Q (.ok (.t (webT rows))) ⟨δ, μ⟩) :
    Wp (mkObj "Web" F_Web_init [.t (.lst (rows.map rowT))]) ⟨δ, μ⟩ Q := by
  refine Wp_mkObj (d := "Web") (init_spec hR hl hs ?_)
  refine ⟨_, _, _, rfl, rfl, ?_, hQ⟩
  have hlt : ¬ (μ.length + 1 < μ.length) := by omega
  simp [thawF, thawC, hlt]
theorem held_web {μ : List Cell} {rows : List Row} : HeldAt (.t (webT rows)) μ rows := by
  intro δ
  refine ⟨_, .t (.dic (rows.map kvT)), rfl, rfl, rfl, ?_⟩
  show some ((rows.map kvT).map fun p => (p.1, Fv.t p.2)) = _
  rw [List.map_map]
  rfl
theorem web_cells {rows : List Row} {s : DSt} (Q : Out Val → DSt → Prop) : Wp (dAttr ["Web"] "cells" (.t (webT rows))) s Q = Q (.ok (.t (cellsT rows))) s := Wp_attr (c := "Web") (g := .t (cellsT rows)) rfl (by decide) rfl Q
theorem web_held {rows : List Row} {s : DSt} (Q : Out Val → DSt → Prop) : Wp (dAttr ["Web"] "held" (.t (webT rows))) s Q = Q (.ok (.t (.dic (rows.map kvT)))) s := Wp_attr (c := "Web") (g := .t (.dic (rows.map kvT))) rfl (by decide) rfl Q
theorem dcK_web {rows : List Row} {s : DSt} : dcK s (.t (.dic (rows.map kvT))) = some (rows.map fun r => ((Sum.inr r.1 : Key), Fv.t (.tup (r.2.map T.str)))) := by
  show some ((rows.map kvT).map fun p => (p.1, Fv.t p.2)) = _
  rw [List.map_map]
  rfl
theorem check_ok {μ : List Cell} {rows : List Row} {Q : Out Ret → List Cell → Prop} (hR : Rows rows) {c : T} {ys : List Str} (hc : c = .lst (ys.map T.str) ∨ c = .tup (ys.map T.str)) (hy : ∀ y ∈ ys, y ∈ rows.map (·.1)) (hQ : Q (.ok (.val (.t .non))) μ) : Fw F_Web_check [.t (webT rows), .t c] μ Q := by
  refine check_gen held_web hc (fun t ht => ?_) ?_
  · obtain ⟨y, hy', rfl⟩ := List.mem_map.mp ht
    obtain ⟨q, hq, e⟩ := List.mem_map.mp (hy y hy')
    have := (hR.nm q hq).2.1
    rw [e] at this
    show y.length ≤ sizeLine
    rw [sizeLine_eq]
    unfold Str.length
    omega
  · have hf : (ys.map T.str).find? (fun t => !okB rows t) = none := by
      rw [List.find?_eq_none]
      intro t ht
      obtain ⟨y, hy', rfl⟩ := List.mem_map.mp ht
      have h1 := hy y hy'
      obtain ⟨q, hq, e⟩ := List.mem_map.mp h1
      have h2 := nmB_iff.mpr (hR.nm q hq)
      rw [e] at h2
      simp only [okB, h2, Bool.true_and, decide_eq_true h1]
      decide
    rw [hf]
    exact hQ
theorem sources_spec {μ : List Cell} {rows : List Row} {Q : Out Ret → List Cell → Prop} (hR : Rows rows) {r : Row} (hr : r ∈ rows) (hQ : Q (.ok (.val (.t (.tup (r.2.map T.str))))) μ) : Fw F_Web_sources [.t (webT rows), .t (.str r.1)] μ Q := by
  refine Fw_run ?_
  unfold s_Web_sources
  simp [startD]
  rw [Wp_mcK (l := _) rfl rfl]
  simp [sizeLine_eq]
  refine check_ok (ys := [r.1]) hR (.inl rfl) (by simp; exact ⟨_, hr⟩) ?_
  simp [web_held]
  rw [Wp_ixD dcK_web rfl (look_in hR.nd hr)]
  simp [hQ]
end G06
namespace G06
open PySem PySem.Spec L2 Lf
/-! ### numbers of kinds, versions, histories -/
abbrev PK := Str × Option (List Nat)
def kof (ks : List PK) (k : PK) : Nat × List PK := if k ∈ ks then (ks.idxOf k, ks) else (ks.length, ks ++ [k])
abbrev Vs := List (Str × List Nat)
def vget : Vs → Str → List Nat
  | [], _ => []
  | (d, l) :: r, c => if d = c then l else vget r c
def vadd : Vs → Str → Nat → Vs
  | [], _, _ => []
  | (d, l) :: r, c, k => if d = c then (d, l ++ [k]) :: r else (d, l) :: vadd r c k
abbrev Stp := Nat × Str × Nat × List Nat
abbrev LS := List PK × List Stp × List (Str × Nat)
abbrev HS := List PK × Vs × List Stp
def lastK (vs : Vs) (s : Str) : Nat := (vget vs s).getLastD 0
def rowS (a : Nat) (vs : Vs) (h : LS) (r : Row) : LS :=
  ((kof h.1 (r.1, some (r.2.map (lastK vs)))).2, h.2.1 ++ [(a, r.1, (vget vs r.1).length, r.2.map fun s => (vget vs s).length - 1)], h.2.2 ++ [(r.1, (kof h.1 (r.1, some (r.2.map (lastK vs)))).1)])
def addS (vs : Vs) (fr : List (Str × Nat)) : Vs := fr.foldl (fun v p => vadd v p.1 p.2) vs
def inL (lot : List Str) (W : List Row) : List Row := W.filter fun r => decide (r.1 ∈ lot)
def lotL (W : List Row) (a : Nat) (lot : List Str) (s : HS) : LS := (inL lot W).foldl (rowS a s.2.1) (s.1, s.2.2, [])
def lotS (W : List Row) (a : Nat) (lot : List Str) (s : HS) : HS := ((lotL W a lot s).1, addS s.2.1 (lotL W a lot s).2.2, (lotL W a lot s).2.1)
def begF (s : List PK × Vs) (r : Row) : List PK × Vs := ((kof s.1 (r.1, none)).2, s.2 ++ [(r.1, [(kof s.1 (r.1, none)).1])])
def lotsS (W : List Row) : Nat → List (List Str) → HS → HS
  | _, [], s => s
  | a, l :: r, s => lotsS W (a + 1) r (lotS W a l s)
def begS (W : List Row) (ks : List PK) : HS := ((W.foldl begF (ks, [])).1, (W.foldl begF (ks, [])).2, [])
def hist (W : List Row) (lots : List (List Str)) (ks : List PK) : HS := lotsS W 0 lots (begS W ks)
theorem lotS_mem {W : List Row} {a : Nat} {l m : List Str} (h : ∀ x, x ∈ l ↔ x ∈ m) (s : HS) : lotS W a l s = lotS W a m s := by
  have e : inL l W = inL m W := by
    unfold inL
    congr 1
    funext r
    simp only [h r.1]
  unfold lotS lotL
  rw [e]
theorem lotsS_snoc (W : List Row) : ∀ (ls : List (List Str)) (l : List Str) (a : Nat) (s : HS), lotsS W a (ls ++ [l]) s = lotS W (a + ls.length) l (lotsS W a ls s)
  | [], l, a, s => rfl
  | m :: r, l, a, s => by
    show lotsS W (a + 1) (r ++ [l]) _ = _
    rw [lotsS_snoc W r l (a + 1)]
    rw [List.length_cons, show a + 1 + r.length = a + (r.length + 1) by omega]
    rfl
/-! kof -/
theorem kof_pre (ks : List PK) (k : PK) : ks <+: (kof ks k).2 := by
  unfold kof
  split
  · exact List.prefix_refl _
  · exact List.prefix_append ..
theorem kof_nd {ks : List PK} (h : ks.Nodup) (k : PK) : (kof ks k).2.Nodup := by
  unfold kof
  split
  · exact h
  · rename_i hk
    rw [List.nodup_append]
    exact ⟨h, by simp, fun a ha b hb e => hk (by rw [show b = k by simpa using hb] at e; exact e ▸ ha)⟩
theorem kof_at (ks : List PK) (k : PK) : (kof ks k).2[(kof ks k).1]? = some k := by
  unfold kof
  split
  · rename_i h
    show ks[ks.idxOf k]? = some k
    rw [List.getElem?_eq_getElem (List.idxOf_lt_length_iff.mpr h), List.getElem_idxOf]
  · simp
theorem pre_at {α : Type} {l m : List α} (h : l <+: m) {i : Nat} {x : α} (e : l[i]? = some x) : m[i]? = some x := by
  obtain ⟨t, rfl⟩ := h
  rw [List.getElem?_append_left (List.getElem?_eq_some_iff.mp e).1]
  exact e
def Wf (ks : List PK) : Prop := ∀ (i : Nat) (c : Str) (ns : List Nat), ks[i]? = some (c, some ns) → ∀ x ∈ ns, x < i
theorem kof_wf {ks : List PK} (h : Wf ks) {c : Str} {ns : Option (List Nat)} (hn : ∀ l, ns = some l → ∀ x ∈ l, x < ks.length) : Wf (kof ks (c, ns)).2 := by
  unfold kof
  split
  · exact h
  · intro i d l e x hx
    have hi := (List.getElem?_eq_some_iff.mp e).1
    by_cases q : i < ks.length
    · rw [List.getElem?_append_left q] at e
      exact h i d l e x hx
    · have q2 : i = ks.length := by simp at hi; omega
      subst q2
      simp at e
      exact hn l e.2 x hx
theorem nd_at {α : Type} {l : List α} (h : l.Nodup) {i j : Nat} {x : α} (hi : l[i]? = some x) (hj : l[j]? = some x) : i = j :=
  (List.getElem?_inj (List.getElem?_eq_some_iff.mp hi).1 h).mp (hi.trans hj.symm)
/-! vget, vadd -/
theorem vget_add (vs : Vs) (c d : Str) (k : Nat) : vget (vadd vs c k) d = if d = c ∧ c ∈ vs.map (·.1) then vget vs d ++ [k] else vget vs d := by
  induction vs with
  | nil => simp [vadd, vget]
  | cons p r ih =>
    obtain ⟨e, l⟩ := p
    by_cases h1 : e = c
    · subst h1
      simp only [vadd, if_true, vget]
      by_cases h2 : e = d
      · subst h2
        simp
      · have h2' : ¬ d = e := fun z => h2 z.symm
        simp [h2, h2']
    · simp only [vadd, if_neg h1, vget]
      by_cases h2 : e = d
      · subst h2
        simp [h1]
      · have h1' : ¬ c = e := fun z => h1 z.symm
        simp only [if_neg h2, ih, List.map_cons, List.mem_cons, h1', false_or]
theorem vadd_keys (vs : Vs) (c : Str) (k : Nat) : (vadd vs c k).map (·.1) = vs.map (·.1) := by
  induction vs with
  | nil => rfl
  | cons p r ih =>
    obtain ⟨e, l⟩ := p
    simp only [vadd]
    split
    · rfl
    · simp [ih]
theorem addS_keys (vs : Vs) (fr : List (Str × Nat)) : (addS vs fr).map (·.1) = vs.map (·.1) := by
  induction fr generalizing vs with
  | nil => rfl
  | cons p r ih =>
    show (addS (vadd vs p.1 p.2) r).map (·.1) = _
    rw [ih, vadd_keys]
/-- what is added to a cell -/
def fget : List (Str × Nat) → Str → List Nat
  | [], _ => []
  | (d, k) :: r, c => if d = c then k :: fget r c else fget r c
theorem vget_addS (vs : Vs) (fr : List (Str × Nat)) (c : Str) (hc : c ∈ vs.map (·.1)) : vget (addS vs fr) c = vget vs c ++ fget fr c := by
  induction fr generalizing vs with
  | nil => simp [addS, fget]
  | cons p r ih =>
    obtain ⟨d, k⟩ := p
    show vget (addS (vadd vs d k) r) c = _
    rw [ih (vadd vs d k) (by rw [vadd_keys]; exact hc), vget_add]
    by_cases h : d = c
    · subst h
      simp [fget, hc]
    · have h' : ¬ c = d := fun z => h z.symm
      simp [fget, h, h']
theorem fget_nd {fr : List (Str × Nat)} (h : (fr.map (·.1)).Nodup) {c : Str} {k : Nat} (hm : (c, k) ∈ fr) : fget fr c = [k] := by
  induction fr with
  | nil => cases hm
  | cons p r ih =>
    obtain ⟨d, j⟩ := p
    rw [List.map_cons, List.nodup_cons] at h
    have no : ∀ {c : Str} {r : List (Str × Nat)}, c ∉ r.map (·.1) → fget r c = [] := by
      intro c r
      induction r with
      | nil => intro _; rfl
      | cons p r ih =>
        intro hn
        simp only [List.map_cons, List.mem_cons, not_or] at hn
        simp only [fget]
        rw [if_neg (fun z => hn.1 z.symm), ih hn.2]
    rcases List.mem_cons.mp hm with e | hm
    · cases e
      simp [fget, no h.1]
    · have : ¬ d = c := fun z => h.1 (z ▸ List.mem_map.mpr ⟨(c, k), hm, rfl⟩)
      simp only [fget, if_neg this]
      exact ih h.2 hm
theorem fget_no {fr : List (Str × Nat)} {c : Str} (h : c ∉ fr.map (·.1)) : fget fr c = [] := by
  induction fr with
  | nil => rfl
  | cons p r ih =>
    simp only [List.map_cons, List.mem_cons, not_or] at h
    simp only [fget]
    rw [if_neg (fun z => h.1 z.symm), ih h.2]
/-! ### what holds of a history -/
structure Ok (W : List Row) (ks : List PK) (vs : Vs) : Prop where
  nd : ks.Nodup
  wf : Wf ks
  keys : vs.map (·.1) = W.map (·.1)
  beg : ∀ r ∈ W, ∃ k, (vget vs r.1)[0]? = some k ∧ ks[k]? = some (r.1, none)
  rd : ∃ P : Str → Nat → Str → Nat, (∀ r ∈ W, ∀ n k, 0 < n → (vget vs r.1)[n]? = some k → ks[k]? = some (r.1, some (r.2.map fun s => ((vget vs s)[P r.1 n s]?).getD 0)) ∧ ∀ s ∈ r.2, P r.1 n s < (vget vs s).length) ∧
    ∀ r ∈ W, ∀ s ∈ r.2, ∀ n m, 0 < n → n ≤ m → m < (vget vs r.1).length → P r.1 n s ≤ P r.1 m s
/-- the web's sources are cells -/
def Src (W : List Row) : Prop := (W.map (·.1)).Nodup ∧ ∀ r ∈ W, ∀ s ∈ r.2, s ∈ W.map (·.1)
theorem row_of {W : List Row} {s : Str} (h : s ∈ W.map (·.1)) : ∃ r ∈ W, r.1 = s := by
  obtain ⟨r, h1, h2⟩ := List.mem_map.mp h
  exact ⟨r, h1, h2⟩
theorem row_uniq {W : List Row} (h : (W.map (·.1)).Nodup) {r q : Row} (hr : r ∈ W) (hq : q ∈ W) (e : r.1 = q.1) : r = q := by
  obtain ⟨i, hi⟩ := List.mem_iff_getElem?.mp hr
  obtain ⟨j, hj⟩ := List.mem_iff_getElem?.mp hq
  have hi' : (W.map (·.1))[i]? = some r.1 := by rw [List.getElem?_map, hi]; rfl
  have hj' : (W.map (·.1))[j]? = some r.1 := by rw [List.getElem?_map, hj, e]; rfl
  have := nd_at h hi' hj'
  subst this
  rw [hi] at hj
  exact Option.some.inj hj
theorem Ok.num {W : List Row} {ks : List PK} {vs : Vs} (h : Ok W ks vs) {r : Row} (hr : r ∈ W) {n k : Nat} (hk : (vget vs r.1)[n]? = some k) : k < ks.length := by
  cases n with
  | zero =>
    obtain ⟨k', h1, h2⟩ := h.beg r hr
    rw [h1] at hk
    cases hk
    exact (List.getElem?_eq_some_iff.mp h2).1
  | succ n =>
    obtain ⟨P, h1, _⟩ := h.rd
    exact (List.getElem?_eq_some_iff.mp (h1 r hr (n + 1) k (by omega) hk).1).1
theorem Ok.ne {W : List Row} {ks : List PK} {vs : Vs} (h : Ok W ks vs) {r : Row} (hr : r ∈ W) : 0 < (vget vs r.1).length := by
  obtain ⟨k, h1, _⟩ := h.beg r hr
  exact (List.getElem?_eq_some_iff.mp h1).1
theorem last_at {l : List Nat} (h : 0 < l.length) : l[l.length - 1]? = some (l.getLastD 0) := by
  rw [← List.getLast?_eq_getElem?, List.getLastD_eq_getLast?]
  cases e : l.getLast? with
  | none =>
    rw [List.getLast?_eq_none_iff] at e
    subst e
    simp at h
  | some x => rfl
theorem Ok.last {W : List Row} (hS : Src W) {ks : List PK} {vs : Vs} (h : Ok W ks vs) {r : Row} (hr : r ∈ W) : ∀ x ∈ r.2.map (lastK vs), x < ks.length := by
  intro x hx
  obtain ⟨s, hs, rfl⟩ := List.mem_map.mp hx
  obtain ⟨q, hq, rfl⟩ := row_of (hS.2 r hr s hs)
  exact h.num hq (last_at (h.ne hq))
/-- a cell's kinds: what is alike twice is alike between -/
theorem Ok.conv {W : List Row} (hS : Src W) {ks : List PK} {vs : Vs} (h : Ok W ks vs) : ∀ (K : Nat) (r : Row), r ∈ W → ∀ i m j : Nat, i ≤ m → m ≤ j → (vget vs r.1)[i]? = some K → (vget vs r.1)[j]? = some K → (vget vs r.1)[m]? = some K := by
  intro K
  induction K using Nat.strongRecOn with
  | ind K ih =>
    intro r hr i m j him hmj hi hj
    obtain ⟨P, h1, h2⟩ := h.rd
    have hjl := (List.getElem?_eq_some_iff.mp hj).1
    by_cases h0 : i = 0
    · subst h0
      obtain ⟨k, b1, b2⟩ := h.beg r hr
      rw [b1] at hi
      cases hi
      by_cases h3 : j = 0
      · have : m = 0 := by omega
        subst this
        exact b1
      · have := (h1 r hr j _ (by omega) hj).1
        rw [b2] at this
        cases this
    · have ei := h1 r hr i _ (by omega) hi
      have ej := h1 r hr j _ (by omega) hj
      have hml : m < (vget vs r.1).length := by omega
      have hm : (vget vs r.1)[m]? = some (vget vs r.1)[m] := List.getElem?_eq_getElem hml
      have em := h1 r hr m _ (by omega) hm
      have same : (r.2.map fun s => ((vget vs s)[P r.1 m s]?).getD 0) = r.2.map fun s => ((vget vs s)[P r.1 i s]?).getD 0 := by
        apply List.map_congr_left
        intro s hs
        have hij : ((vget vs s)[P r.1 i s]?).getD 0 = ((vget vs s)[P r.1 j s]?).getD 0 := by
          have e := ei.1.symm.trans ej.1
          have e2 : (r.2.map fun s => ((vget vs s)[P r.1 i s]?).getD 0) = r.2.map fun s => ((vget vs s)[P r.1 j s]?).getD 0 := by
            injection e with e
            injection e with _ e
            injection e
          exact List.map_inj_left.mp e2 s hs
        obtain ⟨q, hq, rfl⟩ := row_of (hS.2 r hr s hs)
        have li := ei.2 q.1 hs
        have lj := ej.2 q.1 hs
        have gi : (vget vs q.1)[P r.1 i q.1]? = some (vget vs q.1)[P r.1 i q.1] := List.getElem?_eq_getElem li
        have gj : (vget vs q.1)[P r.1 j q.1]? = some (vget vs q.1)[P r.1 j q.1] := List.getElem?_eq_getElem lj
        rw [gi, gj] at hij
        have hij : (vget vs q.1)[P r.1 i q.1] = (vget vs q.1)[P r.1 j q.1] := hij
        have hlt : (vget vs q.1)[P r.1 i q.1] < K := by
          refine h.wf K r.1 _ ei.1 _ ?_
          refine List.mem_map.mpr ⟨q.1, hs, ?_⟩
          rw [gi]
          rfl
        have := ih _ hlt q hq (P r.1 i q.1) (P r.1 m q.1) (P r.1 j q.1) (h2 r hr q.1 hs i m (by omega) him hml) (h2 r hr q.1 hs m j (by omega) hmj hjl) gi (by rw [gj, hij])
        rw [this, gi]
      have e3 := em.1
      rw [same] at e3
      have := nd_at h.nd e3 ei.1
      rw [hm, this]
/-! ### histories keep it -/
structure LI (ks : List PK) (vs : Vs) (pre : List Row) (h : LS) : Prop where
  px : ks <+: h.1
  nd : h.1.Nodup
  wf : Wf h.1
  fr : h.2.2.map (·.1) = pre.map (·.1)
  at' : ∀ r ∈ pre, ∃ k, (r.1, k) ∈ h.2.2 ∧ h.1[k]? = some (r.1, some (r.2.map (lastK vs)))
theorem LI.step {ks : List PK} {vs : Vs} {pre : List Row} {h : LS} (l : LI ks vs pre h) {a : Nat} {r : Row} (hr : ∀ x ∈ r.2.map (lastK vs), x < ks.length) : LI ks vs (pre ++ [r]) (rowS a vs h r) := by
  have p2 := kof_pre h.1 (r.1, some (r.2.map (lastK vs)))
  have hl := l.px.length_le
  refine ⟨l.px.trans p2, kof_nd l.nd _, kof_wf l.wf fun q e x hx => ?_, ?_, fun q hq => ?_⟩
  · cases e
    have := hr x hx
    omega
  · simp [rowS, l.fr]
  · rcases List.mem_append.mp hq with h1 | h1
    · obtain ⟨k, k1, k2⟩ := l.at' q h1
      exact ⟨k, List.mem_append.mpr (.inl k1), pre_at p2 k2⟩
    · have : q = r := by simpa using h1
      subst this
      exact ⟨_, List.mem_append.mpr (.inr (by simp)), kof_at _ _⟩
theorem LI.fold {ks : List PK} {vs : Vs} {a : Nat} : ∀ (rs pre : List Row) (h : LS), LI ks vs pre h → (∀ r ∈ rs, ∀ x ∈ r.2.map (lastK vs), x < ks.length) → LI ks vs (pre ++ rs) (rs.foldl (rowS a vs) h)
  | [], pre, h, l, _ => by simpa using l
  | r :: rs, pre, h, l, hr => by
    have := LI.fold (a := a) rs (pre ++ [r]) (rowS a vs h r) (l.step (hr r (by simp))) fun q hq => hr q (List.mem_cons_of_mem _ hq)
    rw [List.append_assoc] at this
    exact this
theorem lot_li {W : List Row} (hS : Src W) {s : HS} (h : Ok W s.1 s.2.1) (a : Nat) (lot : List Str) : LI s.1 s.2.1 (inL lot W) (lotL W a lot s) := by
  have := LI.fold (a := a) (inL lot W) [] (s.1, s.2.2, []) ⟨List.prefix_refl _, h.nd, h.wf, rfl, by simp⟩ fun r hr => h.last hS (List.mem_filter.mp hr).1
  rw [List.nil_append] at this
  exact this
theorem app_at {l m : List Nat} {i : Nat} {k : Nat} (h : l[i]? = some k) : (l ++ m)[i]? = some k := by
  rw [List.getElem?_append_left (List.getElem?_eq_some_iff.mp h).1]
  exact h
theorem lot_ok {W : List Row} (hS : Src W) {s : HS} (h : Ok W s.1 s.2.1) (a : Nat) (lot : List Str) : Ok W (lotS W a lot s).1 (lotS W a lot s).2.1 ∧ s.1 <+: (lotS W a lot s).1 ∧ ∀ r ∈ W, (r.1 ∈ lot → ∃ k, vget (lotS W a lot s).2.1 r.1 = vget s.2.1 r.1 ++ [k] ∧ (lotS W a lot s).1[k]? = some (r.1, some (r.2.map (lastK s.2.1)))) ∧ (r.1 ∉ lot → vget (lotS W a lot s).2.1 r.1 = vget s.2.1 r.1) := by
  have l := lot_li hS h a lot
  have ndF : (((lotL W a lot s).2.2).map (·.1)).Nodup := by
    rw [l.fr]
    exact hS.1.sublist (List.Sublist.map _ List.filter_sublist)
  have kin : ∀ r ∈ W, r.1 ∈ s.2.1.map (·.1) := fun r hr => by rw [h.keys]; exact List.mem_map.mpr ⟨r, hr, rfl⟩
  have gv : ∀ r ∈ W, vget (lotS W a lot s).2.1 r.1 = vget s.2.1 r.1 ++ fget (lotL W a lot s).2.2 r.1 := fun r hr => vget_addS _ _ _ (kin r hr)
  have gin : ∀ r ∈ W, r.1 ∈ lot → ∃ k, fget (lotL W a lot s).2.2 r.1 = [k] ∧ (lotL W a lot s).1[k]? = some (r.1, some (r.2.map (lastK s.2.1))) := fun r hr hl => by
    obtain ⟨k, k1, k2⟩ := l.at' r (List.mem_filter.mpr ⟨hr, by simpa using hl⟩)
    exact ⟨k, fget_nd ndF k1, k2⟩
  have gno : ∀ r ∈ W, r.1 ∉ lot → fget (lotL W a lot s).2.2 r.1 = [] := fun r hr hl => fget_no fun hm => by
    rw [l.fr] at hm
    obtain ⟨q, hq, e⟩ := List.mem_map.mp hm
    have := (List.mem_filter.mp hq).2
    rw [e] at this
    exact hl (by simpa using this)
  have old : ∀ {r : Row}, r ∈ W → ∀ {i k : Nat}, (vget s.2.1 r.1)[i]? = some k → (vget (lotS W a lot s).2.1 r.1)[i]? = some k := fun {r} hr {i k} e => by rw [gv r hr]; exact app_at e
  have len : ∀ r ∈ W, (vget s.2.1 r.1).length ≤ (vget (lotS W a lot s).2.1 r.1).length := fun r hr => by rw [gv r hr]; simp
  refine ⟨⟨l.nd, l.wf, by rw [show (lotS W a lot s).2.1 = addS s.2.1 (lotL W a lot s).2.2 from rfl, addS_keys]; exact h.keys, fun r hr => ?_, ?_⟩, l.px, fun r hr => ?_⟩
  · obtain ⟨k, h1, h2⟩ := h.beg r hr
    exact ⟨k, old hr h1, pre_at l.px h2⟩
  · obtain ⟨P, p1, p2⟩ := h.rd
    refine ⟨fun c n t => if n < (vget s.2.1 c).length then P c n t else (vget s.2.1 t).length - 1, fun r hr n k hn hk => ?_, fun r hr t ht n m hn hnm hm => ?_⟩
    · by_cases q : n < (vget s.2.1 r.1).length
      · simp only [q, if_true]
        have hk0 : (vget s.2.1 r.1)[n]? = some k := by
          rw [gv r hr, List.getElem?_append_left q] at hk
          exact hk
        obtain ⟨e1, e2⟩ := p1 r hr n k hn hk0
        refine ⟨?_, fun t ht => ?_⟩
        · rw [show (lotS W a lot s).1 = (lotL W a lot s).1 from rfl, pre_at l.px e1]
          congr 2
          congr 1
          apply List.map_congr_left
          intro t ht
          obtain ⟨u, hu, rfl⟩ := row_of (hS.2 r hr t ht)
          have g := List.getElem?_eq_getElem (e2 u.1 ht)
          rw [g, old hu g]
        · obtain ⟨u, hu, rfl⟩ := row_of (hS.2 r hr t ht)
          exact Nat.lt_of_lt_of_le (e2 u.1 ht) (len u hu)
      · simp only [q, if_false]
        rw [gv r hr, List.getElem?_append_right (by omega)] at hk
        by_cases hl : r.1 ∈ lot
        · obtain ⟨k', e1, e2⟩ := gin r hr hl
          rw [e1] at hk
          have hz : n - (vget s.2.1 r.1).length = 0 ∧ k' = k := by
            cases z : n - (vget s.2.1 r.1).length with
            | zero => rw [z] at hk; exact ⟨rfl, by simpa using hk⟩
            | succ y => rw [z] at hk; simp at hk
          obtain ⟨_, rfl⟩ := hz
          refine ⟨?_, fun t ht => ?_⟩
          · rw [show (lotS W a lot s).1 = (lotL W a lot s).1 from rfl, e2]
            congr 2
            congr 1
            apply List.map_congr_left
            intro t ht
            obtain ⟨u, hu, rfl⟩ := row_of (hS.2 r hr t ht)
            rw [old hu (last_at (h.ne hu))]
            rfl
          · obtain ⟨u, hu, rfl⟩ := row_of (hS.2 r hr t ht)
            have := len u hu
            have := h.ne hu
            omega
        · rw [gno r hr hl] at hk
          simp at hk
    · obtain ⟨u, hu, rfl⟩ := row_of (hS.2 r hr t ht)
      by_cases q : m < (vget s.2.1 r.1).length
      · have q' : n < (vget s.2.1 r.1).length := by omega
        simp only [q, q', if_true]
        exact p2 r hr u.1 ht n m hn hnm q
      · simp only [q, if_false]
        split
        · rename_i q'
          have := (p1 r hr n _ hn (List.getElem?_eq_getElem q')).2 u.1 ht
          omega
        · exact Nat.le_refl _
  · refine ⟨fun hl => ?_, fun hl => by rw [gv r hr, gno r hr hl, List.append_nil]⟩
    obtain ⟨k, e, e2⟩ := gin r hr hl
    exact ⟨k, by rw [gv r hr, e], e2⟩
theorem vget_snoc {vs : Vs} {c d : Str} {l : List Nat} (h : c ∉ vs.map (·.1)) : vget (vs ++ [(c, l)]) d = if d = c then l else vget vs d := by
  induction vs with
  | nil =>
    simp only [List.nil_append, vget]
    by_cases e : c = d
    · simp [e]
    · have e' : ¬ d = c := fun z => e z.symm
      simp [e, e']
  | cons p r ih =>
    obtain ⟨e, m⟩ := p
    simp only [List.map_cons, List.mem_cons, not_or] at h
    simp only [List.cons_append, vget]
    by_cases q : e = d
    · subst q
      have : ¬ e = c := fun z => h.1 z.symm
      simp [this]
    · simp only [if_neg q]
      exact ih h.2
structure BI (ks : List PK) (pre : List Row) (s : List PK × Vs) : Prop where
  px : ks <+: s.1
  nd : s.1.Nodup
  wf : Wf s.1
  keys : s.2.map (·.1) = pre.map (·.1)
  at' : ∀ r ∈ pre, ∃ k, vget s.2 r.1 = [k] ∧ s.1[k]? = some (r.1, none)
theorem BI.fold {ks : List PK} : ∀ (rs pre : List Row) (s : List PK × Vs), BI ks pre s → ((pre ++ rs).map (·.1)).Nodup → BI ks (pre ++ rs) (rs.foldl begF s)
  | [], pre, s, b, _ => by simpa using b
  | r :: rs, pre, s, b, hn => by
    have e : pre ++ r :: rs = pre ++ [r] ++ rs := by simp
    rw [e] at hn ⊢
    refine BI.fold rs (pre ++ [r]) (begF s r) ?_ hn
    have p2 := kof_pre s.1 (r.1, none)
    have hnr : r.1 ∉ s.2.map (·.1) := by
      rw [b.keys]
      intro hm
      rw [List.map_append, List.map_append, List.nodup_append] at hn
      exact (List.nodup_append.mp hn.1).2.2 r.1 hm r.1 (by simp) rfl
    refine ⟨b.px.trans p2, kof_nd b.nd _, kof_wf b.wf (fun l z => by cases z), ?_, fun q hq => ?_⟩
    · simp [begF, b.keys]
    · show ∃ k, vget (s.2 ++ [(r.1, [(kof s.1 (r.1, none)).1])]) q.1 = [k] ∧ _
      rw [vget_snoc hnr]
      by_cases e : q.1 = r.1
      · rw [if_pos e, e]
        exact ⟨_, rfl, kof_at _ _⟩
      · rw [if_neg e]
        rcases List.mem_append.mp hq with h1 | h1
        · obtain ⟨k, k1, k2⟩ := b.at' q h1
          exact ⟨k, k1, pre_at p2 k2⟩
        · have : q = r := by simpa using h1
          exact absurd (by rw [this]) e
theorem beg_ok {W : List Row} (hS : Src W) {ks : List PK} (nd : ks.Nodup) (wf : Wf ks) : Ok W (begS W ks).1 (begS W ks).2.1 := by
  have b := BI.fold (ks := ks) W [] (ks, []) ⟨List.prefix_refl _, nd, wf, rfl, by simp⟩ (by simpa using hS.1)
  rw [List.nil_append] at b
  refine ⟨b.nd, b.wf, b.keys, fun r hr => ?_, ⟨fun _ _ _ => 0, fun r hr n k hn hk => ?_, fun _ _ _ _ _ _ _ _ _ => Nat.le_refl _⟩⟩
  · obtain ⟨k, k1, k2⟩ := b.at' r hr
    exact ⟨k, by rw [show (begS W ks).2.1 = (W.foldl begF (ks, [])).2 from rfl, k1]; rfl, k2⟩
  · obtain ⟨k', k1, _⟩ := b.at' r hr
    rw [show (begS W ks).2.1 = (W.foldl begF (ks, [])).2 from rfl, k1] at hk
    have : n < 1 := by simpa using (List.getElem?_eq_some_iff.mp hk).1
    omega
theorem lots_ok {W : List Row} (hS : Src W) : ∀ (ls : List (List Str)) (a : Nat) (s : HS), Ok W s.1 s.2.1 → Ok W (lotsS W a ls s).1 (lotsS W a ls s).2.1
  | [], a, s, h => h
  | l :: r, a, s, h => lots_ok hS r (a + 1) _ (lot_ok hS h a l).1
theorem hist_ok {W : List Row} (hS : Src W) (lots : List (List Str)) {ks : List PK} (nd : ks.Nodup) (wf : Wf ks) : Ok W (hist W lots ks).1 (hist W lots ks).2.1 := lots_ok hS lots 0 _ (beg_ok hS nd wf)
theorem wf_nil : Wf [] := fun i c ns h => by simp at h
/-! ### what the law asks -/
def idxs (l : List Nat) : List Int := l.map fun k => ((l.idxOf k : Nat) : Int)
theorem idx_le : ∀ (l : List Nat) {x k : Nat}, l[k]? = some x → l.idxOf x ≤ k
  | [], x, k, h => by simp at h
  | a :: t, x, 0, h => by
    have : a = x := by simpa using h
    simp [this]
  | a :: t, x, k + 1, h => by
    have := idx_le t (x := x) (k := k) (by simpa using h)
    rw [List.idxOf_cons]
    cases a == x <;> simp <;> omega
theorem Ok.rise {W : List Row} (hS : Src W) {ks : List PK} {vs : Vs} (h : Ok W ks vs) {r : Row} (hr : r ∈ W) : (idxs (vget vs r.1)).Pairwise (· ≤ ·) := by
  unfold idxs
  rw [List.pairwise_iff_getElem]
  intro i j hi hj hij
  simp only [List.length_map] at hi hj
  simp only [List.getElem_map]
  generalize hl : vget vs r.1 = l at *
  have ci : l[i]? = some l[i] := List.getElem?_eq_getElem hi
  have cj : l[j]? = some l[j] := List.getElem?_eq_getElem hj
  have ai := List.idxOf_lt_length_iff.mpr (List.getElem_mem hi)
  have aj := List.idxOf_lt_length_iff.mpr (List.getElem_mem hj)
  have ej : l[l.idxOf l[j]]? = some l[j] := by rw [List.getElem?_eq_getElem aj, List.getElem_idxOf]
  have le_i : ∀ {x : Nat} {k : Nat}, l[k]? = some x → l.idxOf x ≤ k := fun hk => idx_le l hk
  have h1 := le_i ci
  by_cases q : i ≤ l.idxOf l[j]
  · omega
  · have := h.conv hS l[j] r hr (l.idxOf l[j]) i j (by omega) (by omega) (by rw [hl]; exact ej) (by rw [hl]; exact cj)
    rw [hl, ci] at this
    have e : l[i] = l[j] := Option.some.inj this
    rw [e]
    exact Int.le_refl _
/-- a cell renewed twice in a row -/
theorem again {W : List Row} (hS : Src W) {s : HS} (h : Ok W s.1 s.2.1) {r : Row} (hr : r ∈ W) (a b : Nat) :
    ∃ k1 k2, vget (lotS W b [r.1] (lotS W a [r.1] s)).2.1 r.1 = vget s.2.1 r.1 ++ [k1, k2] ∧ (r.1 ∉ r.2 → k1 = k2) ∧ (r.1 ∈ r.2 → k2 ∉ vget s.2.1 r.1 ++ [k1]) := by
  obtain ⟨o1, p1, g1⟩ := lot_ok hS h a [r.1]
  obtain ⟨o2, p2, g2⟩ := lot_ok hS o1 b [r.1]
  obtain ⟨k1, v1, e1⟩ := (g1 r hr).1 (by simp)
  obtain ⟨k2, v2, e2⟩ := (g2 r hr).1 (by simp)
  have v12 : vget (lotS W b [r.1] (lotS W a [r.1] s)).2.1 r.1 = vget s.2.1 r.1 ++ [k1, k2] := by rw [v2, v1]; simp
  refine ⟨k1, k2, v12, fun hn => ?_, fun hm hk => ?_⟩
  · have e : r.2.map (lastK (lotS W a [r.1] s).2.1) = r.2.map (lastK s.2.1) := by
      apply List.map_congr_left
      intro t ht
      obtain ⟨u, hu, rfl⟩ := row_of (hS.2 r hr t ht)
      have : u.1 ∉ [r.1] := fun z => hn (by rw [show u.1 = r.1 by simpa using z] at ht; exact ht)
      unfold lastK
      rw [(g1 u hu).2 this]
    rw [e] at e2
    exact nd_at o2.nd (pre_at p2 e1) e2
  · have hlt : k1 < k2 := by
      refine o2.wf k2 r.1 _ e2 k1 (List.mem_map.mpr ⟨r.1, hm, ?_⟩)
      unfold lastK
      rw [v1]
      simp
    obtain ⟨i, hi⟩ := List.mem_iff_getElem?.mp hk
    have hil := (List.getElem?_eq_some_iff.mp hi).1
    rw [List.length_append, List.length_singleton] at hil
    have c0 : (vget (lotS W b [r.1] (lotS W a [r.1] s)).2.1 r.1)[i]? = some k2 := by
      rw [v2, v1]
      exact app_at hi
    have c2 : (vget (lotS W b [r.1] (lotS W a [r.1] s)).2.1 r.1)[(vget s.2.1 r.1).length + 1]? = some k2 := by
      rw [v12, List.getElem?_append_right (by omega)]
      simp
    have c1 : (vget (lotS W b [r.1] (lotS W a [r.1] s)).2.1 r.1)[(vget s.2.1 r.1).length]? = some k1 := by
      rw [v12, List.getElem?_append_right (by omega)]
      simp
    have := o2.conv hS k2 r hr i (vget s.2.1 r.1).length _ (by omega) (by omega) c0 c2
    rw [c1] at this
    have : k1 = k2 := Option.some.inj this
    omega
end G06
namespace G06
open PySem PySem.Spec L2 Lf
/-! ### keys, tables -/
def nk (k : PK) : NKey := (Sum.inr k.1, k.2.map fun ns => ns.map fun n : Nat => (Sum.inl (n : Int) : Key))
def nsT (ns : List Nat) : List T := ns.map fun n : Nat => T.int (n : Int)
def nkT : PK → T
  | (c, none) => .tup [.str c]
  | (c, some ns) => .tup [.str c, .tup (nsT ns)]
theorem keysT_ns : ∀ ns : List Nat, keysT (nsT ns) = some (ns.map fun n : Nat => (Sum.inl (n : Int) : Key))
  | [] => rfl
  | n :: r => by
    have := keysT_ns r
    simp only [nsT, List.map_cons, keysT, keyT] at this ⊢
    rw [this]
theorem nkeyT_nkT : ∀ k : PK, nkeyT (nkT k) = some (nk k)
  | (c, none) => rfl
  | (c, some ns) => by
    simp only [nkT, nkeyT, keyT, keysT_ns]
    rfl
theorem nk_inj {k j : PK} (h : nk k = nk j) : k = j := by
  obtain ⟨c, o⟩ := k
  obtain ⟨d, p⟩ := j
  simp only [nk, Prod.mk.injEq, Sum.inr.injEq] at h
  obtain ⟨rfl, h⟩ := h
  cases o with
  | none => cases p with
    | none => rfl
    | some q => cases h
  | some o => cases p with
    | none => cases h
    | some q =>
      simp only [Option.map_some, Option.some.injEq] at h
      have : o = q := by
        have inj : ∀ (a b : List Nat), (a.map fun n : Nat => (Sum.inl (n : Int) : Key)) = (b.map fun n : Nat => (Sum.inl (n : Int) : Key)) → a = b := by
          intro a
          induction a with
          | nil => intro b hb; cases b with
            | nil => rfl
            | cons y t => cases hb
          | cons x r ih => intro b hb; cases b with
            | nil => cases hb
            | cons y t =>
              simp only [List.map_cons, List.cons.injEq, Sum.inl.injEq] at hb
              rw [ih t hb.2, show x = y by omega]
        exact inj _ _ h
      rw [this]
def tbF : Nat → List PK → List (NKey × Int)
  | _, [] => []
  | i, k :: r => (nk k, (i : Int)) :: tbF (i + 1) r
abbrev tblL (ks : List PK) := tbF 0 ks
theorem tbF_len : ∀ (i : Nat) (ks : List PK), (tbF i ks).length = ks.length
  | _, [] => rfl
  | i, k :: r => by simp [tbF, tbF_len (i + 1) r]
theorem tbF_snoc : ∀ (i : Nat) (ks : List PK) (k : PK), tbF i (ks ++ [k]) = tbF i ks ++ [(nk k, ((i + ks.length : Nat) : Int))]
  | i, [], k => by simp [tbF]
  | i, j :: r, k => by
    simp only [List.cons_append, tbF, tbF_snoc (i + 1) r k, List.length_cons]
    rw [show i + 1 + r.length = i + (r.length + 1) by omega]
theorem tbF_look : ∀ (i : Nat) (ks : List PK) (k : PK), look (tbF i ks) (nk k) = if k ∈ ks then some (((i + ks.idxOf k : Nat)) : Int) else none
  | i, [], k => by simp [tbF, look]
  | i, j :: r, k => by
    simp only [tbF, look]
    by_cases h : j = k
    · subst h
      simp
    · have h1 : ¬ nk j = nk k := fun z => h (nk_inj z)
      have h2 : ¬ k = j := fun z => h z.symm
      have hb : (j == k) = false := by simpa using h
      rw [if_neg h1, tbF_look (i + 1) r k, List.idxOf_cons]
      simp only [List.mem_cons, h2, false_or, hb, cond_false]
      split
      · congr 1
        omega
      · rfl
def tblC (ks : List PK) : Cell := if ks = [] then .dic false [] else .dnn (tblL ks)
theorem dnn_tbl {δ : List (Option Lf.Slot)} {μ : List Cell} {n : Nat} {ks : List PK} (h : μ[n]? = some (tblC ks)) : dnnOf ⟨δ, μ⟩ (.loc n) = some (tblL ks) := by
  unfold tblC at h
  split at h
  · rename_i e
    subst e
    simp [dnnOf, h, tbF]
  · simp [dnnOf, h]
theorem set_self {α : Type} {l : List α} {n : Nat} {x : α} (h : l[n]? = some x) : l.set n x = l := by
  obtain ⟨h1, h2⟩ := List.getElem?_eq_some_iff.mp h
  rw [← h2, List.set_getElem_self]
theorem tbl_snoc (ks : List PK) (k : PK) : tblC (ks ++ [k]) = .dnn (tblL ks ++ [(nk k, (ks.length : Int))]) := by
  unfold tblC
  rw [if_neg (by simp)]
  show Cell.dnn (tbF 0 (ks ++ [k])) = _
  rw [tbF_snoc, Nat.zero_add]
theorem number_spec {μ : List Cell} {t : Nat} {ks : List PK} {k : PK} {Q : Out Ret → List Cell → Prop} (h : μ[t]? = some (tblC ks)) (hl : ks.length < 100000) (hQ : Q (.ok (.val (.t (.int ((kof ks k).1 : Nat))))) (μ.set t (tblC (kof ks k).2))) : Fw F__law_number [.loc t, .t (nkT k)] μ Q := by
  refine Fw_run ?_
  unfold s__law_number
  have hL := tbF_look 0 ks k
  have ht : t < μ.length := (List.getElem?_eq_some_iff.mp h).1
  simp [startD]
  rw [Wp_inN (dnn_tbl h) (nkeyT_nkT k)]
  unfold kof at hQ
  by_cases hk : k ∈ ks
  · rw [if_pos hk] at hL hQ
    simp [hL]
    rw [Wp_ixN (dnn_tbl h) (nkeyT_nkT k) hL]
    simp
    rw [show μ.set t (tblC ks) = μ from set_self h] at hQ
    simpa using hQ
  · rw [if_neg hk] at hL hQ
    simp [hL]
    rw [Wp_lenN (dnn_tbl h)]
    simp [tbF_len]
    rw [Wp_setN (dnn_tbl h) (nkeyT_nkT k) hL (by rw [tbF_len, sizeLine_eq]; omega)]
    simp
    have e := tbl_snoc ks k
    have h2 : (μ.set t (.dnn (tblL ks ++ [(nk k, (ks.length : Int))])))[t]? = some (tblC (ks ++ [k])) := by rw [e]; simp [ht]
    have hL2 := tbF_look 0 (ks ++ [k]) k
    rw [if_pos (by simp)] at hL2
    rw [Wp_ixN (dnn_tbl h2) (nkeyT_nkT k) hL2]
    have ei : (ks ++ [k]).idxOf k = ks.length := by
      rw [List.idxOf_append, if_neg hk]
      simp
    rw [ei]
    rw [e] at hQ
    simp
    exact hQ
/-! ### Kinds -/
def partsC (ks : List PK) : Cell := .lst (ks.map fun k => Fv.t (nkT k))
structure KAt (μ : List Cell) (n : Nat) (ks : List PK) : Prop where
  ins : μ[n]? = some (.ins "Kinds" [("numbers", .loc (n + 1)), ("parts", .loc (n + 2))])
  tb : μ[n + 1]? = some (tblC ks)
  pt : μ[n + 2]? = some (partsC ks)
def kset (μ : List Cell) (n : Nat) (ks : List PK) : List Cell := (μ.set (n + 1) (tblC ks)).set (n + 2) (partsC ks)
theorem kset_len (μ : List Cell) (n : Nat) (ks : List PK) : (kset μ n ks).length = μ.length := by simp [kset]
theorem kset_other {μ : List Cell} {n j : Nat} {ks : List PK} (h1 : j ≠ n + 1) (h2 : j ≠ n + 2) : (kset μ n ks)[j]? = μ[j]? := by
  unfold kset
  rw [List.getElem?_set_ne (by omega), List.getElem?_set_ne (by omega)]
theorem KAt.set {μ : List Cell} {n : Nat} {ks ks' : List PK} (h : KAt μ n ks) : KAt (kset μ n ks') n ks' := by
  have h2 := (List.getElem?_eq_some_iff.mp h.pt).1
  refine ⟨by rw [kset_other (by omega) (by omega)]; exact h.ins, ?_, ?_⟩
  · unfold kset
    rw [List.getElem?_set_ne (by omega), List.getElem?_set_self (by omega)]
  · unfold kset
    rw [List.getElem?_set_self (by rw [List.length_set]; exact h2)]
theorem KAt.num {μ : List Cell} {n : Nat} {ks : List PK} (h : KAt μ n ks) {δ : List (Option Lf.Slot)} (Q : Out Val → DSt → Prop) : Wp (dAttr ["Kinds"] "numbers" (.loc n)) ⟨δ, μ⟩ Q = Q (.ok (.loc (n + 1))) ⟨δ, μ⟩ := Wp_attr (c := "Kinds") (l := [("numbers", .loc (n + 1)), ("parts", .loc (n + 2))]) (g := .loc (n + 1)) (by simp only [insOf, h.ins]) (by decide) rfl Q
theorem KAt.par {μ : List Cell} {n : Nat} {ks : List PK} (h : KAt μ n ks) {δ : List (Option Lf.Slot)} (Q : Out Val → DSt → Prop) : Wp (dAttr ["Kinds"] "parts" (.loc n)) ⟨δ, μ⟩ Q = Q (.ok (.loc (n + 2))) ⟨δ, μ⟩ := Wp_attr (c := "Kinds") (l := [("numbers", .loc (n + 1)), ("parts", .loc (n + 2))]) (g := .loc (n + 2)) (by simp only [insOf, h.ins]) (by decide) rfl Q
theorem kind_of_spec {μ : List Cell} {n : Nat} {ks : List PK} {k : PK} {Q : Out Ret → List Cell → Prop} (h : KAt μ n ks) (hl : ks.length < 100000) (hQ : Q (.ok (.val (.t (.int ((kof ks k).1 : Nat))))) (kset μ n (kof ks k).2)) : Fw F_Kinds_kind_of [.loc n, .t (nkT k)] μ Q := by
  refine Fw_run ?_
  unfold s_Kinds_kind_of
  have hL := tbF_look 0 ks k
  simp [startD, h.num]
  rw [Wp_inN (dnn_tbl h.tb) (nkeyT_nkT k)]
  unfold kof at hQ
  by_cases hk : k ∈ ks
  · rw [if_pos hk] at hL hQ
    simp [hL, h.num]
    rw [Wp_ixN (dnn_tbl h.tb) (nkeyT_nkT k) hL]
    simp
    have e : kset μ n ks = μ := by
      unfold kset
      rw [set_self h.tb, set_self h.pt]
    rw [e] at hQ
    simpa using hQ
  · rw [if_neg hk] at hL hQ
    simp [hL, h.par]
    rw [Wp_lenLoc (show μ[n + 2]? = some (.lst (ks.map fun k => Fv.t (nkT k))) from h.pt)]
    simp [h.num]
    rw [Wp_setN (dnn_tbl h.tb) (nkeyT_nkT k) hL (by rw [tbF_len, sizeLine_eq]; omega)]
    have e := tbl_snoc ks k
    have hn2 := (List.getElem?_eq_some_iff.mp h.pt).1
    have hn1 : n + 1 < μ.length := by omega
    have hK : KAt (kset μ n (ks ++ [k])) n (ks ++ [k]) := h.set
    have hp0 : (μ.set (n + 1) (.dnn (tblL ks ++ [(nk k, (ks.length : Int))])))[n]? = some (.ins "Kinds" [("numbers", .loc (n + 1)), ("parts", .loc (n + 2))]) := by rw [List.getElem?_set_ne (by omega)]; exact h.ins
    have hp2 : (μ.set (n + 1) (.dnn (tblL ks ++ [(nk k, (ks.length : Int))])))[n + 2]? = some (.lst (ks.map fun k => Fv.t (nkT k))) := by rw [List.getElem?_set_ne (by omega)]; exact h.pt
    have at2 : ∀ {δ : List (Option Lf.Slot)} (Q : Out Val → DSt → Prop), Wp (dAttr ["Kinds"] "parts" (.loc n)) ⟨δ, μ.set (n + 1) (.dnn (tblL ks ++ [(nk k, (ks.length : Int))]))⟩ Q = Q (.ok (.loc (n + 2))) ⟨δ, μ.set (n + 1) (.dnn (tblL ks ++ [(nk k, (ks.length : Int))]))⟩ := fun Q => Wp_attr (c := "Kinds") (l := [("numbers", .loc (n + 1)), ("parts", .loc (n + 2))]) (g := .loc (n + 2)) (by simp only [insOf, hp0]) (by decide) rfl Q
    simp [at2]
    rw [Wp_methL hp2]
    simp
    rw [Wp_appL hp2 (by rw [sizeLine_eq]; simp; omega)]
    have em : (μ.set (n + 1) (.dnn (tblL ks ++ [(nk k, (ks.length : Int))]))).set (n + 2) (.lst ((ks.map fun k => Fv.t (nkT k)) ++ [Fv.t (nkT k)])) = kset μ n (ks ++ [k]) := by
      unfold kset partsC
      rw [e]
      simp
    rw [em]
    simp [hK.num]
    have hL2 := tbF_look 0 (ks ++ [k]) k
    rw [if_pos (by simp)] at hL2
    rw [Wp_ixN (dnn_tbl hK.tb) (nkeyT_nkT k) hL2]
    have ei : (ks ++ [k]).idxOf k = ks.length := by
      rw [List.idxOf_append, if_neg hk]
      simp
    rw [ei]
    simp [trunc_len (kset_len _ _ _)]
    exact hQ
end G06
namespace G06
open PySem PySem.Spec L2 Lf
/-! ### versions in the store -/
def lcell (l : List Nat) : Cell := .lst (l.map fun k : Nat => Fv.t (.int (k : Int)))
def vd : Nat → Vs → List (Key × Fv)
  | _, [] => []
  | b, p :: r => (Sum.inr p.1, .loc b) :: vd (b + 1) r
def VL (μ : List Cell) : Nat → Vs → Prop
  | _, [] => True
  | b, p :: r => μ[b]? = some (lcell p.2) ∧ VL μ (b + 1) r
theorem VL.frame {μ μ' : List Cell} : ∀ {vs : Vs} {b : Nat}, VL μ b vs → (∀ j, b ≤ j → j < b + vs.length → μ'[j]? = μ[j]?) → VL μ' b vs
  | [], _, _, _ => trivial
  | p :: r, b, h, f => ⟨by rw [f b (Nat.le_refl _) (by simp)]; exact h.1, VL.frame h.2 fun j h1 h2 => f j (by omega) (by simp only [List.length_cons]; omega)⟩
theorem vd_add (c : Str) (k : Nat) : ∀ (vs : Vs) (b : Nat), vd b (vadd vs c k) = vd b vs
  | [], _ => rfl
  | (d, l) :: r, b => by
    simp only [vadd]
    split
    · rfl
    · simp only [vd, vd_add c k r]
theorem VL.get {μ : List Cell} {c : Str} : ∀ {vs : Vs} {b : Nat}, VL μ b vs → c ∈ vs.map (·.1) → ∃ j, look (vd b vs) (Sum.inr c) = some (.loc j) ∧ b ≤ j ∧ j < b + vs.length ∧ μ[j]? = some (lcell (vget vs c)) ∧ ∀ k, VL (μ.set j (lcell (vget vs c ++ [k]))) b (vadd vs c k)
  | [], _, _, hc => by cases hc
  | (d, l) :: r, b, h, hc => by
    by_cases e : d = c
    · subst e
      refine ⟨b, by simp [vd, look], Nat.le_refl _, by simp, by simpa [vget] using h.1, fun k => ?_⟩
      have hb := (List.getElem?_eq_some_iff.mp h.1).1
      simp only [vadd, vget, if_true]
      exact ⟨by rw [List.getElem?_set_self hb], h.2.frame fun j h1 _ => List.getElem?_set_ne (by omega)⟩
    · have hc' : c ∈ r.map (·.1) := by
        rcases List.mem_cons.mp hc with z | z
        · exact absurd z.symm e
        · exact z
      obtain ⟨j, h1, h2, h3, h4, h5⟩ := VL.get h.2 hc'
      refine ⟨j, ?_, by omega, by simp only [List.length_cons]; omega, by simpa [vget, e] using h4, fun k => ?_⟩
      · simp only [vd, look]
        rw [if_neg (fun z => e (Sum.inr.inj z))]
        exact h1
      · simp only [vadd, vget, if_neg e]
        exact ⟨by rw [List.getElem?_set_ne (by omega)]; exact h.1, h5 k⟩
def stT (p : Stp) : T := .tup [.int (p.1 : Nat), .str p.2.1, .int (p.2.2.1 : Nat), .tup (nsT p.2.2.2)]
def stC (st : List Stp) : Cell := .lst (st.map fun p => Fv.t (stT p))
def frT (p : Str × Nat) : T := .tup [.str p.1, .int (p.2 : Nat)]
/-- a history in the store -/
structure HAt (μ : List Cell) (k h : Nat) (W : List Row) (ks : List PK) (vs : Vs) (st : List Stp) : Prop where
  ins : μ[h]? = some (.ins "History" [("web", .t (webT W)), ("kinds", .loc k), ("rows", .loc (h + 1 + W.length)), ("steps", .loc (h + W.length + 2))])
  rows : μ[h + 1 + W.length]? = some (.dic false (vd (h + 1) vs))
  vl : VL μ (h + 1) vs
  steps : μ[h + W.length + 2]? = some (stC st)
  keys : vs.map (·.1) = W.map (·.1)
  ka : KAt μ k ks
  kh : k + 2 < h
def Fr (k h : Nat) (μ μ' : List Cell) : Prop := μ'.length = μ.length ∧ ∀ j, j < h → j ≠ k + 1 → j ≠ k + 2 → μ'[j]? = μ[j]?
theorem Fr.refl (k h : Nat) (μ : List Cell) : Fr k h μ μ := ⟨rfl, fun _ _ _ _ => rfl⟩
theorem Fr.trans {k h : Nat} {μ μ' μ'' : List Cell} (a : Fr k h μ μ') (b : Fr k h μ' μ'') : Fr k h μ μ'' := ⟨b.1.trans a.1, fun j h1 h2 h3 => (b.2 j h1 h2 h3).trans (a.2 j h1 h2 h3)⟩
section
variable {μ : List Cell} {k h : Nat} {W : List Row} {ks : List PK} {vs : Vs} {st : List Stp}
theorem HAt.vlen (a : HAt μ k h W ks vs st) : vs.length = W.length := by
  have := congrArg List.length a.keys
  simpa using this
theorem HAt.atW (a : HAt μ k h W ks vs st) {δ : List (Option Lf.Slot)} (Q : Out Val → DSt → Prop) : Wp (dAttr ["History"] "web" (.loc h)) ⟨δ, μ⟩ Q = Q (.ok (.t (webT W))) ⟨δ, μ⟩ := Wp_attr (c := "History") (l := [("web", .t (webT W)), ("kinds", .loc k), ("rows", .loc (h + 1 + W.length)), ("steps", .loc (h + W.length + 2))]) (g := .t (webT W)) (by simp only [insOf, a.ins]) (by decide) rfl Q
theorem HAt.atK (a : HAt μ k h W ks vs st) {δ : List (Option Lf.Slot)} (Q : Out Val → DSt → Prop) : Wp (dAttr ["History"] "kinds" (.loc h)) ⟨δ, μ⟩ Q = Q (.ok (.loc k)) ⟨δ, μ⟩ := Wp_attr (c := "History") (l := [("web", .t (webT W)), ("kinds", .loc k), ("rows", .loc (h + 1 + W.length)), ("steps", .loc (h + W.length + 2))]) (g := .loc k) (by simp only [insOf, a.ins]) (by decide) rfl Q
theorem HAt.atR (a : HAt μ k h W ks vs st) {δ : List (Option Lf.Slot)} (Q : Out Val → DSt → Prop) : Wp (dAttr ["History"] "rows" (.loc h)) ⟨δ, μ⟩ Q = Q (.ok (.loc (h + 1 + W.length))) ⟨δ, μ⟩ := Wp_attr (c := "History") (l := [("web", .t (webT W)), ("kinds", .loc k), ("rows", .loc (h + 1 + W.length)), ("steps", .loc (h + W.length + 2))]) (g := .loc (h + 1 + W.length)) (by simp only [insOf, a.ins]) (by decide) rfl Q
theorem HAt.atS (a : HAt μ k h W ks vs st) {δ : List (Option Lf.Slot)} (Q : Out Val → DSt → Prop) : Wp (dAttr ["History"] "steps" (.loc h)) ⟨δ, μ⟩ Q = Q (.ok (.loc (h + W.length + 2))) ⟨δ, μ⟩ := Wp_attr (c := "History") (l := [("web", .t (webT W)), ("kinds", .loc k), ("rows", .loc (h + 1 + W.length)), ("steps", .loc (h + W.length + 2))]) (g := .loc (h + W.length + 2)) (by simp only [insOf, a.ins]) (by decide) rfl Q
theorem HAt.dc (a : HAt μ k h W ks vs st) {δ : List (Option Lf.Slot)} : dcK ⟨δ, μ⟩ (.loc (h + 1 + W.length)) = some (vd (h + 1) vs) := by simp only [dcK, a.rows]
/-- rows[c] -/
theorem HAt.row (a : HAt μ k h W ks vs st) {c : Str} (hc : c ∈ W.map (·.1)) : ∃ j, h + 1 ≤ j ∧ j < h + 1 + W.length ∧ μ[j]? = some (lcell (vget vs c)) ∧ (∀ {δ : List (Option Lf.Slot)} (Q : Out Val → DSt → Prop), Wp (dIx (.loc (h + 1 + W.length)) (.t (.str c))) ⟨δ, μ⟩ Q = Q (.ok (.loc j)) ⟨δ, μ⟩) ∧ ∀ n, HAt (μ.set j (lcell (vget vs c ++ [n]))) k h W ks (vadd vs c n) st := by
  obtain ⟨j, h1, h2, h3, h4, h5⟩ := a.vl.get (c := c) (by rw [a.keys]; exact hc)
  have hv := a.vlen
  have hk := a.kh
  have o : ∀ i, i ≠ j → (μ.set j (lcell (vget vs c ++ [0])))[i]? = μ[i]? := fun i hi => List.getElem?_set_ne (fun z => hi z.symm)
  refine ⟨j, h2, by omega, h4, fun Q => Wp_ixD a.dc rfl h1 Q, fun n => ⟨?_, ?_, h5 n, ?_, by rw [vadd_keys]; exact a.keys, ⟨?_, ?_, ?_⟩, hk⟩⟩
  · rw [List.getElem?_set_ne (by omega)]; exact a.ins
  · rw [List.getElem?_set_ne (by omega), vd_add]; exact a.rows
  · rw [List.getElem?_set_ne (by omega)]; exact a.steps
  · rw [List.getElem?_set_ne (by omega)]; exact a.ka.ins
  · rw [List.getElem?_set_ne (by omega)]; exact a.ka.tb
  · rw [List.getElem?_set_ne (by omega)]; exact a.ka.pt
theorem HAt.step (a : HAt μ k h W ks vs st) (st' : List Stp) : HAt (μ.set (h + W.length + 2) (stC st')) k h W ks vs st' ∧ Fr k h μ (μ.set (h + W.length + 2) (stC st')) := by
  have hk := a.kh
  have hv := a.vlen
  have hs := (List.getElem?_eq_some_iff.mp a.steps).1
  refine ⟨⟨?_, ?_, a.vl.frame fun j h1 h2 => List.getElem?_set_ne (by omega), by rw [List.getElem?_set_self hs], a.keys, ⟨?_, ?_, ?_⟩, hk⟩, by simp, fun j h1 _ _ => List.getElem?_set_ne (by omega)⟩
  · rw [List.getElem?_set_ne (by omega)]; exact a.ins
  · rw [List.getElem?_set_ne (by omega)]; exact a.rows
  · rw [List.getElem?_set_ne (by omega)]; exact a.ka.ins
  · rw [List.getElem?_set_ne (by omega)]; exact a.ka.tb
  · rw [List.getElem?_set_ne (by omega)]; exact a.ka.pt
theorem HAt.kind (a : HAt μ k h W ks vs st) (ks' : List PK) : HAt (kset μ k ks') k h W ks' vs st ∧ Fr k h μ (kset μ k ks') := by
  have hk := a.kh
  refine ⟨⟨?_, ?_, a.vl.frame fun j h1 h2 => kset_other (by omega) (by omega), ?_, a.keys, a.ka.set, hk⟩, kset_len _ _ _, fun j h1 h2 h3 => kset_other h2 h3⟩
  · rw [kset_other (by omega) (by omega)]; exact a.ins
  · rw [kset_other (by omega) (by omega)]; exact a.rows
  · rw [kset_other (by omega) (by omega)]; exact a.steps
end
structure Bd (N : Nat) (ks : List PK) (vs : Vs) (st : List Stp) : Prop where
  ks : ks.length ≤ N
  st : st.length ≤ N
  vs : ∀ c ∈ vs.map (·.1), (vget vs c).length ≤ N
theorem kof_len (ks : List PK) (k : PK) : (kof ks k).2.length ≤ ks.length + 1 := by
  unfold kof
  split
  · exact Nat.le_succ _
  · simp
theorem fold_len (a : Nat) (vs : Vs) : ∀ (rs : List Row) (s : LS), (rs.foldl (rowS a vs) s).1.length ≤ s.1.length + rs.length ∧ (rs.foldl (rowS a vs) s).2.1.length = s.2.1.length + rs.length ∧ (rs.foldl (rowS a vs) s).2.2.length = s.2.2.length + rs.length
  | [], s => by simp
  | r :: rs, s => by
    obtain ⟨h1, h2, h3⟩ := fold_len a vs rs (rowS a vs s r)
    have := kof_len s.1 (r.1, some (r.2.map (lastK vs)))
    have e1 : (rowS a vs s r).1.length ≤ s.1.length + 1 := this
    have e2 : (rowS a vs s r).2.1.length = s.2.1.length + 1 := by simp [rowS]
    have e3 : (rowS a vs s r).2.2.length = s.2.2.length + 1 := by simp [rowS]
    refine ⟨?_, ?_, ?_⟩ <;> simp only [List.foldl_cons, List.length_cons] <;> omega
@[simp] theorem Wp_walkO {i : Nat} {xs : List T} {δ : List (Option Lf.Slot)} {μ : List Cell} (h : δ[i]? = some (some (.own (.lst xs)))) (Q : Out Its → DSt → Prop) : Wp (walkOf (.sl i)) ⟨δ, μ⟩ Q = Q (.ok ⟨xs.map Val.t, fun _ => true⟩) ⟨δ.set i (some (.t (.lst xs))), μ⟩ := Wp_some (by
  show bnd (lend (.sl i)) walkSeq _ = _
  have e : plains (xs.map Fv.t) = some xs := plains_t xs
  simp [lend, bnd, Lf.ret, frz, h, Own.tree, walkSeq, seqOf, still])
@[simp] theorem Wp_dNeg (i : Int) (s : DSt) (Q : Out Val → DSt → Prop) : Wp (dNeg (.t (.int i))) s Q = Q (.ok (.t (.int (-i)))) s := Wp_ret _ _ _
theorem lastI {l : List Nat} (h : 0 < l.length) : atI (l.map fun k : Nat => Fv.t (.int (k : Int))) (-1) = some (Fv.t (.int ((l.getLastD 0 : Nat) : Int))) := by
  have e : ixN (l.map fun k : Nat => Fv.t (.int (k : Int))).length (-1) = some (l.length - 1) := by
    rw [List.length_map]
    unfold ixN
    simp
    omega
  unfold atI
  rw [e]
  show (l.map fun k : Nat => Fv.t (.int (k : Int)))[l.length - 1]? = _
  rw [List.getElem?_map, last_at h]
  rfl
end G06
namespace G06
open PySem PySem.Spec L2 Lf
def IvD (W : List Row) (a k h : Nat) (lotT : T) (vs : Vs) (fs : List Row) (s0 : LS) (μ : List Cell) (items : List Val) (s : DSt) : Prop := ∃ (pre rest : List Row) (o4 o6 : Option Lf.Slot) (μ' : List Cell), s = ⟨[some (.loc h), some (.t (.int (a : Nat))), some (.t lotT), some (.own (.lst ((pre.foldl (rowS a vs) s0).2.2.map frT))), o4, none, o6, none], μ'⟩ ∧ fs = pre ++ rest ∧ items = rest.map (fun r => Val.t (.str r.1)) ∧ HAt μ' k h W (pre.foldl (rowS a vs) s0).1 vs (pre.foldl (rowS a vs) s0).2.1 ∧ Fr k h μ μ'
def IvE (W : List Row) (a k h : Nat) (lotT : T) (vs : Vs) (L : LS) (μ : List Cell) (items : List Val) (s : DSt) : Prop := ∃ (pre rest : List (Str × Nat)) (o3 o4 o5 o6 : Option Lf.Slot) (μ' : List Cell), s = ⟨[some (.loc h), some (.t (.int (a : Nat))), some (.t lotT), o3, o4, o5, o6, none], μ'⟩ ∧ L.2.2 = pre ++ rest ∧ items = rest.map (fun r => Val.t (frT r)) ∧ HAt μ' k h W L.1 (addS vs pre) L.2.1 ∧ Fr k h μ μ'
theorem fget_len (c : Str) : ∀ fr : List (Str × Nat), (fget fr c).length ≤ fr.length
  | [] => Nat.le_refl _
  | (d, k) :: r => by
    have := fget_len c r
    simp only [fget, List.length_cons]
    split
    · simp only [List.length_cons]; omega
    · omega
theorem Fr.ge {k h j : Nat} {μ : List Cell} {c : Cell} (hj : h ≤ j) : Fr k h μ (μ.set j c) := ⟨by simp, fun i h1 _ _ => List.getElem?_set_ne (by omega)⟩
theorem fold_snoc (a : Nat) (vs : Vs) (pre : List Row) (r : Row) (s0 : LS) : (pre ++ [r]).foldl (rowS a vs) s0 = rowS a vs (pre.foldl (rowS a vs) s0) r := by simp
theorem do_spec {μ : List Cell} {k h a N : Nat} {W : List Row} {ks : List PK} {vs : Vs} {st : List Stp} {lot : List Str} {lotT : T} {Q : Out Ret → List Cell → Prop} (hR : Rows W) (hW : W.length < 1000) (hs : ∀ r ∈ W, r.2.length < 1000) (hl : lotT = .lst (lot.map T.str) ∨ lotT = .tup (lot.map T.str)) (H : HAt μ k h W ks vs st) (hO : Ok W ks vs) (hB : Bd N ks vs st) (hN : N + W.length < 90000)
    (hQ : ∀ μ', HAt μ' k h W (lotS W a lot (ks, vs, st)).1 (lotS W a lot (ks, vs, st)).2.1 (lotS W a lot (ks, vs, st)).2.2 → Fr k h μ μ' → Q (.ok (.val (.t .non))) μ') : Fw F_History_do [.loc h, .t (.int (a : Nat)), .t lotT] μ Q := by
  have hS : Src W := ⟨hR.nd, hR.si⟩
  have inC : ∀ {neg : Bool} {x : Str} (s : DSt) (Q : Out Val → DSt → Prop), Wp (dInD neg (.t (.str x)) (.t lotT)) s Q = Q (.ok (.t (.bl (if neg then !decide (x ∈ lot) else decide (x ∈ lot))))) s := by
    rcases hl with rfl | rfl
    · exact fun s Q => Wp_inL s Q
    · exact fun s Q => Wp_inT s Q
  refine Fw_run ?_
  unfold s_History_do
  simp [startD, sizeLine_eq, H.atW, web_cells]
  refine Wp_compM W (fun r => Val.t (.str r.1)) (fun r => decide (r.1 ∈ lot)) (fun r => T.str r.1) rfl rfl (by simp [cellsT, List.map_map, Function.comp_def]) (by rw [sizeLine_eq]; omega) rfl ?_ ?_
  · intro r hr acc hacc
    simp [wipeD]
    rw [inC]
    simp [Ek_dec]
    by_cases q : r.1 ∈ lot
    · simp [q, wipeD]
      exact hacc
    · simp [q, wipeD]
  · simp
    have fl : (W.filter fun r => decide (r.1 ∈ lot)).length ≤ W.length := List.length_filter_le _ _
    refine Wp_forInv (IvD W a k h lotT vs (inL lot W) (ks, st, []) μ) (fun _ _ _ => rfl) ?_ ?_ _ _ ⟨[], inL lot W, none, none, μ, rfl, rfl, by simp [inL, Function.comp_def], H, Fr.refl _ _ _⟩
    · rintro s ⟨pre, rest, o4, o6, μ', rfl, ef, ei, H', F'⟩
      have : rest = [] := by simpa using ei.symm
      subst this
      rw [List.append_nil] at ef
      subst ef
      simp
      refine Wp_forInv (IvE W a k h lotT vs ((inL lot W).foldl (rowS a vs) (ks, st, [])) μ) (fun _ _ _ => rfl) ?_ ?_ _ _ ⟨[], ((inL lot W).foldl (rowS a vs) (ks, st, [])).2.2, _, o4, none, o6, μ', rfl, rfl, by simp [Function.comp_def], H', F'⟩
      · rintro s ⟨pre, rest, o3, o4, o5, o6, μ2, rfl, ef, ei, H2, F2⟩
        have : rest = [] := by simpa using ei.symm
        subst this
        rw [List.append_nil] at ef
        simp [trunc_len F2.1]
        rw [← ef] at H2
        exact hQ μ2 H2 F2
      · rintro v items s ⟨pre, rest, o3, o4, o5, o6, μ2, rfl, ef, ei, H2, F2⟩
        cases rest with
        | nil => cases ei
        | cons p rest =>
          rw [List.map_cons] at ei
          obtain ⟨rfl, rfl⟩ := List.cons.inj ei
          have hli := lot_li hS (s := (ks, vs, st)) hO a lot
          have hpc : p.1 ∈ W.map (·.1) := by
            have : p.1 ∈ (lotL W a lot (ks, vs, st)).2.2.map (·.1) := List.mem_map.mpr ⟨p, by rw [show lotL W a lot (ks, vs, st) = (inL lot W).foldl (rowS a vs) (ks, st, []) from rfl, ef]; simp, rfl⟩
            rw [hli.fr] at this
            obtain ⟨q, hq, e⟩ := List.mem_map.mp this
            exact List.mem_map.mpr ⟨q, (List.mem_filter.mp hq).1, e⟩
          obtain ⟨j, j1, j2, j3, j4, j5⟩ := H2.row hpc
          have hlen := fold_len a vs (inL lot W) (ks, st, [])
          have hfl : (inL lot W).length ≤ W.length := List.length_filter_le _ _
          have hpl : pre.length + (rest.length + 1) = (inL lot W).length := by
            have := hlen.2.2
            rw [ef] at this
            simpa using this
          have hvl : (vget (addS vs pre) p.1).length < 100000 := by
            rw [vget_addS vs pre p.1 (by rw [H.keys]; exact hpc), List.length_append]
            have := fget_len p.1 pre
            have := hB.vs p.1 (by rw [H.keys]; exact hpc)
            omega
          simp [frT, H2.atR, j4]
          rw [Wp_methL j3]
          simp
          rw [Wp_appL j3 (by rw [sizeLine_eq, List.length_map]; omega)]
          simp
          have ec : Cell.lst ((vget (addS vs pre) p.1).map (fun k : Nat => Fv.t (.int (k : Int))) ++ [Fv.t (.int (p.2 : Int))]) = lcell (vget (addS vs pre) p.1 ++ [p.2]) := by simp [lcell]
          rw [ec]
          refine ⟨pre ++ [p], rest, o3, _, _, o6, _, rfl, by rw [ef]; simp, rfl, ?_, F2.trans (Fr.ge (by omega))⟩
          have := j5 p.2
          rw [show addS vs (pre ++ [p]) = vadd (addS vs pre) p.1 p.2 by simp [addS]]
          exact this
    · rintro v items s ⟨pre, rest, o4, o6, μ', rfl, ef, ei, H', F'⟩
      cases rest with
      | nil => cases ei
      | cons r rest =>
        rw [List.map_cons] at ei
        obtain ⟨rfl, rfl⟩ := List.cons.inj ei
        have hrf : r ∈ inL lot W := by rw [ef]; simp
        have hr : r ∈ W := (List.mem_filter.mp hrf).1
        simp [H'.atW]
        rw [Wp_mcK (l := _) rfl rfl]
        simp
        refine sources_spec hR hr ?_
        simp [H'.atS]
        rw [Wp_methL H'.steps]
        simp [H'.atR]
        obtain ⟨j, j1, j2, j3, j4, j5⟩ := H'.row (List.mem_map.mpr ⟨r, hr, rfl⟩)
        have hlen := fold_len a vs pre (ks, st, [])
        simp only [List.length_nil] at hlen
        have hfl : (inL lot W).length ≤ W.length := List.length_filter_le _ _
        have hpl : pre.length + (rest.length + 1) = (inL lot W).length := by rw [ef]; simp
        have hb1 := hB.ks
        have hb2 := hB.st
        rw [j4]
        simp
        rw [Wp_lenLoc j3]
        simp
        refine Wp_compA r.2 (fun y => Val.t (.str y)) (fun y => T.int (((vget vs y).length - 1 : Nat) : Int)) rfl rfl (by simp [List.map_map, Function.comp_def]) (by rw [sizeLine_eq]; have := hs r hr; omega) rfl ?_ ?_
        · intro y hy acc hacc
          have hyW := hR.si r hr y hy
          obtain ⟨i, i1, i2, i3, i4, i5⟩ := H'.row hyW
          obtain ⟨q, hq, rfl⟩ := row_of hyW
          have hne := hO.ne hq
          simp [wipeD, H'.atR, i4]
          rw [Wp_lenLoc i3]
          have e : ((vget vs q.1).length : Int) - 1 = (((vget vs q.1).length - 1 : Nat) : Int) := by omega
          simp [wipeD, e]
          exact hacc
        · simp [sizeLine_eq]
          rw [Wp_appL H'.steps (by rw [sizeLine_eq, List.length_map]; omega)]
          have ec : Cell.lst (((pre.foldl (rowS a vs) (ks, st, [])).2.1.map fun p => Fv.t (stT p)) ++ [Fv.t (.tup [.int (a : Nat), .str r.1, .int ((vget vs r.1).length : Int), .tup (r.2.map fun y => T.int (((vget vs y).length - 1 : Nat) : Int))])]) = stC ((pre.foldl (rowS a vs) (ks, st, [])).2.1 ++ [(a, r.1, (vget vs r.1).length, r.2.map fun s => (vget vs s).length - 1)]) := by
            simp [stC, stT, nsT, List.map_map, Function.comp_def]
          rw [ec]
          obtain ⟨H2, F2⟩ := H'.step ((pre.foldl (rowS a vs) (ks, st, [])).2.1 ++ [(a, r.1, (vget vs r.1).length, r.2.map fun s => (vget vs s).length - 1)])
          generalize μ'.set (h + W.length + 2) (stC ((pre.foldl (rowS a vs) (ks, st, [])).2.1 ++ [(a, r.1, (vget vs r.1).length, r.2.map fun s => (vget vs s).length - 1)])) = μ2 at H2 F2
          simp [H2.atK]
          rw [Wp_mcK (l := [("numbers", .loc (k + 1)), ("parts", .loc (k + 2))]) (by simp only [insOf, H2.ka.ins]) rfl]
          simp
          refine Wp_compA r.2 (fun y => Val.t (.str y)) (fun y => T.int ((lastK vs y : Nat) : Int)) rfl rfl (by simp [List.map_map, Function.comp_def]) (by rw [sizeLine_eq]; have := hs r hr; omega) rfl ?_ ?_
          · intro y hy acc hacc
            have hyW := hR.si r hr y hy
            obtain ⟨i, i1, i2, i3, i4, i5⟩ := H2.row hyW
            obtain ⟨q, hq, rfl⟩ := row_of hyW
            have hne := hO.ne hq
            simp [wipeD, H2.atR, i4]
            rw [Wp_ixL i3 (lastI hne)]
            simp [wipeD, lastK]
            exact hacc
          · simp [sizeLine_eq]
            have ek : T.tup [.str r.1, .tup (r.2.map fun y => T.int ((lastK vs y : Nat) : Int))] = nkT (r.1, some (r.2.map (lastK vs))) := by simp [nkT, nsT, List.map_map, Function.comp_def]
            rw [ek]
            refine kind_of_spec H2.ka (by omega) ?_
            obtain ⟨H3, F3⟩ := H2.kind (kof (pre.foldl (rowS a vs) (ks, st, [])).1 (r.1, some (r.2.map (lastK vs)))).2
            simp [sizeLine_eq]
            refine ⟨by omega, pre ++ [r], rest, some (.t (.str r.1)), some (.t (.tup (r.2.map T.str))), kset μ2 k (kof (pre.foldl (rowS a vs) (ks, st, [])).1 (r.1, some (r.2.map (lastK vs)))).2, by rw [fold_snoc]; simp [rowS, frT], by rw [ef]; simp, rfl, ?_, F'.trans (F2.trans F3)⟩
            rw [fold_snoc]
            exact H3
end G06
namespace G06
open PySem PySem.Spec L2 Lf
def enF : Nat → List T → List Val
  | _, [] => []
  | i, x :: r => .t (.tup [.int (i : Nat), x]) :: enF (i + 1) r
theorem enF_get : ∀ (xs : List T) (b i : Nat), (enF b xs)[i]? = xs[i]?.map fun x => Val.t (.tup [.int ((b + i : Nat)), x])
  | [], b, i => by simp [enF]
  | x :: r, b, 0 => by simp [enF]
  | x :: r, b, i + 1 => by
    simp only [enF, List.getElem?_cons_succ]
    rw [enF_get r (b + 1) i, show b + 1 + i = b + (i + 1) by omega]
theorem enumV_eq (xs : List T) : enumV xs = enF 0 xs := by
  apply List.ext_getElem?
  intro i
  rw [enF_get]
  unfold enumV
  rw [List.getElem?_map, Nat.zero_add]
  by_cases h : i < xs.length
  · rw [List.getElem?_range h]
    simp [List.getD, h]
  · rw [List.getElem?_eq_none (by simp; omega), List.getElem?_eq_none (by omega)]
    rfl
/-! ### programs -/
def lotsT (lots : List (List Str)) : List T := lots.map fun l => T.lst (l.map T.str)
def lotsU (lots : List (List Str)) : List T := lots.map fun l => T.tup (l.map T.str)
def progT (lots : List (List Str)) : T := .obj "Program" [("lots", .tup (lotsU lots))]
structure Lots (lots : List (List Str)) : Prop where
  nm : ∀ l ∈ lots, ∀ x ∈ l, Nm x
  nd : ∀ l ∈ lots, l.Nodup
  ne : ∀ l ∈ lots, l ≠ []
  len : ∀ l ∈ lots, l.length < 60
  many : lots.length < 1000
def IvP (μ : List Cell) (lots : List (List Str)) (vs : List Val) (s : DSt) : Prop := ∃ (pre rest : List (List Str)) (o2 : Option Lf.Slot) (x3 : Option T), s = ⟨[some (.loc μ.length), some (.t (.lst (lotsT lots))), o2, x3.map Lf.Slot.t], μ ++ [.ins "Program" []]⟩ ∧ lots = pre ++ rest ∧ vs = enF pre.length (lotsT rest)
def IvQ (μ : List Cell) (rows : List Row) (lots : List (List Str)) (vs : List Val) (s : DSt) : Prop := ∃ (rest : List (List Str)) (o2 : Option Lf.Slot), s = ⟨[some (.t (webT rows)), some (.t (progT lots)), o2], μ⟩ ∧ (∀ l ∈ rest, l ∈ lots) ∧ vs = rest.map (fun l => Val.t (.tup (l.map T.str)))
theorem program_init {μ : List Cell} {lots : List (List Str)} {Q : Out Ret → List Cell → Prop} (hL : Lots lots) (hQ : Q (.ok (.val (.t .non))) (μ ++ [.ins "Program" [("lots", .t (.tup (lotsU (lots.map srtS))))]])) : Fw F_Program_init [.loc μ.length, .t (.lst (lotsT lots))] (μ ++ [.ins "Program" []]) Q := by
  refine Fw_run ?_
  unfold s_Program_init
  simp [startD]
  refine is_list_L _ ?_
  simp [enumV_eq]
  refine Wp_forInv (IvP μ lots) (fun _ _ _ => rfl) ?_ ?_ _ _ ⟨[], lots, none, none, rfl, rfl, rfl⟩
  · rintro s ⟨pre, rest, o2, x3, rfl, el, ev⟩
    simp
    refine Wp_compA lots (fun l => Val.t (.lst (l.map T.str))) (fun l => T.tup ((srtS l).map T.str)) (by cases x3 <;> rfl) (by cases x3 <;> rfl) (by simp [lotsT, List.map_map, Function.comp_def]) (by rw [sizeLine_eq]; have := hL.many; omega) rfl ?_ ?_
    · intro l hl acc hacc
      simp [wipeD]
      rw [Wp_sortS (by have := hL.len l hl; omega)]
      simp [wipeD]
      exact hacc
    · simp
      have e1 : (μ ++ [Cell.ins "Program" []])[μ.length]? = some (Cell.ins "Program" []) := by simp
      rw [Wp_setF e1 (by decide) (by simp)]
      simp [putA]
      have e2 : lots.map (fun l => T.tup ((srtS l).map T.str)) = lotsU (lots.map srtS) := by simp [lotsU, List.map_map, Function.comp_def]
      rw [e2]
      exact ⟨_, trunc_len (by simp), hQ⟩
  · rintro v vs s ⟨pre, rest, o2, x3, rfl, el, ev⟩
    cases rest with
    | nil => cases ev
    | cons l rest =>
      have hl : l ∈ lots := by rw [el]; simp
      simp only [lotsT, List.map_cons, enF] at ev
      obtain ⟨rfl, rfl⟩ := List.cons.inj ev
      simp
      refine are_names_L (by have := hL.len l hl; omega) (hL.nm l hl) (hL.nd l hl) ?_
      have hne := hL.ne l hl
      simp [hne]
      exact ⟨pre ++ [l], rest, _, some (.lst (l.map T.str)), rfl, by rw [el]; simp, by simp [lotsT]⟩
theorem program_make {μ : List Cell} {δ : List (Option Lf.Slot)} {lots : List (List Str)} {Q : Out Val → DSt → Prop} (hL : Lots lots) (hQ : Q (.ok (.t (progT (lots.map srtS)))) ⟨δ, μ⟩) : Wp (mkObj "Program" F_Program_init [.t (.lst (lotsT lots))]) ⟨δ, μ⟩ Q := by
  refine Wp_mkObj (d := "Program") (program_init hL ?_)
  refine ⟨_, _, _, rfl, rfl, ?_, hQ⟩
  simp [thawF]
theorem prog_lots {lots : List (List Str)} {s : DSt} (Q : Out Val → DSt → Prop) : Wp (dAttr ["Program"] "lots" (.t (progT lots))) s Q = Q (.ok (.t (.tup (lotsU lots)))) s := Wp_attr (c := "Program") (l := [("lots", .t (.tup (lotsU lots)))]) (g := .t (.tup (lotsU lots))) rfl (by decide) rfl Q
theorem check_program_spec {μ : List Cell} {rows : List Row} {lots : List (List Str)} {Q : Out Ret → List Cell → Prop} (hR : Rows rows) (hin : ∀ l ∈ lots, ∀ x ∈ l, x ∈ rows.map (·.1)) (hQ : Q (.ok (.val (.t .non))) μ) : Fw F_Web_check_program [.t (webT rows), .t (progT lots)] μ Q := by
  refine Fw_run ?_
  unfold s_Web_check_program
  simp [startD, prog_lots]
  refine Wp_forInv (IvQ μ rows lots) (fun _ _ _ => rfl) ?_ ?_ _ _ ⟨lots, none, rfl, fun _ h => h, by simp [lotsU, List.map_map, Function.comp_def]⟩
  · rintro s ⟨rest, o2, rfl, _, _⟩
    simp
    exact hQ
  · rintro v vs s ⟨rest, o2, rfl, hm, ev⟩
    cases rest with
    | nil => cases ev
    | cons l rest =>
      rw [List.map_cons] at ev
      obtain ⟨rfl, rfl⟩ := List.cons.inj ev
      simp
      rw [Wp_mcK (l := _) rfl rfl]
      simp
      refine check_ok hR (.inr rfl) (hin l (hm l (by simp))) ?_
      simp
      exact ⟨rest, _, rfl, fun q hq => hm q (List.mem_cons_of_mem _ hq), rfl⟩
/-! ### Kinds, History -/
theorem kinds_make {μ : List Cell} {δ : List (Option Lf.Slot)} {Q : Out Val → DSt → Prop} (hQ : Q (.ok (.loc μ.length)) ⟨δ, μ ++ [.ins "Kinds" [("numbers", .loc (μ.length + 1)), ("parts", .loc (μ.length + 2))], .dic false [], .lst []]⟩) : Wp (mkObjC "Kinds" F_Kinds_init []) ⟨δ, μ⟩ Q := by
  refine Wp_mkObjC ?_
  refine Fw_run ?_
  unfold s_Kinds_init
  simp [startD]
  have e1 : (μ ++ [Cell.ins "Kinds" [], (Own.dic false []).cell])[μ.length]? = some (Cell.ins "Kinds" []) := get0
  rw [Wp_setF e1 (by decide) (by simp)]
  simp [set0, sizeLine_eq]
  have e2 : (μ ++ [Cell.ins "Kinds" (putA [] "numbers" (Fv.loc (μ.length + 1))), (Own.dic false []).cell, (Own.lst []).cell])[μ.length]? = some (Cell.ins "Kinds" (putA [] "numbers" (Fv.loc (μ.length + 1)))) := get0
  rw [Wp_setF e2 (by decide) (by simp [putA])]
  have e3 : putA (putA ([] : List (Str × Fv)) "numbers" (Fv.loc (μ.length + 1))) "parts" (Fv.loc (μ.length + 2)) = ([("numbers", .loc (μ.length + 1)), ("parts", .loc (μ.length + 2))] : List (Str × Fv)) := rfl
  rw [e3]
  simp [set0, Own.cell]
  refine ⟨_, trunc_new ?_, hQ⟩
  intro z
  have z2 := congrArg (fun l => l[μ.length]?) z
  simp at z2
end G06
namespace G06
open PySem PySem.Spec L2 Lf
theorem vd_snoc (p : Str × List Nat) : ∀ (vs : Vs) (b : Nat), vd b (vs ++ [p]) = vd b vs ++ [(Sum.inr p.1, .loc (b + vs.length))]
  | [], b => by simp [vd]
  | q :: r, b => by
    simp only [List.cons_append, vd, vd_snoc p r, List.length_cons]
    rw [show b + 1 + r.length = b + (r.length + 1) by omega]
theorem vd_keys : ∀ (vs : Vs) (b : Nat), (vd b vs).map (·.1) = (vs.map (·.1)).map (Sum.inr : Str → Key)
  | [], _ => rfl
  | p :: r, b => by simp [vd, vd_keys r (b + 1)]
theorem VL.snoc {μ : List Cell} {p : Str × List Nat} : ∀ {vs : Vs} {b : Nat}, VL μ b vs → μ[b + vs.length]? = some (lcell p.2) → VL μ b (vs ++ [p])
  | [], b, _, h => ⟨by simpa using h, trivial⟩
  | q :: r, b, h, h2 => ⟨h.1, VL.snoc h.2 (by rw [List.length_cons] at h2; rw [show b + 1 + r.length = b + (r.length + 1) by omega]; exact h2)⟩
theorem putA_new {κ α : Type} [DecidableEq κ] {k : κ} {a : α} : ∀ {l : List (κ × α)}, k ∉ l.map (·.1) → putA l k a = l ++ [(k, a)]
  | [], _ => rfl
  | (j, b) :: r, h => by
    simp only [List.map_cons, List.mem_cons, not_or] at h
    simp only [putA, List.cons_append]
    rw [if_neg (fun z => h.1 z.symm), putA_new h.2]
theorem inr_nd {l : List Str} (h : l.Nodup) : (l.map (Sum.inr : Str → Key)).Nodup := List.Pairwise.map _ (fun a b h z => h (Sum.inr.inj z)) h
theorem beg_keys : ∀ (rs : List Row) (s : List PK × Vs), (rs.foldl begF s).2.map (·.1) = s.2.map (·.1) ++ rs.map (·.1)
  | [], s => by simp
  | r :: rs, s => by
    rw [List.foldl_cons, beg_keys rs]
    simp [begF]
theorem beg_len : ∀ (rs : List Row) (s : List PK × Vs), (rs.foldl begF s).1.length ≤ s.1.length + rs.length ∧ (rs.foldl begF s).2.length = s.2.length + rs.length
  | [], s => by simp
  | r :: rs, s => by
    obtain ⟨h1, h2⟩ := beg_len rs (begF s r)
    have := kof_len s.1 (r.1, none)
    have e1 : (begF s r).1.length ≤ s.1.length + 1 := this
    have e2 : (begF s r).2.length = s.2.length + 1 := by simp [begF]
    refine ⟨?_, ?_⟩ <;> simp only [List.foldl_cons, List.length_cons] <;> omega
theorem KAt.app {μ : List Cell} {n : Nat} {ks : List PK} (h : KAt μ n ks) (t : List Cell) : KAt (μ ++ t) n ks := by
  have e : ∀ {j : Nat} {c : Cell}, μ[j]? = some c → (μ ++ t)[j]? = some c := fun q => by rw [List.getElem?_append_left (List.getElem?_eq_some_iff.mp q).1]; exact q
  exact ⟨e h.ins, e h.tb, e h.pt⟩
/-- the cells of a history, as they are made -/
structure CI (μ0 m : List Cell) (k h : Nat) (ks : List PK) (pre : List Row) (insC : Cell) : Prop where
  len : m.length = h + 1 + pre.length
  ins : m[h]? = some insC
  ka : KAt m k (pre.foldl begF (ks, [])).1
  vl : VL m (h + 1) (pre.foldl begF (ks, [])).2
  fr : ∀ j, j < h → j ≠ k + 1 → j ≠ k + 2 → m[j]? = μ0[j]?
def IvN (W : List Row) (lots : List (List Str)) (μ0 : List Cell) (k h : Nat) (ks : List PK) (insC : Cell) (items : List Val) (acc : List (Key × Fv)) (s : DSt) : Prop := ∃ (pre rest : List Row) (m : List Cell), s = ⟨[some (.loc h), some (.t (webT W)), some (.t (progT lots)), some (.loc k), none, none, none], m⟩ ∧ W = pre ++ rest ∧ items = rest.map (fun r => Val.t (.str r.1)) ∧ acc = vd (h + 1) (pre.foldl begF (ks, [])).2 ∧ CI μ0 m k h ks pre insC
theorem CI.next {μ0 m : List Cell} {k h : Nat} {ks : List PK} {pre : List Row} {insC : Cell} (c : CI μ0 m k h ks pre insC) (hk : k + 2 < h) (r : Row) : CI μ0 (kset m k (kof (pre.foldl begF (ks, [])).1 (r.1, none)).2 ++ [lcell [(kof (pre.foldl begF (ks, [])).1 (r.1, none)).1]]) k h ks (pre ++ [r]) insC := by
  have hl := (beg_len pre (ks, [])).2
  have hm : (kset m k (kof (pre.foldl begF (ks, [])).1 (r.1, none)).2).length = h + 1 + pre.length := by rw [kset_len]; exact c.len
  have low : ∀ j, j < h + 1 + pre.length → (kset m k (kof (pre.foldl begF (ks, [])).1 (r.1, none)).2 ++ [lcell [(kof (pre.foldl begF (ks, [])).1 (r.1, none)).1]])[j]? = (kset m k (kof (pre.foldl begF (ks, [])).1 (r.1, none)).2)[j]? := fun j hj => List.getElem?_append_left (by rw [hm]; exact hj)
  have ef : (pre ++ [r]).foldl begF (ks, []) = begF (pre.foldl begF (ks, [])) r := by simp
  refine ⟨by rw [List.length_append, hm]; simp; omega, ?_, ?_, ?_, fun j h1 h2 h3 => ?_⟩
  · rw [low h (by omega), kset_other (by omega) (by omega)]
    exact c.ins
  · rw [ef]
    exact c.ka.set.app _
  · rw [ef]
    refine VL.snoc (VL.frame c.vl fun j h1 h2 => ?_) ?_
    · rw [hl] at h2
      simp at h2
      rw [low j (by omega), kset_other (by omega) (by omega)]
    · rw [hl]
      simp
      rw [List.getElem?_append_right (by rw [hm]; omega), hm]
      simp
  · rw [low j (by omega), kset_other h2 h3]
    exact c.fr j h1 h2 h3
def IvH (W : List Row) (lots : List (List Str)) (μ0 : List Cell) (k h : Nat) (ks : List PK) (items : List Val) (s : DSt) : Prop := ∃ (pre rest : List (List Str)) (o4 o5 : Option Lf.Slot) (m : List Cell), s = ⟨[some (.loc h), some (.t (webT W)), some (.t (progT lots)), some (.loc k), o4, o5, none], m⟩ ∧ lots = pre ++ rest ∧ items = enF pre.length (lotsU rest) ∧ HAt m k h W (lotsS W 0 pre (begS W ks)).1 (lotsS W 0 pre (begS W ks)).2.1 (lotsS W 0 pre (begS W ks)).2.2 ∧ m.length = h + W.length + 3 ∧ ∀ j, j < h → j ≠ k + 1 → j ≠ k + 2 → m[j]? = μ0[j]?
theorem bd_beg {W : List Row} (hS : Src W) {ks : List PK} (nd : ks.Nodup) (wf : Wf ks) {N : Nat} (hk : ks.length + W.length ≤ N) (h1 : 1 ≤ N) : Bd N (begS W ks).1 (begS W ks).2.1 (begS W ks).2.2 := by
  have l := beg_len W (ks, [])
  simp only at l
  refine ⟨by show (W.foldl begF (ks, [])).1.length ≤ N; omega, by show ([] : List Stp).length ≤ N; simp, fun c hc => ?_⟩
  have b := BI.fold (ks := ks) W [] (ks, []) ⟨List.prefix_refl _, nd, wf, rfl, by simp⟩ (by simpa using hS.1)
  rw [List.nil_append] at b
  have hc' : c ∈ W.map (·.1) := by rw [← b.keys]; exact hc
  obtain ⟨r, hr, rfl⟩ := row_of hc'
  obtain ⟨k, k1, _⟩ := b.at' r hr
  rw [show (begS W ks).2.1 = (W.foldl begF (ks, [])).2 from rfl, k1]
  simpa using h1
theorem bd_lot {W : List Row} (hS : Src W) (hne : W ≠ []) {s : HS} (hO : Ok W s.1 s.2.1) {N : Nat} (h : Bd N s.1 s.2.1 s.2.2) (a : Nat) (lot : List Str) : Bd (N + W.length) (lotS W a lot s).1 (lotS W a lot s).2.1 (lotS W a lot s).2.2 := by
  obtain ⟨o1, _, g⟩ := lot_ok hS hO a lot
  have hl := fold_len a s.2.1 (inL lot W) (s.1, s.2.2, [])
  simp only at hl
  have hf : (inL lot W).length ≤ W.length := List.length_filter_le _ _
  have hb1 := h.ks
  have hb2 := h.st
  have h1 : 0 < W.length := List.length_pos_iff.mpr hne
  refine ⟨by show ((inL lot W).foldl (rowS a s.2.1) (s.1, s.2.2, [])).1.length ≤ _; omega, by show ((inL lot W).foldl (rowS a s.2.1) (s.1, s.2.2, [])).2.1.length ≤ _; omega, fun c hc => ?_⟩
  rw [o1.keys] at hc
  obtain ⟨r, hr, rfl⟩ := row_of hc
  have hb := h.vs r.1 (by rw [hO.keys]; exact hc)
  by_cases q : r.1 ∈ lot
  · obtain ⟨k, e, _⟩ := (g r hr).1 q
    rw [e]
    simp
    omega
  · rw [(g r hr).2 q]
    omega
end G06
namespace G06
open PySem PySem.Spec L2 Lf
theorem insP {n : Nat} {fs : List (Str × Fv)} {μ t : List Cell} (h : n = μ.length) : (μ ++ Cell.ins "History" fs :: t)[n]? = some (Cell.ins "History" fs) := by subst h; simp
theorem history_init {μ : List Cell} {k : Nat} {W : List Row} {ks : List PK} {lots : List (List Str)} {Q : Out Ret → List Cell → Prop} (hR : Rows W) (hW : W.length ≤ 10) (hs : ∀ r ∈ W, r.2.length < 1000) (hm : lots.length ≤ 100) (hin : ∀ l ∈ lots, ∀ x ∈ l, x ∈ W.map (·.1)) (K : KAt μ k ks) (hk : k + 2 < μ.length) (nd : ks.Nodup) (wf : Wf ks) (hks : ks.length ≤ 10000)
    (hQ : ∀ m, HAt m k μ.length W (hist W lots ks).1 (hist W lots ks).2.1 (hist W lots ks).2.2 → m.length = μ.length + W.length + 3 → (∀ j, j < μ.length → j ≠ k + 1 → j ≠ k + 2 → m[j]? = μ[j]?) → Q (.ok (.val (.t .non))) m) :
    Fw F_History_init [.loc μ.length, .t (webT W), .t (progT lots), .loc k] (μ ++ [.ins "History" []]) Q := by
  have hS : Src W := ⟨hR.nd, hR.si⟩
  refine Fw_run ?_
  unfold s_History_init
  simp [startD]
  rw [Wp_mcK (l := _) rfl rfl]
  simp
  refine check_program_spec hR hin ?_
  simp
  rw [Wp_setF (insP rfl) (by decide) (by simp)]
  simp
  rw [Wp_setF (insP rfl) (by decide) (by simp [putA])]
  simp [web_cells]
  have e3 : putA (putA ([] : List (Str × Fv)) "web" (Fv.t (webT W))) "kinds" (Fv.loc k) = ([("web", .t (webT W)), ("kinds", .loc k)] : List (Str × Fv)) := rfl
  rw [e3]
  refine Wp_dcK (IvN W lots μ k μ.length ks (.ins "History" [("web", .t (webT W)), ("kinds", .loc k)])) rfl (fun _ _ _ _ => rfl) ?_ ?_ ?_
  · refine ⟨[], W, _, rfl, rfl, by simp [cellsT, List.map_map, Function.comp_def], rfl, ⟨by simp, by simp, K.app _, trivial, fun j h1 _ _ => List.getElem?_append_left h1⟩⟩
  · rintro v items acc s ⟨pre, rest, m, rfl, ew, ei, rfl, C⟩
    cases rest with
    | nil => cases ei
    | cons r rest =>
      rw [List.map_cons] at ei
      obtain ⟨rfl, rfl⟩ := List.cons.inj ei
      have hl := beg_len pre (ks, [])
      simp only [List.length_nil] at hl
      have hpl : pre.length + (rest.length + 1) = W.length := by rw [ew]; simp
      simp [sizeLine_eq]
      rw [Wp_mcK (l := [("numbers", .loc (k + 1)), ("parts", .loc (k + 2))]) (by simp only [insOf, C.ka.ins]) rfl]
      simp [sizeLine_eq]
      refine kind_of_spec (k := (r.1, none)) C.ka (by omega) ?_
      simp [sizeLine_eq, Own.cell]
      have ek : dcPut (vd (μ.length + 1) (pre.foldl begF (ks, [])).2) (.t (.str r.1)) (.loc (kset m k (kof (pre.foldl begF (ks, [])).1 (r.1, none)).2).length) = some (vd (μ.length + 1) ((pre ++ [r]).foldl begF (ks, [])).2) := by
        have bk := beg_keys pre (ks, [])
        simp only [List.map_nil, List.nil_append] at bk
        have hnd : (pre.map (·.1)).Nodup := by
          have := hR.nd
          rw [ew, List.map_append, List.nodup_append] at this
          exact this.1
        have hnr : r.1 ∉ pre.map (·.1) := by
          have := hR.nd
          rw [ew, List.map_append, List.nodup_append] at this
          exact fun z => this.2.2 r.1 z r.1 (by simp) rfl
        have e1 : okKeys (vd (μ.length + 1) (pre.foldl begF (ks, [])).2) = true := by
          unfold okKeys
          rw [vd_keys, bk]
          exact decide_eq_true (inr_nd hnd)
        have e2 : (vd (μ.length + 1) (pre.foldl begF (ks, [])).2).length < sizeLine := by
          have : (vd (μ.length + 1) (pre.foldl begF (ks, [])).2).length = pre.length := by
            have := congrArg List.length (vd_keys (pre.foldl begF (ks, [])).2 (μ.length + 1))
            simp only [List.length_map] at this
            omega
          rw [this, sizeLine_eq]
          omega
        have e4 : putA (vd (μ.length + 1) (pre.foldl begF (ks, [])).2) (Sum.inr r.1) (.loc (kset m k (kof (pre.foldl begF (ks, [])).1 (r.1, none)).2).length) = vd (μ.length + 1) ((pre ++ [r]).foldl begF (ks, [])).2 := by
          rw [putA_new (by rw [vd_keys, bk]; intro z; obtain ⟨x, hx, e⟩ := List.mem_map.mp z; exact hnr (Sum.inr.inj e ▸ hx))]
          have : (pre ++ [r]).foldl begF (ks, []) = begF (pre.foldl begF (ks, [])) r := by simp
          rw [this]
          show _ = vd (μ.length + 1) ((pre.foldl begF (ks, [])).2 ++ [(r.1, _)])
          rw [vd_snoc, kset_len, C.len]
          simp [hl.2]
        simp only [dcPut, keyT, e1, decide_eq_true e2, e4, Bool.and_self, if_true]
      refine ⟨_, ek, pre ++ [r], rest, _, by simp [wipeD]; rfl, by rw [ew]; simp, rfl, rfl, ?_⟩
      exact C.next hk r
  · rintro acc s ⟨pre, rest, m, rfl, ew, ei, rfl, C⟩
    have : rest = [] := by simpa using ei.symm
    subst this
    rw [List.append_nil] at ew
    subst ew
    simp [backD]
    have hml := C.len
    have i1 : (m ++ [Cell.dic false (vd (μ.length + 1) (W.foldl begF (ks, [])).2)])[μ.length]? = some (.ins "History" [("web", .t (webT W)), ("kinds", .loc k)]) := by rw [List.getElem?_append_left (by omega)]; exact C.ins
    rw [Wp_setF i1 (by decide) (by simp)]
    have e4 : putA ([("web", .t (webT W)), ("kinds", .loc k)] : List (Str × Fv)) "rows" (Fv.loc m.length) = ([("web", .t (webT W)), ("kinds", .loc k), ("rows", .loc m.length)] : List (Str × Fv)) := rfl
    rw [e4]
    simp [sizeLine_eq]
    have i2 : ((m ++ [Cell.dic false (vd (μ.length + 1) (W.foldl begF (ks, [])).2)]).set μ.length (.ins "History" [("web", .t (webT W)), ("kinds", .loc k), ("rows", .loc m.length)]) ++ [(Own.lst []).cell])[μ.length]? = some (.ins "History" [("web", .t (webT W)), ("kinds", .loc k), ("rows", .loc m.length)]) := by
      rw [List.getElem?_append_left (by simp; omega), List.getElem?_set_self (by simp; omega)]
    rw [Wp_setF i2 (by decide) (by simp)]
    have e5 : putA ([("web", .t (webT W)), ("kinds", .loc k), ("rows", .loc m.length)] : List (Str × Fv)) "steps" (Fv.loc (m.length + 1)) = ([("web", .t (webT W)), ("kinds", .loc k), ("rows", .loc m.length), ("steps", .loc (m.length + 1))] : List (Str × Fv)) := rfl
    rw [e5]
    have hmF : ∀ j, j ≠ μ.length → (((m ++ [Cell.dic false (vd (μ.length + 1) (W.foldl begF (ks, [])).2)]).set μ.length (.ins "History" [("web", .t (webT W)), ("kinds", .loc k), ("rows", .loc m.length)]) ++ [(Own.lst []).cell]).set μ.length (.ins "History" [("web", .t (webT W)), ("kinds", .loc k), ("rows", .loc m.length), ("steps", .loc (m.length + 1))]))[j]? = (m ++ [Cell.dic false (vd (μ.length + 1) (W.foldl begF (ks, [])).2), .lst []])[j]? := fun j hj => by
      rw [List.getElem?_set_ne (fun z => hj z.symm)]
      by_cases q : j < m.length + 1
      · rw [List.getElem?_append_left (by simp; omega), List.getElem?_set_ne (fun z => hj z.symm)]
        by_cases q2 : j < m.length
        · rw [List.getElem?_append_left q2, List.getElem?_append_left q2]
        · have : j = m.length := by omega
          subst this
          simp
      · rw [List.getElem?_append_right (by simp; omega), List.getElem?_append_right (by omega)]
        simp [Own.cell]
        cases z : j - (m.length + 1) with
        | zero =>
          have : j - m.length = 1 := by omega
          simp [this]
        | succ y =>
          have : j - m.length = y + 2 := by omega
          simp [this]
    have hmI : (((m ++ [Cell.dic false (vd (μ.length + 1) (W.foldl begF (ks, [])).2)]).set μ.length (.ins "History" [("web", .t (webT W)), ("kinds", .loc k), ("rows", .loc m.length)]) ++ [(Own.lst []).cell]).set μ.length (.ins "History" [("web", .t (webT W)), ("kinds", .loc k), ("rows", .loc m.length), ("steps", .loc (m.length + 1))]))[μ.length]? = some (.ins "History" [("web", .t (webT W)), ("kinds", .loc k), ("rows", .loc m.length), ("steps", .loc (m.length + 1))]) := by
      rw [List.getElem?_set_self (by simp; omega)]
    have hmL : (((m ++ [Cell.dic false (vd (μ.length + 1) (W.foldl begF (ks, [])).2)]).set μ.length (.ins "History" [("web", .t (webT W)), ("kinds", .loc k), ("rows", .loc m.length)]) ++ [(Own.lst []).cell]).set μ.length (.ins "History" [("web", .t (webT W)), ("kinds", .loc k), ("rows", .loc m.length), ("steps", .loc (m.length + 1))])).length = m.length + 2 := by simp
    generalize ((m ++ [Cell.dic false (vd (μ.length + 1) (W.foldl begF (ks, [])).2)]).set μ.length (.ins "History" [("web", .t (webT W)), ("kinds", .loc k), ("rows", .loc m.length)]) ++ [(Own.lst []).cell]).set μ.length (.ins "History" [("web", .t (webT W)), ("kinds", .loc k), ("rows", .loc m.length), ("steps", .loc (m.length + 1))]) = mF at hmF hmI hmL
    have low : ∀ {j : Nat} {c : Cell}, j ≠ μ.length → m[j]? = some c → mF[j]? = some c := fun {j c} h1 h2 => by rw [hmF j h1, List.getElem?_append_left (List.getElem?_eq_some_iff.mp h2).1]; exact h2
    have bl := (beg_len W (ks, [])).2
    simp only [List.length_nil, Nat.zero_add] at bl
    have HB : HAt mF k μ.length W (begS W ks).1 (begS W ks).2.1 (begS W ks).2.2 := by
      refine ⟨?_, ?_, VL.frame C.vl fun j h1 h2 => ?_, ?_, ?_, ⟨low (by omega) C.ka.ins, low (by omega) C.ka.tb, low (by omega) C.ka.pt⟩, hk⟩
      · rw [hmI, hml, show μ.length + 1 + W.length + 1 = μ.length + W.length + 2 by omega]
      · rw [hmF _ (by omega), List.getElem?_append_right (by omega), hml]
        simp
        rfl
      · have h2' : j < μ.length + 1 + (W.foldl begF (ks, [])).2.length := h2
        rw [hmF j (by omega), List.getElem?_append_left (by omega)]
      · rw [hmF _ (by omega), List.getElem?_append_right (by omega), hml, show μ.length + W.length + 2 - (μ.length + 1 + W.length) = 1 by omega]
        rfl
      · have := beg_keys W (ks, [])
        simp only [List.map_nil, List.nil_append] at this
        exact this
    have FB : ∀ j, j < μ.length → j ≠ k + 1 → j ≠ k + 2 → mF[j]? = μ[j]? := fun j h1 h2 h3 => by
      rw [hmF j (by omega), List.getElem?_append_left (by omega)]
      exact C.fr j h1 h2 h3
    simp [prog_lots, enumV_eq]
    refine Wp_forInv (IvH W lots μ k μ.length ks) (fun _ _ _ => rfl) ?_ ?_ _ _ ⟨[], lots, none, none, mF, rfl, rfl, rfl, HB, by omega, FB⟩
    · rintro s ⟨pre, rest, o4, o5, m2, rfl, el, ei, H2, L2, F2⟩
      have hrest : rest = [] := by
        cases rest with
        | nil => rfl
        | cons l rest => cases ei
      subst hrest
      rw [List.append_nil] at el
      subst el
      simp
      refine ⟨m2, trunc_new (fun z => ?_), hQ m2 H2 L2 F2⟩
      have z2 := congrArg (fun l => l[μ.length]?) z
      rw [List.getElem?_take_of_lt (by simp), H2.ins] at z2
      simp at z2
    · rintro v items s ⟨pre, rest, o4, o5, m2, rfl, el, ei, H2, L2, F2⟩
      cases rest with
      | nil => cases ei
      | cons l rest =>
        simp only [lotsU, List.map_cons, enF] at ei
        obtain ⟨rfl, rfl⟩ := List.cons.inj ei
        have hpl : pre.length < 100 := by
          have : lots.length = pre.length + (rest.length + 1) := by rw [el]; simp
          omega
        have ok : ∀ (q : List (List Str)) (a : Nat) (s : HS) (N : Nat), Ok W s.1 s.2.1 → Bd N s.1 s.2.1 s.2.2 → Bd (N + q.length * W.length) (lotsS W a q s).1 (lotsS W a q s).2.1 (lotsS W a q s).2.2 := by
          intro q
          induction q with
          | nil => intro a s N _ h; rw [List.length_nil, Nat.zero_mul, Nat.add_zero]; exact h
          | cons x q ih =>
            intro a s N hO h
            have := ih (a + 1) (lotS W a x s) (N + W.length) (lot_ok hS hO a x).1 (bd_lot hS hR.ne hO h a x)
            rw [List.length_cons, Nat.succ_mul, show N + (q.length * W.length + W.length) = N + W.length + q.length * W.length by omega]
            exact this
        have hO0 := beg_ok hS nd wf
        have hB0 := bd_beg hS nd wf (N := 10010) (by omega) (by omega)
        have hB := ok pre 0 _ _ hO0 hB0
        have hmul : pre.length * W.length ≤ 1000 := by
          have := Nat.mul_le_mul (show pre.length ≤ 100 by omega) hW
          omega
        simp
        rw [Wp_mcK (l := [("web", .t (webT W)), ("kinds", .loc k), ("rows", .loc (μ.length + 1 + W.length)), ("steps", .loc (μ.length + W.length + 2))]) (by simp only [insOf, H2.ins]) rfl]
        simp
        refine do_spec (a := pre.length) hR (by omega) hs (.inr rfl) H2 (lots_ok hS pre 0 _ hO0) hB (by omega) fun m3 H3 F3 => ?_
        simp
        refine ⟨pre ++ [l], rest, _, _, m3, rfl, by rw [el]; simp, by simp [lotsU], ?_, F3.1.trans L2, fun j h1 h2 h3 => (F3.2 j h1 h2 h3).trans (F2 j h1 h2 h3)⟩
        rw [lotsS_snoc, Nat.zero_add]
        exact H3
end G06
namespace G06
open PySem PySem.Spec L2 Lf
theorem Wp_walkLoc {n : Nat} {xs : List Fv} {δ : List (Option Lf.Slot)} {μ : List Cell} (h : μ[n]? = some (.lst xs)) (Q : Out Its → DSt → Prop) : Wp (walkOf (.loc n)) ⟨δ, μ⟩ Q = Q (.ok ⟨xs.map Fv.val, still (.loc n) false xs⟩) ⟨δ, μ⟩ := Wp_some (by
  show bnd (lend (.loc n)) walkSeq _ = _
  simp [lend, bnd, Lf.ret, walkSeq, seqOf, h])
theorem still_loc {n : Nat} {xs : List Fv} {δ : List (Option Lf.Slot)} {μ : List Cell} (h : μ[n]? = some (.lst xs)) : still (.loc n) false xs ⟨δ, μ⟩ = true := by
  simp [still, seqOf, h, Fv.sms_refl]
theorem flats_nat : ∀ l : List Nat, flats (l.map fun k : Nat => Fv.t (.int (k : Int))) = some (l.map fun k : Nat => V.int (k : Int))
  | [] => rfl
  | k :: r => by
    have := flats_nat r
    simp only [List.map_cons, flats, T.flat, this]
theorem find_nat {l : List Nat} {k : Nat} (h : k ∈ l) : (l.map fun k : Nat => V.int (k : Int)).findIdx? (fun q => eqV q (.int (k : Int))) = some (l.idxOf k) := by
  induction l with
  | nil => cases h
  | cons a r ih =>
    simp only [List.map_cons, List.findIdx?_cons, List.idxOf_cons]
    by_cases e : a = k
    · subst e
      simp [eqV]
    · have hk : k ∈ r := by
        rcases List.mem_cons.mp h with z | z
        · exact absurd z.symm e
        · exact z
      have hb : (a == k) = false := by simpa using e
      have e2 : eqV (V.int (a : Int)) (V.int (k : Int)) = false := by simp [eqV]; omega
      rw [e2, ih hk, hb]
      simp
theorem Wp_indexL {n : Nat} {l : List Nat} {k : Nat} (hk : k ∈ l) {δ : List (Option Lf.Slot)} {μ : List Cell} (h : μ[n]? = some (lcell l)) (Q : Out Val → DSt → Prop) : Wp (mIndex (.loc n) [.t (.int (k : Int))]) ⟨δ, μ⟩ Q = Q (.ok (.t (.int ((l.idxOf k : Nat) : Int)))) ⟨δ, μ⟩ := Wp_some (by
  have h' : μ[n]? = some (.lst (l.map fun k : Nat => Fv.t (.int (k : Int)))) := h
  simp only [mIndex, seqOf, h', T.flat, flats_nat, find_nat hk])
theorem flatsT_nat : ∀ l : List Nat, flats ((l.map fun k : Nat => T.int (k : Int)).map Fv.t) = some (l.map fun k : Nat => V.int (k : Int)) := fun l => by
  rw [List.map_map]
  exact flats_nat l
theorem Wp_indexT {l : List Nat} {k : Nat} (hk : k ∈ l) (s : DSt) (Q : Out Val → DSt → Prop) : Wp (mIndex (.t (.lst (l.map fun k : Nat => T.int (k : Int)))) [.t (.int (k : Int))]) s Q = Q (.ok (.t (.int ((l.idxOf k : Nat) : Int)))) s := Wp_some (by
  simp only [mIndex, seqOf, T.flat, flatsT_nat, find_nat hk])
theorem bd_lots {W : List Row} (hS : Src W) (hne : W ≠ []) : ∀ (q : List (List Str)) (a : Nat) (s : HS) (N : Nat), Ok W s.1 s.2.1 → Bd N s.1 s.2.1 s.2.2 → Bd (N + q.length * W.length) (lotsS W a q s).1 (lotsS W a q s).2.1 (lotsS W a q s).2.2
  | [], a, s, N, _, h => by rw [List.length_nil, Nat.zero_mul, Nat.add_zero]; exact h
  | x :: q, a, s, N, hO, h => by
    have := bd_lots hS hne q (a + 1) (lotS W a x s) (N + W.length) (lot_ok hS hO a x).1 (bd_lot hS hne hO h a x)
    rw [List.length_cons, Nat.succ_mul, show N + (q.length * W.length + W.length) = N + W.length + q.length * W.length by omega]
    exact this
def kdT (vs : Vs) (r : Row) : Key × T := (Sum.inr r.1, .lst ((idxs (vget vs r.1)).map T.int))
def IvK (W : List Row) (vs : Vs) (s0 : DSt) (items : List Val) (acc : List (Key × Fv)) (s : DSt) : Prop := s = s0 ∧ ∃ pre rest : List Row, W = pre ++ rest ∧ items = rest.map (fun r => Val.t (.str r.1)) ∧ acc = (pre.map (kdT vs)).map fun p => (p.1, Fv.t p.2)
theorem kinds_spec {μ : List Cell} {W : List Row} {lots : List (List Str)} {Q : Out Ret → List Cell → Prop} (hR : Rows W) (hW : W.length ≤ 10) (hs : ∀ r ∈ W, r.2.length < 1000) (hm : lots.length ≤ 100) (hin : ∀ l ∈ lots, ∀ x ∈ l, x ∈ W.map (·.1))
    (hQ : Q (.ok (.own (.dic false (W.map (kdT (hist W lots []).2.1))))) μ) : Fw F_kinds [.t (webT W), .t (progT lots)] μ Q := by
  have hS : Src W := ⟨hR.nd, hR.si⟩
  refine Fw_run ?_
  unfold s_kinds
  simp [startD]
  refine kinds_make ?_
  simp
  refine Wp_mkObjC ?_
  have hl1 : (μ ++ [Cell.ins "Kinds" [("numbers", .loc (μ.length + 1)), ("parts", .loc (μ.length + 2))], .dic false [], .lst []]).length = μ.length + 3 := by simp
  have K : KAt (μ ++ [Cell.ins "Kinds" [("numbers", .loc (μ.length + 1)), ("parts", .loc (μ.length + 2))], .dic false [], .lst []]) μ.length [] := ⟨by simp, by simp [tblC], by simp [partsC]⟩
  have bd : ∀ c ∈ (hist W lots []).2.1.map (·.1), (vget (hist W lots []).2.1 c).length < 100000 := fun c hc => by
    have hB := (bd_lots hS hR.ne lots 0 _ _ (beg_ok hS List.nodup_nil wf_nil) (bd_beg hS List.nodup_nil wf_nil (N := 10010) (by simp; omega) (by omega))).vs c hc
    have hmul : lots.length * W.length ≤ 1000 := by
      have := Nat.mul_le_mul (show lots.length ≤ 100 by omega) hW
      omega
    have : (vget (hist W lots []).2.1 c).length ≤ 10010 + lots.length * W.length := hB
    omega
  refine history_init hR hW hs hm hin K (by omega) List.nodup_nil wf_nil (by simp) fun m H L F => .inl ⟨rfl, ?_⟩
  rw [hl1] at H L F ⊢
  simp [H.atR, web_cells]
  refine Wp_dcK (IvK W (hist W lots []).2.1 ⟨[some (.t (webT W)), some (.t (progT lots)), some (.loc (μ.length + 3 + 1 + W.length)), none, none], m⟩) rfl (fun _ _ _ _ => rfl) ⟨rfl, [], W, rfl, by simp [cellsT, List.map_map, Function.comp_def], rfl⟩ ?_ ?_
  · rintro v items acc s ⟨rfl, pre, rest, ew, ei, rfl⟩
    cases rest with
    | nil => cases ei
    | cons r rest =>
      rw [List.map_cons] at ei
      obtain ⟨rfl, rfl⟩ := List.cons.inj ei
      have hrW : r.1 ∈ W.map (·.1) := List.mem_map.mpr ⟨r, by rw [ew]; simp, rfl⟩
      obtain ⟨j, j1, j2, j3, j4, j5⟩ := H.row hrW
      simp [j4]
      rw [Wp_walkLoc j3]
      simp
      refine Wp_compA (vget (hist W lots []).2.1 r.1) (fun k : Nat => Val.t (.int (k : Int))) (fun k => T.int (((vget (hist W lots []).2.1 r.1).idxOf k : Nat) : Int)) rfl rfl (by simp [List.map_map, Function.comp_def]) (by rw [sizeLine_eq]; have := bd r.1 (by rw [H.keys]; exact hrW); omega) (still_loc j3) ?_ ?_
      · intro n hn acc hacc
        simp [wipeD, j4]
        rw [Wp_methL j3]
        simp
        rw [Wp_indexL hn j3]
        simp [wipeD]
        exact hacc
      · simp
        have hnd : ((pre ++ r :: rest).map (·.1)).Nodup := by rw [← ew]; exact hR.nd
        rw [List.map_append, List.nodup_append] at hnd
        have hnr : r.1 ∉ pre.map (·.1) := fun z => hnd.2.2 r.1 z r.1 (by simp) rfl
        have ek : (pre.map ((fun p : Key × T => (p.1, Fv.t p.2)) ∘ kdT (hist W lots []).2.1)).map (·.1) = (pre.map (·.1)).map (Sum.inr : Str → Key) := by simp [List.map_map, Function.comp_def, kdT]
        have e1 : okKeys (pre.map ((fun p : Key × T => (p.1, Fv.t p.2)) ∘ kdT (hist W lots []).2.1)) = true := by
          unfold okKeys
          rw [ek]
          exact decide_eq_true (inr_nd hnd.1)
        have e2 : (pre.map ((fun p : Key × T => (p.1, Fv.t p.2)) ∘ kdT (hist W lots []).2.1)).length < sizeLine := by
          rw [sizeLine_eq, List.length_map]
          have : W.length = pre.length + (rest.length + 1) := by rw [ew]; simp
          omega
        have e4 := putA_new (k := (Sum.inr r.1 : Key)) (a := Fv.t (T.lst ((vget (hist W lots []).2.1 r.1).map (fun k => T.int (((vget (hist W lots []).2.1 r.1).idxOf k : Nat) : Int))))) (l := pre.map ((fun p : Key × T => (p.1, Fv.t p.2)) ∘ kdT (hist W lots []).2.1)) (by rw [ek]; intro z; obtain ⟨x, hx, e⟩ := List.mem_map.mp z; exact hnr (Sum.inr.inj e ▸ hx))
        refine ⟨_, by simp only [dcPut, keyT, e1, decide_eq_true e2, Bool.and_self, if_true]; rw [e4], by simp [wipeD], pre ++ [r], rest, by rw [ew]; simp, rfl, ?_⟩
        simp [kdT, idxs, List.map_map, Function.comp_def]
  · rintro acc s ⟨rfl, pre, rest, ew, ei, rfl⟩
    have : rest = [] := by simpa using ei.symm
    subst this
    rw [List.append_nil] at ew
    subst ew
    simp only [backD, Bk_ok, Wp_plnDic, Wp_ret, Sk_rf, Rk_rf]
    refine ⟨μ, trunc_old ?_, hQ⟩
    refine List.ext_getElem? fun j => ?_
    by_cases q : j < μ.length
    · rw [List.getElem?_take_of_lt q, F j (by omega) (by omega) (by omega), List.getElem?_append_left q]
    · rw [List.getElem?_eq_none (by rw [List.length_take]; omega), List.getElem?_eq_none (by omega)]
end G06
namespace G06
open PySem PySem.Spec L2 Lf
/-! ### the law's own history -/
structure LAt (μ : List Cell) (t d : Nat) (W : List Row) (ks : List PK) (vs : Vs) : Prop where
  tb : μ[t]? = some (tblC ks)
  dc : μ[d]? = some (.dic false (vd (d + 1) vs))
  vl : VL μ (d + 1) vs
  keys : vs.map (·.1) = W.map (·.1)
  td : t < d
  len : μ.length = d + 1 + W.length
section
variable {μ : List Cell} {t d : Nat} {W : List Row} {ks : List PK} {vs : Vs}
theorem LAt.vlen (a : LAt μ t d W ks vs) : vs.length = W.length := by
  have := congrArg List.length a.keys
  simpa using this
theorem LAt.dcK (a : LAt μ t d W ks vs) {δ : List (Option Lf.Slot)} : dcK ⟨δ, μ⟩ (.loc d) = some (vd (d + 1) vs) := by simp only [Lf.dcK, a.dc]
theorem LAt.row (a : LAt μ t d W ks vs) {c : Str} (hc : c ∈ W.map (·.1)) : ∃ j, d + 1 ≤ j ∧ j < d + 1 + W.length ∧ μ[j]? = some (lcell (vget vs c)) ∧ (∀ {δ : List (Option Lf.Slot)} (Q : Out Val → DSt → Prop), Wp (dIx (.loc d) (.t (.str c))) ⟨δ, μ⟩ Q = Q (.ok (.loc j)) ⟨δ, μ⟩) ∧ ∀ n, LAt (μ.set j (lcell (vget vs c ++ [n]))) t d W ks (vadd vs c n) := by
  obtain ⟨j, h1, h2, h3, h4, h5⟩ := a.vl.get (c := c) (by rw [a.keys]; exact hc)
  have hv := a.vlen
  have hk := a.td
  refine ⟨j, h2, by omega, h4, fun Q => Wp_ixD a.dcK rfl h1 Q, fun n => ⟨?_, ?_, h5 n, by rw [vadd_keys]; exact a.keys, hk, by rw [List.length_set]; exact a.len⟩⟩
  · rw [List.getElem?_set_ne (by omega)]; exact a.tb
  · rw [List.getElem?_set_ne (by omega), vd_add]; exact a.dc
theorem LAt.kind (a : LAt μ t d W ks vs) (ks' : List PK) : LAt (μ.set t (tblC ks')) t d W ks' vs := by
  have hk := a.td
  have hl := a.len
  refine ⟨by rw [List.getElem?_set_self (by omega)], ?_, a.vl.frame fun j h1 h2 => List.getElem?_set_ne (by omega), a.keys, hk, by rw [List.length_set]; exact hl⟩
  rw [List.getElem?_set_ne (by omega)]; exact a.dc
end
def Ft (t d : Nat) (μ m : List Cell) : Prop := ∀ j, j < d → j ≠ t → m[j]? = μ[j]?
theorem Ft.set {t d j : Nat} {μ m : List Cell} {c : Cell} (h : Ft t d μ m) (hj : j = t ∨ d ≤ j) : Ft t d μ (m.set j c) := fun i h1 h2 => by rw [List.getElem?_set_ne (by omega)]; exact h i h1 h2
def ltT (l : List Str) : T := .lst (l.map T.str)
theorem Wp_setIxD {n : Nat} {l : List (Key × Fv)} {x : T} {k : Key} {f : Nat} {δ : List (Option Lf.Slot)} {μ : List Cell} (h : μ[n]? = some (.dic false l)) (hk : keyT x = some k) (ho : okKeys l = true) (hl : l.length < sizeLine) (Q : Out Unit → DSt → Prop) : Wp (setIx (.loc n) (.t x) (.loc f)) ⟨δ, μ⟩ Q = Q (.ok ()) ⟨δ, μ.set n (.dic false (putA l k (.loc f)))⟩ := Wp_some (by
  simp [setIx, asFv, bnd, Lf.ret, Lf.dcK, h, hk, ho, hl])
theorem LAt.put {m : List Cell} {t d : Nat} {pre : List Row} {ks : List PK} {vs : Vs} (a : LAt m t d pre ks vs) {r : Row} (k : Nat) : LAt ((m ++ [lcell [k]]).set d (.dic false (vd (d + 1) (vs ++ [(r.1, [k])])))) t d (pre ++ [r]) ks (vs ++ [(r.1, [k])]) := by
  have hk := a.td
  have hl := a.len
  have hv := a.vlen
  refine ⟨?_, by rw [List.getElem?_set_self (by simp; omega)], ?_, by simp [a.keys], hk, by simp; omega⟩
  · rw [List.getElem?_set_ne (by omega), List.getElem?_append_left (by omega)]; exact a.tb
  · refine VL.snoc (a.vl.frame fun j h1 h2 => ?_) ?_
    · rw [List.getElem?_set_ne (by omega), List.getElem?_append_left (by omega)]
    · rw [List.getElem?_set_ne (by omega), List.getElem?_append_right (by omega), hl, hv]
      simp
/-! freezing the rows -/
theorem frz_vd : ∀ (vs : Vs) (b : Nat) {δ : List (Option Lf.Slot)} {m : List Cell}, VL m b vs → ∃ m', frzFs (vd b vs) ⟨δ, m⟩ = some (.ok (vs.map fun p => ((Sum.inr p.1 : Key), T.lst (p.2.map fun k : Nat => T.int (k : Int)))), ⟨δ, m'⟩) ∧ m'.length = m.length ∧ ∀ j, j < b → m'[j]? = m[j]?
  | [], b, δ, m, _ => ⟨m, rfl, rfl, fun _ _ => rfl⟩
  | p :: r, b, δ, m, h => by
    have e0 : m[b]? = some (.lst (p.2.map fun k : Nat => Fv.t (.int (k : Int)))) := h.1
    have ep : plains (p.2.map fun k : Nat => Fv.t (.int (k : Int))) = some (p.2.map fun k : Nat => T.int (k : Int)) := by
      have := plains_t (p.2.map fun k : Nat => T.int (k : Int))
      rwa [List.map_map] at this
    obtain ⟨m', e1, e2, e3⟩ := frz_vd r (b + 1) (δ := δ) (m := m.set b (.fz (.lst (p.2.map fun k : Nat => T.int (k : Int))))) (h.2.frame fun j h1 _ => List.getElem?_set_ne (by omega))
    refine ⟨m', ?_, by rw [e2]; simp, fun j hj => by rw [e3 j (by omega), List.getElem?_set_ne (by omega)]⟩
    simp only [vd, frzFs, bnd, frzC, e0, ep, e1, Lf.ret, List.map_cons]
theorem Wp_frzL {m : List Cell} {t d : Nat} {W : List Row} {ks : List PK} {vs : Vs} (a : LAt m t d W ks vs) {δ : List (Option Lf.Slot)} {Q : Out T → DSt → Prop} (h : ∀ m', m'.length = m.length → (∀ j, j < d → m'[j]? = m[j]?) → Q (.ok (.dic (vs.map fun p => ((Sum.inr p.1 : Key), T.lst (p.2.map fun k : Nat => T.int (k : Int)))))) ⟨δ, m'⟩) : Wp (frzV (.loc d)) ⟨δ, m⟩ Q := by
  obtain ⟨m', e1, e2, e3⟩ := frz_vd vs (d + 1) (δ := δ) a.vl
  have hd : m'[d]? = some (.dic false (vd (d + 1) vs)) := by rw [e3 d (by omega)]; exact a.dc
  refine ⟨_, _, by simp only [frzV, frzN, a.dc, e1, hd], h (m'.set d (.fz (.dic (vs.map fun p => ((Sum.inr p.1 : Key), T.lst (p.2.map fun k : Nat => T.int (k : Int))))))) (by rw [List.length_set]; exact e2) fun j hj => ?_⟩
  rw [List.getElem?_set_ne (by omega)]
  exact e3 j (by omega)
theorem inL_snoc (lot : List Str) (pre : List Row) (r : Row) : inL lot (pre ++ [r]) = if r.1 ∈ lot then inL lot pre ++ [r] else inL lot pre := by
  unfold inL
  rw [List.filter_append]
  by_cases h : r.1 ∈ lot <;> simp [h]
end G06
namespace G06
open PySem PySem.Spec L2 Lf
def vsT (vs : Vs) : T := .dic (vs.map fun p => ((Sum.inr p.1 : Key), T.lst (p.2.map fun k : Nat => T.int (k : Int))))
def IvL (W : List Row) (lots : List (List Str)) (μ : List Cell) (t : Nat) (ks : List PK) (items : List Val) (s : DSt) : Prop := ∃ (pre rest : List Row) (o4 o5 : Option Lf.Slot) (m : List Cell), s = ⟨[some (.t (.lst (W.map rowT))), some (.t (.lst (lots.map ltT))), some (.loc t), some (.loc μ.length), o4, o5, none, none, none, none, none], m⟩ ∧ W = pre ++ rest ∧ items = rest.map (fun r => Val.t (rowT r)) ∧ LAt m t μ.length pre (pre.foldl begF (ks, [])).1 (pre.foldl begF (ks, [])).2 ∧ Ft t μ.length μ m
def IvM (W : List Row) (lots : List (List Str)) (μ : List Cell) (t : Nat) (ks : List PK) (items : List Val) (s : DSt) : Prop := ∃ (pre rest : List (List Str)) (o4 o5 o7 o8 o9 : Option Lf.Slot) (m : List Cell), s = ⟨[some (.t (.lst (W.map rowT))), some (.t (.lst (lots.map ltT))), some (.loc t), some (.loc μ.length), o4, o5, some (.own (.lst ((lotsS W 0 pre (begS W ks)).2.2.map stT))), o7, o8, o9, none], m⟩ ∧ lots = pre ++ rest ∧ items = (rangeV 0 lots.length).drop pre.length ∧ LAt m t μ.length W (lotsS W 0 pre (begS W ks)).1 (lotsS W 0 pre (begS W ks)).2.1 ∧ Ft t μ.length μ m
def IvR (W : List Row) (lots : List (List Str)) (μ : List Cell) (t a : Nat) (lot : List Str) (vs : Vs) (s0 : LS) (items : List Val) (s : DSt) : Prop := ∃ (pre rest : List Row) (o4 o5 o9 : Option Lf.Slot) (m : List Cell), s = ⟨[some (.t (.lst (W.map rowT))), some (.t (.lst (lots.map ltT))), some (.loc t), some (.loc μ.length), o4, o5, some (.own (.lst (((inL lot pre).foldl (rowS a vs) s0).2.1.map stT))), some (.t (.int (a : Nat))), some (.own (.lst (((inL lot pre).foldl (rowS a vs) s0).2.2.map frT))), o9, none], m⟩ ∧ W = pre ++ rest ∧ items = rest.map (fun r => Val.t (rowT r)) ∧ LAt m t μ.length W ((inL lot pre).foldl (rowS a vs) s0).1 vs ∧ Ft t μ.length μ m
def IvF (W : List Row) (lots : List (List Str)) (μ : List Cell) (t a : Nat) (vs : Vs) (L : LS) (items : List Val) (s : DSt) : Prop := ∃ (pre rest : List (Str × Nat)) (o4 o5 o8 o9 : Option Lf.Slot) (m : List Cell), s = ⟨[some (.t (.lst (W.map rowT))), some (.t (.lst (lots.map ltT))), some (.loc t), some (.loc μ.length), o4, o5, some (.own (.lst (L.2.1.map stT))), some (.t (.int (a : Nat))), o8, o9, none], m⟩ ∧ L.2.2 = pre ++ rest ∧ items = rest.map (fun r => Val.t (frT r)) ∧ LAt m t μ.length W L.1 (addS vs pre) ∧ Ft t μ.length μ m
theorem history_spec {μ : List Cell} {t : Nat} {W : List Row} {ks : List PK} {lots : List (List Str)} {Q : Out Ret → List Cell → Prop} (hR : Rows W) (hW : W.length ≤ 10) (hs : ∀ r ∈ W, r.2.length < 1000) (hm : lots.length ≤ 100) (hin : ∀ l ∈ lots, ∀ x ∈ l, x ∈ W.map (·.1)) (K : μ[t]? = some (tblC ks)) (nd : ks.Nodup) (wf : Wf ks) (hks : ks.length ≤ 10000)
    (hQ : ∀ m, μ.length ≤ m.length → (∀ j, j < μ.length → j ≠ t → m[j]? = μ[j]?) → Q (.ok (.val (.t (.tup [vsT (hist W lots ks).2.1, .lst ((hist W lots ks).2.2.map stT)])))) m) :
    Fw F__law_history [.t (.lst (W.map rowT)), .t (.lst (lots.map ltT)), .loc t] μ Q := by
  have hS : Src W := ⟨hR.nd, hR.si⟩
  have ht : t < μ.length := (List.getElem?_eq_some_iff.mp K).1
  have hQ' : ∀ m, μ.length ≤ m.length → (∀ j, j < μ.length → j ≠ t → m[j]? = μ[j]?) → ∃ m', trunc μ m = some m' ∧ Q (.ok (.val (.t (.tup [vsT (hist W lots ks).2.1, .lst ((hist W lots ks).2.2.map stT)])))) m' := fun m h1 h2 => by
    by_cases q : m.take μ.length = μ
    · exact ⟨μ, trunc_old q, hQ μ (Nat.le_refl _) fun _ _ _ => rfl⟩
    · exact ⟨m, trunc_new q, hQ m h1 h2⟩
  refine Fw_run ?_
  unfold s__law_history
  simp [startD]
  refine Wp_forInv (IvL W lots μ t ks) (fun _ _ _ => rfl) ?_ ?_ _ _ ⟨[], W, none, none, _, rfl, rfl, by simp [Function.comp_def], ⟨by simp [Own.cell]; rw [List.getElem?_append_left ht]; exact K, by simp [Own.cell, vd], trivial, rfl, ht, by simp⟩, fun j h1 _ => by rw [List.getElem?_append_left h1]⟩
  · rintro s ⟨pre, rest, o4, o5, m, rfl, ew, ei, A, F⟩
    have : rest = [] := by simpa using ei.symm
    subst this
    rw [List.append_nil] at ew
    subst ew
    simp
    rw [Wp_rng1 (by omega) (by omega)]
    simp
    refine Wp_forInv (IvM W lots μ t ks) (fun _ _ _ => rfl) ?_ ?_ _ _ ⟨[], lots, o4, o5, none, none, none, m, rfl, rfl, by simp, A, F⟩
    · rintro s ⟨pre, rest, o4, o5, o7, o8, o9, m, rfl, el, ei, A, F⟩
      have : rest = [] := by
        have := congrArg List.length ei
        rw [el] at this
        simp at this
        exact List.length_eq_zero_iff.mp this.symm
      subst this
      rw [List.append_nil] at el
      subst el
      simp
      refine Wp_frzL A fun m' l1 l2 => ?_
      simp
      rw [Wp_frzVO (by rfl)]
      simp [sizeLine_eq, Own.tree]
      exact hQ' m' (by rw [l1, A.len]; omega) fun j h1 h2 => by rw [l2 j h1]; exact F j h1 h2
    · rintro v items s ⟨pre, rest, o4, o5, o7, o8, o9, m, rfl, el, ei, A, F⟩
      cases rest with
      | nil =>
        rw [el] at ei
        simp [List.drop_eq_nil_of_le] at ei
      | cons lot rest =>
      have hpl : pre.length < lots.length := by rw [el]; simp
      have hi : (rangeV 0 lots.length).drop pre.length = Val.t (.int ((pre.length : Nat) : Int)) :: (rangeV 0 lots.length).drop (pre.length + 1) := by
        rw [List.drop_eq_getElem_cons (by simp; omega)]
        simp [rangeV]
      rw [hi] at ei
      obtain ⟨rfl, rfl⟩ := List.cons.inj ei
      have hlot : atI (lots.map ltT) ((pre.length : Nat) : Int) = some (ltT lot) := by
        have : ixN (lots.map ltT).length ((pre.length : Nat) : Int) = some pre.length := by
          unfold ixN
          rw [List.length_map]
          simp
          omega
        unfold atI
        rw [this]
        show (lots.map ltT)[pre.length]? = _
        rw [el]
        simp
      have hO0 := beg_ok hS nd wf
      have hO := lots_ok hS pre 0 _ hO0
      have hB := bd_lots hS hR.ne pre 0 _ _ hO0 (bd_beg hS nd wf (N := 10010) (by omega) (by omega))
      have hmul : pre.length * W.length ≤ 1000 := by
        have := Nat.mul_le_mul (show pre.length ≤ 100 by omega) hW
        omega
      rw [show (lotsS W 0 pre (begS W ks)) = ((lotsS W 0 pre (begS W ks)).1, (lotsS W 0 pre (begS W ks)).2.1, (lotsS W 0 pre (begS W ks)).2.2) from rfl] at hO
      generalize hks1 : (lotsS W 0 pre (begS W ks)).1 = ks1 at *
      generalize hvs1 : (lotsS W 0 pre (begS W ks)).2.1 = vs1 at *
      generalize hst1 : (lotsS W 0 pre (begS W ks)).2.2 = st1 at *
      simp
      refine Wp_forInv (IvR W lots μ t pre.length lot vs1 (ks1, st1, [])) (fun _ _ _ => rfl) ?_ ?_ _ _ ⟨[], W, o4, o5, o9, m, rfl, rfl, by simp [Function.comp_def], A, F⟩
      · rintro s ⟨pr2, rest2, o4, o5, o9, m, rfl, ew, ei, A, F⟩
        have : rest2 = [] := by simpa using ei.symm
        subst this
        rw [List.append_nil] at ew
        subst ew
        simp
        refine Wp_forInv (IvF W lots μ t pre.length vs1 ((inL lot W).foldl (rowS pre.length vs1) (ks1, st1, []))) (fun _ _ _ => rfl) ?_ ?_ _ _ ⟨[], ((inL lot W).foldl (rowS pre.length vs1) (ks1, st1, [])).2.2, o4, o5, _, o9, m, rfl, rfl, by simp [Function.comp_def], A, F⟩
        · rintro s ⟨pr3, rest3, o4, o5, o8, o9, m, rfl, ef, ei, A, F⟩
          have : rest3 = [] := by simpa using ei.symm
          subst this
          rw [List.append_nil] at ef
          rw [← ef] at A
          simp
          have e5 : lotsS W 0 (pre ++ [lot]) (begS W ks) = lotS W pre.length lot (ks1, vs1, st1) := by rw [lotsS_snoc, Nat.zero_add, ← hks1, ← hvs1, ← hst1]
          refine ⟨pre ++ [lot], rest, o4, o5, some (.t (.int (pre.length : Nat))), o8, o9, m, ?_, by rw [el]; simp, by simp, ?_, F⟩
          · rw [e5]
            rfl
          · rw [e5]
            exact A
        · rintro v items s ⟨pr3, rest3, o4, o5, o8, o9, m, rfl, ef, ei, A, F⟩
          cases rest3 with
          | nil => cases ei
          | cons p rest3 =>
          rw [List.map_cons] at ei
          obtain ⟨rfl, rfl⟩ := List.cons.inj ei
          have hli := lot_li hS (s := (ks1, vs1, st1)) hO pre.length lot
          have hpc : p.1 ∈ W.map (·.1) := by
            have : p.1 ∈ (lotL W pre.length lot (ks1, vs1, st1)).2.2.map (·.1) := List.mem_map.mpr ⟨p, by rw [show lotL W pre.length lot (ks1, vs1, st1) = (inL lot W).foldl (rowS pre.length vs1) (ks1, st1, []) from rfl, ef]; simp, rfl⟩
            rw [hli.fr] at this
            obtain ⟨q, hq, e⟩ := List.mem_map.mp this
            exact List.mem_map.mpr ⟨q, (List.mem_filter.mp hq).1, e⟩
          have hkv : vs1.map (·.1) = W.map (·.1) := hO.keys
          obtain ⟨j, j1, j2, j3, j4, j5⟩ := A.row hpc
          have hlen := fold_len pre.length vs1 (inL lot W) (ks1, st1, [])
          have hfl : (inL lot W).length ≤ W.length := List.length_filter_le _ _
          have hpl : pr3.length + (rest3.length + 1) = (inL lot W).length := by
            have := hlen.2.2
            rw [ef] at this
            simpa using this
          have hvl : (vget (addS vs1 pr3) p.1).length < 100000 := by
            rw [vget_addS vs1 pr3 p.1 (by rw [hkv]; exact hpc), List.length_append]
            have := fget_len p.1 pr3
            have := hB.vs p.1 (by show p.1 ∈ vs1.map (·.1); rw [hkv]; exact hpc)
            omega
          simp [frT, j4]
          rw [Wp_methL j3]
          simp
          rw [Wp_appL j3 (by rw [sizeLine_eq, List.length_map]; omega)]
          simp
          have ec : Cell.lst ((vget (addS vs1 pr3) p.1).map (fun k : Nat => Fv.t (.int (k : Int))) ++ [Fv.t (.int (p.2 : Int))]) = lcell (vget (addS vs1 pr3) p.1 ++ [p.2]) := by simp [lcell]
          rw [ec]
          refine ⟨pr3 ++ [p], rest3, _, o5, o8, _, _, rfl, by rw [ef]; simp, rfl, ?_, F.set (.inr (by omega))⟩
          have := j5 p.2
          rw [show addS vs1 (pr3 ++ [p]) = vadd (addS vs1 pr3) p.1 p.2 by simp [addS]]
          exact this
      · rintro v items s ⟨pr2, rest2, o4, o5, o9, m, rfl, ew, ei, A, F⟩
        cases rest2 with
        | nil => cases ei
        | cons r rest2 =>
        rw [List.map_cons] at ei
        obtain ⟨rfl, rfl⟩ := List.cons.inj ei
        have hr : r ∈ W := by rw [ew]; simp
        simp [rowT, Wp_ixT hlot]
        rw [show (dInD false (Val.t (T.str r.1)) (Val.t (ltT lot))) = dInD false (Val.t (T.str r.1)) (Val.t (.lst (lot.map T.str))) from rfl, Wp_inL]
        by_cases q : r.1 ∈ lot
        · simp [q]
          obtain ⟨j, j1, j2, j3, j4, j5⟩ := A.row (List.mem_map.mpr ⟨r, hr, rfl⟩)
          have hlen := fold_len pre.length vs1 (inL lot pr2) (ks1, st1, [])
          simp only [List.length_nil] at hlen
          have hfl : (inL lot pr2).length ≤ pr2.length := List.length_filter_le _ _
          have hpl : pr2.length + (rest2.length + 1) = W.length := by rw [ew]; simp
          have hb1 := hB.ks
          have hb2 := hB.st
          rw [j4]
          simp
          rw [Wp_lenLoc j3]
          simp
          refine Wp_compA r.2 (fun y => Val.t (.str y)) (fun y => T.int (((vget vs1 y).length - 1 : Nat) : Int)) rfl rfl (by simp [List.map_map, Function.comp_def]) (by rw [sizeLine_eq]; have := hs r hr; omega) rfl ?_ ?_
          · intro y hy acc hacc
            have hyW := hR.si r hr y hy
            obtain ⟨i, i1, i2, i3, i4, i5⟩ := A.row hyW
            obtain ⟨q, hq, rfl⟩ := row_of hyW
            have hne := hO.ne hq
            simp [wipeD, i4]
            rw [Wp_lenLoc i3]
            have e : ((vget vs1 q.1).length : Int) - 1 = (((vget vs1 q.1).length - 1 : Nat) : Int) := by omega
            simp [wipeD, e]
            exact hacc
          · simp [sizeLine_eq]
            refine ⟨by omega, ?_⟩
            refine Wp_compA r.2 (fun y => Val.t (.str y)) (fun y => T.int ((lastK vs1 y : Nat) : Int)) rfl rfl (by simp [List.map_map, Function.comp_def]) (by rw [sizeLine_eq]; have := hs r hr; omega) rfl ?_ ?_
            · intro y hy acc hacc
              have hyW := hR.si r hr y hy
              obtain ⟨i, i1, i2, i3, i4, i5⟩ := A.row hyW
              obtain ⟨q, hq, rfl⟩ := row_of hyW
              have hne := hO.ne hq
              simp [wipeD, i4]
              rw [Wp_ixL i3 (lastI hne)]
              simp [wipeD, lastK]
              exact hacc
            · simp [sizeLine_eq]
              have ek : T.tup [.str r.1, .tup (r.2.map fun y => T.int ((lastK vs1 y : Nat) : Int))] = nkT (r.1, some (r.2.map (lastK vs1))) := by simp [nkT, nsT, List.map_map, Function.comp_def]
              rw [ek]
              refine number_spec A.tb (by omega) ?_
              have A2 := A.kind (kof ((inL lot pr2).foldl (rowS pre.length vs1) (ks1, st1, [])).1 (r.1, some (r.2.map (lastK vs1)))).2
              simp [sizeLine_eq]
              have e9 : (inL lot (pr2 ++ [r])).foldl (rowS pre.length vs1) (ks1, st1, []) = rowS pre.length vs1 ((inL lot pr2).foldl (rowS pre.length vs1) (ks1, st1, [])) r := by rw [inL_snoc, if_pos q, fold_snoc]
              refine ⟨by omega, pr2 ++ [r], rest2, some (.t (.str r.1)), some (.t (.lst (r.2.map T.str))), some (.t (.int ((kof ((inL lot pr2).foldl (rowS pre.length vs1) (ks1, st1, [])).1 (r.1, some (r.2.map (lastK vs1)))).1 : Nat))), m.set t (tblC (kof ((inL lot pr2).foldl (rowS pre.length vs1) (ks1, st1, [])).1 (r.1, some (r.2.map (lastK vs1)))).2), ?_, by rw [ew]; simp, rfl, ?_, F.set (.inl rfl)⟩
              · rw [e9]
                simp [rowS, frT, stT, nsT, List.map_map, Function.comp_def]
              · rw [e9]
                exact A2
        · simp [q]
          refine ⟨pr2 ++ [r], rest2, some (.t (.str r.1)), some (.t (.lst (r.2.map T.str))), o9, m, ?_, by rw [ew]; simp, rfl, ?_, F⟩
          · rw [inL_snoc, if_neg q]
          · rw [inL_snoc, if_neg q]
            exact A
  · rintro v items s ⟨pre, rest, o4, o5, m, rfl, ew, ei, A, F⟩
    cases rest with
    | nil => cases ei
    | cons r rest =>
      rw [List.map_cons] at ei
      obtain ⟨rfl, rfl⟩ := List.cons.inj ei
      have hl := beg_len pre (ks, [])
      simp only [List.length_nil] at hl
      have hpl : pre.length + (rest.length + 1) = W.length := by rw [ew]; simp
      have hnd : ((pre ++ r :: rest).map (·.1)).Nodup := by rw [← ew]; exact hR.nd
      rw [List.map_append, List.nodup_append] at hnd
      have hnr : r.1 ∉ pre.map (·.1) := fun z => hnd.2.2 r.1 z r.1 (by simp) rfl
      simp [rowT, sizeLine_eq]
      refine number_spec (k := (r.1, none)) A.tb (by omega) ?_
      simp [sizeLine_eq, Own.cell]
      have A2 := A.kind (kof (pre.foldl begF (ks, [])).1 (r.1, none)).2
      have F2 := F.set (j := t) (c := tblC (kof (pre.foldl begF (ks, [])).1 (r.1, none)).2) (.inl rfl)
      generalize m.set t (tblC (kof (pre.foldl begF (ks, [])).1 (r.1, none)).2) = m2 at A2 F2 ⊢
      have ek : (vd (μ.length + 1) (pre.foldl begF (ks, [])).2).map (·.1) = (pre.map (·.1)).map (Sum.inr : Str → Key) := by rw [vd_keys, A2.keys]
      have h2 := A2.len
      rw [Wp_setIxD (l := vd (μ.length + 1) (pre.foldl begF (ks, [])).2) (k := Sum.inr r.1) (by rw [List.getElem?_append_left (by omega)]; exact A2.dc) rfl (by unfold okKeys; rw [ek]; exact decide_eq_true (inr_nd hnd.1)) (by
        have := congrArg List.length ek
        simp only [List.length_map] at this
        rw [this, sizeLine_eq]
        omega)]
      rw [putA_new (by rw [ek]; intro z; obtain ⟨x, hx, e⟩ := List.mem_map.mp z; exact hnr (Sum.inr.inj e ▸ hx))]
      simp
      have A3 := A2.put (r := r) (kof (pre.foldl begF (ks, [])).1 (r.1, none)).1
      rw [vd_snoc, hl.2] at A3
      refine ⟨pre ++ [r], rest, _, _, _, rfl, by rw [ew]; simp, rfl, ?_, ?_⟩
      · have e : (pre ++ [r]).foldl begF (ks, []) = begF (pre.foldl begF (ks, [])) r := by simp
        rw [e]
        rw [Nat.zero_add, ← A.len] at A3
        exact A3
      · refine Ft.set ?_ (.inr (Nat.le_refl _))
        intro j h1 h3
        rw [List.getElem?_append_left (by omega)]
        exact F2 j h1 h3
end G06
namespace G06
open PySem PySem.Spec L2 Lf
def GoodL (ys : List Str) (lots : List (List Str)) : Prop := ∀ l ∈ lots, l ≠ [] ∧ l.Nodup ∧ ∀ x ∈ l, x ∈ ys
theorem good_nil (ys : List Str) : GoodL ys [] := fun l h => by cases h
def IvG (n : Nat) (ys : List Str) (most k dd : Nat) (μ : List Cell) (items : List Val) (s : DSt) : Prop := ∃ (lots : List (List Str)) (o4 : Option Lf.Slot) (μ' : List Cell), s = ⟨[some (.loc n), some (.t (.lst (ys.map T.str))), some (.t (.int (most : Nat))), some (.own (.lst (lots.map ltT))), o4], μ'⟩ ∧ GoodL ys lots ∧ lots.length + items.length = dd ∧ Draw n μ (k + 1 + 20 * lots.length) μ' ∧ ∀ v ∈ items, ∃ x, v = .t x
theorem program_spec {μ : List Cell} {n k most : Nat} {ys : List Str} {Q : Out Ret → List Cell → Prop} (h : PoolAt n k μ) (hne : ys ≠ []) (hnd : ys.Nodup) (hl : ys.length ≤ 16) (hm : most ≤ 40) (hk : k + 1000 < 1073741824)
    (hQ : ∀ lots, GoodL ys lots → lots.length ≤ most → ∀ μ', Draw n μ (k + 1000) μ' → Q (.ok (.val (.t (.lst (lots.map ltT))))) μ') : Fw F__law_program [.loc n, .t (.lst (ys.map T.str)), .t (.int (most : Nat))] μ Q := by
  have h0 : 0 < ys.length := List.length_pos_iff.mpr hne
  refine Fw_run ?_
  unfold s__law_program
  simp [startD, sizeLine_eq]
  have e1 : (most : Int) + 1 = ((most + 1 : Nat) : Int) := by omega
  rw [e1]
  refine take_spec h (by omega) (by omega) (by omega) fun d hd μ1 hD1 => ?_
  simp
  rw [Wp_rng1 (by omega) (by omega)]
  simp
  refine Wp_forInv (IvG n ys most k d μ) (fun _ _ _ => rfl) ?_ ?_ _ _ ⟨[], none, μ1, rfl, good_nil ys, by simp, hD1.mono (by simp), fun v hv => rangeV_t hv⟩
  · rintro s ⟨lots, o4, μ', rfl, hG, hL, hD, _⟩
    simp at hL
    simp [Own.tree]
    exact ⟨μ', trunc_len hD.len, hQ lots hG (by omega) μ' (hD.mono (by omega))⟩
  · rintro v items s ⟨lots, o4, μ', rfl, hG, hL, hD, hv⟩
    obtain ⟨x, rfl⟩ := hv v (by simp)
    simp at hL
    simp
    refine mixed_spec hD.2 (by simp; omega) (by simp; omega) fun ts hp μ2 hD2 => ?_
    obtain ⟨zs, hz, rfl⟩ := perm_strs hp
    have hzl : zs.length = ys.length := hz.length_eq
    have e3 : (3 : Int) = ((3 : Nat) : Int) := rfl
    simp
    rw [e3, Wp_min2N]
    simp
    refine take_spec (m := min 3 ys.length) hD2.2 (by simp; omega) (by omega) (by omega) fun i hi μ3 hD3 => ?_
    have e4 : (1 : Int) + (i : Int) = ((1 + i : Nat) : Int) := by omega
    simp [sizeLine_eq]
    rw [e4]
    rw [cutT_take]
    refine ⟨by omega, lots ++ [zs.take (1 + i)], some (.t x), μ3, by simp [ltT], ?_, by simp; omega, ?_, fun v h => hv v (List.mem_cons_of_mem _ h)⟩
    · intro l hl'
      rcases List.mem_append.mp hl' with q | q
      · exact hG l q
      · have : l = zs.take (1 + i) := by simpa using q
        subst this
        have hzn : zs.Nodup := hz.nodup_iff.mpr hnd
        refine ⟨fun z => ?_, hzn.sublist (List.take_sublist _ _), fun s hs => hz.mem_iff.mp (List.mem_of_mem_take hs)⟩
        have := congrArg List.length z
        simp at this
        rw [this] at hzl
        simp at hzl
        exact hne (List.length_eq_zero_iff.mp hzl.symm)
    · refine ((hD.trans hD2).trans hD3).mono ?_
      simp
      omega
end G06
namespace G06
open PySem PySem.Spec L2 Lf
theorem strOk_nm {x : Str} (h : Nm x) : PyData.strOk x = true := by
  unfold PyData.strOk
  rw [Array.all_eq_true_iff_forall_mem]
  intro c hc
  have := h.2.2 c (by simpa using hc)
  unfold isL at this
  simp
  omega
theorem pds_str : ∀ ys : List Str, T.pds (ys.map T.str) = some (ys.map PyData.str)
  | [] => rfl
  | y :: r => by simp [T.pds, T.pd, pds_str r]
theorem can_str : ∀ {ys : List Str}, (∀ y ∈ ys, Nm y) → PyData.canLayAll0 (ys.map PyData.str) = true ∧ PyData.depthAll (ys.map PyData.str) = 0
  | [], _ => ⟨rfl, rfl⟩
  | y :: r, h => by
    obtain ⟨h1, h2⟩ := can_str (ys := r) fun z hz => h z (List.mem_cons_of_mem _ hz)
    constructor
    · simp [PyData.canLayAll0, PyData.canLay0, strOk_nm (h y (by simp)), h1]
    · simp [PyData.depthAll, PyData.depth, h2]
theorem shaped_str {ys : List Str} (h : ∀ y ∈ ys, Nm y) : SeqAt.shaped (.list (ys.map PyData.str)) = true := by
  obtain ⟨h1, h2⟩ := can_str h
  simp [SeqAt.shaped, PyData.canLay0, h1, PyData.depth, h2]
theorem shaped_nil : SeqAt.shaped (.list []) = true := rfl
theorem eqv_strs : ∀ ys : List Str, PyData.eqvAll (ys.map PyData.str) (ys.map PyData.str) = true
  | [] => rfl
  | y :: r => by simp [PyData.eqvAll, PyData.eqv, eqv_strs r]
theorem Wp_neStrs {ys : List Str} (h : ∀ y ∈ ys, Nm y) (s : DSt) (Q : Out Val → DSt → Prop) : Wp (dEq true (.t (.lst (ys.map T.str))) (.t (.lst (ys.map T.str)))) s Q = Q (.ok (.t (.bl false))) s := Wp_some (by
  have e1 := pds_str ys
  have e2 := shaped_str h
  simp [dEq, valPd, T.pd, e1, e2, PyData.eqv, eqv_strs])
theorem pds_ints : ∀ ns : List Int, T.pds (ns.map T.int) = some (ns.map PyData.int)
  | [] => rfl
  | n :: r => by simp [T.pds, T.pd, pds_ints r]
theorem can_ints : ∀ ns : List Int, PyData.canLayAll0 (ns.map PyData.int) = true ∧ PyData.depthAll (ns.map PyData.int) = 0
  | [] => ⟨rfl, rfl⟩
  | n :: r => by
    obtain ⟨h1, h2⟩ := can_ints r
    constructor
    · simp [PyData.canLayAll0, PyData.canLay0, h1]
    · simp [PyData.depthAll, PyData.depth, h2]
theorem eqv_ints : ∀ ys : List Int, PyData.eqvAll (ys.map PyData.int) (ys.map PyData.int) = true
  | [] => rfl
  | y :: r => by simp [PyData.eqvAll, PyData.eqv, eqv_ints r]
theorem Wp_neInts {ys : List Int} (s : DSt) (Q : Out Val → DSt → Prop) : Wp (dEq true (.t (.lst (ys.map T.int))) (.t (.lst (ys.map T.int)))) s Q = Q (.ok (.t (.bl false))) s := Wp_some (by
  have e1 := pds_ints ys
  obtain ⟨h1, h2⟩ := can_ints ys
  have e2 : SeqAt.shaped (.list (ys.map PyData.int)) = true := by simp [SeqAt.shaped, PyData.canLay0, h1, PyData.depth, h2]
  simp [dEq, valPd, T.pd, e1, e2, PyData.eqv, eqv_ints])
@[simp] theorem Wp_isiD (tys : List String) (y : List (Key × T)) (s : DSt) (Q : Out Val → DSt → Prop) : Wp (dIsi tys (.t (.dic y))) s Q = Q (.ok (.t (.bl (tys.any fun ty => isiB "dict" ty)))) s := Wp_isi rfl Q
/-! the plain law -/
theorem lotS_srt {W : List Row} {a : Nat} {l : List Str} (s : HS) : lotS W a (srtS l) s = lotS W a l s := lotS_mem (fun x => (srtB_perm l).mem_iff) s
theorem lots_srt {W : List Row} : ∀ (ls : List (List Str)) (a : Nat) (s : HS), lotsS W a (ls.map srtS) s = lotsS W a ls s
  | [], _, _ => rfl
  | l :: r, a, s => by
    simp only [List.map_cons, lotsS]
    rw [lotS_srt, lots_srt r]
theorem dc_kd {W : List Row} {vs : Vs} {s : DSt} : dcK s (.t (.dic (W.map (kdT vs)))) = some ((W.map (kdT vs)).map fun p => (p.1, Fv.t p.2)) := rfl
theorem look_kd {W : List Row} {vs : Vs} {c : Str} (h : c ∈ W.map (·.1)) : look ((W.map (kdT vs)).map fun p => (p.1, Fv.t p.2)) (Sum.inr c) = some (Fv.t (.lst ((idxs (vget vs c)).map T.int))) := by
  induction W with
  | nil => cases h
  | cons r W ih =>
    simp only [List.map_cons, look, kdT]
    by_cases e : r.1 = c
    · rw [if_pos (by rw [e]), e]
    · rw [if_neg (fun z => e (Sum.inr.inj z))]
      refine ih ?_
      rcases List.mem_cons.mp h with z | z
      · exact absurd z.symm e
      · exact z
theorem dc_vs {vs : Vs} {s : DSt} : dcK s (.t (vsT vs)) = some ((vs.map fun p => ((Sum.inr p.1 : Key), T.lst (p.2.map fun k : Nat => T.int (k : Int)))).map fun p => (p.1, Fv.t p.2)) := rfl
theorem look_vs {c : Str} : ∀ {vs : Vs}, c ∈ vs.map (·.1) → look ((vs.map fun p => ((Sum.inr p.1 : Key), T.lst (p.2.map fun k : Nat => T.int (k : Int)))).map fun p => (p.1, Fv.t p.2)) (Sum.inr c) = some (Fv.t (.lst ((vget vs c).map fun k : Nat => T.int (k : Int))))
  | [], h => by cases h
  | (d, l) :: r, h => by
    simp only [List.map_cons, look, vget]
    by_cases e : d = c
    · rw [if_pos (by rw [e]), if_pos e]
    · rw [if_neg (fun z => e (Sum.inr.inj z)), if_neg e]
      refine look_vs ?_
      rcases List.mem_cons.mp h with z | z
      · exact absurd z.symm e
      · exact z
theorem at_1 {X : List T} {a b : T} : atI (X ++ [a, b]) (-1) = some b := by
  have e : ixN (X ++ [a, b]).length (-1) = some (X.length + 1) := by
    unfold ixN
    simp
    omega
  unfold atI
  rw [e]
  show (X ++ [a, b])[X.length + 1]? = _
  rw [List.getElem?_append_right (by omega)]
  simp
theorem at_2 {X : List T} {a b : T} : atI (X ++ [a, b]) (-2) = some a := by
  have e : ixN (X ++ [a, b]).length (-2) = some X.length := by
    unfold ixN
    simp
    omega
  unfold atI
  rw [e]
  show (X ++ [a, b])[X.length]? = _
  rw [List.getElem?_append_right (by omega)]
  simp
theorem srt_good {W : List Row} {lots : List (List Str)} (h : GoodL (W.map (·.1)) lots) : ∀ l ∈ lots.map srtS, ∀ x ∈ l, x ∈ W.map (·.1) := fun l hl x hx => by
  obtain ⟨m, hm, rfl⟩ := List.mem_map.mp hl
  exact (h m hm).2.2 x ((srtB_perm m).mem_iff.mp hx)
theorem good_lots {W : List Row} (hR : Rows W) (hW : W.length ≤ 10) {lots : List (List Str)} (h : GoodL (W.map (·.1)) lots) (hm : lots.length < 1000) : Lots lots :=
  ⟨fun l hl x hx => by
      obtain ⟨q, hq, e⟩ := List.mem_map.mp ((h l hl).2.2 x hx)
      rw [← e]
      exact hR.nm q hq,
    fun l hl => (h l hl).2.1, fun l hl => (h l hl).1, fun l hl => by
      have := pigeon (h l hl).2.1 (h l hl).2.2
      simp at this
      omega, hm⟩
theorem good_app {ys : List Str} {lots : List (List Str)} (h : GoodL ys lots) {c : Str} (hc : c ∈ ys) : GoodL ys (lots ++ [[c], [c]]) := fun l hl => by
  rcases List.mem_append.mp hl with q | q
  · exact h l q
  · have : l = [c] := by simpa using q
    subst this
    exact ⟨by simp, by simp, fun x hx => by rw [show x = c by simpa using hx]; exact hc⟩
/-- the last two of a cell renewed twice more -/
theorem told_end {W : List Row} (hS : Src W) {lots : List (List Str)} {r : Row} (hr : r ∈ W) : ∃ (X : List Int) (a b : Int), idxs (vget (hist W (lots ++ [[r.1], [r.1]]) []).2.1 r.1) = X ++ [a, b] ∧ (r.1 ∉ r.2 → a = b) ∧ (r.1 ∈ r.2 → b = X.length + 1) := by
  have hO := hist_ok hS lots List.nodup_nil wf_nil
  obtain ⟨k1, k2, h1, h2, h3⟩ := again hS hO hr lots.length (lots.length + 1)
  have e : hist W (lots ++ [[r.1], [r.1]]) [] = lotS W (lots.length + 1) [r.1] (lotS W lots.length [r.1] (hist W lots [])) := by
    have : lots ++ [[r.1], [r.1]] = (lots ++ [[r.1]]) ++ [[r.1]] := by simp
    unfold hist
    rw [this, lotsS_snoc, lotsS_snoc]
    simp
  rw [e, h1]
  generalize vget (hist W lots []).2.1 r.1 = l at h3
  refine ⟨l.map fun k => (((l ++ [k1, k2]).idxOf k : Nat) : Int), (((l ++ [k1, k2]).idxOf k1 : Nat) : Int), (((l ++ [k1, k2]).idxOf k2 : Nat) : Int), by simp only [idxs, List.map_append, List.map_cons, List.map_nil], fun hn => by rw [h2 hn], fun hm => ?_⟩
  have h3 := h3 hm
  have e2 : l ++ [k1, k2] = (l ++ [k1]) ++ [k2] := by simp
  rw [e2, List.idxOf_append, if_neg h3]
  simp
end G06
namespace G06
open PySem PySem.Spec L2 Lf
def TrueQ : Out Ret → List Cell → Prop := fun o _ => o = .ok (.val (.t (.bl true)))
def IvA1 (ns : List Int) (vs : List Val) (s : DSt) : Prop := ∃ (o1 o2 o3 o4 o5 o6 o7 o8 o11 o12 : Option Lf.Slot) (x9 x10 : Option T) (μ : List Cell), s = ⟨[some (.t (.fro (ns.map T.int))), o1, o2, o3, o4, o5, o6, o7, o8, x9.map Lf.Slot.t, x10.map Lf.Slot.t, o11, o12, none], μ⟩ ∧ ∀ v ∈ vs, ∃ k : Nat, v = .t (.int k)
def lawS (ns : List Int) (o1 o2 : Option Lf.Slot) (W : List Row) (lots : List (List Str)) (o9 o10 o11 o12 : Option Lf.Slot) : List (Option Lf.Slot) := [some (.t (.fro (ns.map T.int))), o1, o2, some (.t (.lst (W.map rowT))), some (.t (.lst (W.map (T.str ∘ fun x => x.1)))), some (.t (.lst (lots.map ltT))), some (.t (webT W)), some (.t (vsT (hist W lots []).2.1)), some (.t (.dic (W.map (kdT (hist W lots []).2.1)))), o9, o10, o11, o12, none]
def IvB1 (ns : List Int) (o1 o2 : Option Lf.Slot) (W : List Row) (lots : List (List Str)) (x10 : Option T) (o12 : Option Lf.Slot) (μ : List Cell) (items : List Val) (s : DSt) : Prop := ∃ (rest : List Row) (x9 : Option T) (o11 : Option Lf.Slot), s = ⟨lawS ns o1 o2 W lots (x9.map Lf.Slot.t) (x10.map Lf.Slot.t) o11 o12, μ⟩ ∧ (∀ r ∈ rest, r ∈ W) ∧ items = rest.map (fun r => Val.t (.str r.1))
def IvC1 (ns : List Int) (o1 o2 : Option Lf.Slot) (W : List Row) (lots : List (List Str)) (o11 : Option Lf.Slot) (μ : List Cell) (items : List Val) (s : DSt) : Prop := ∃ (rest : List Row) (x9 x10 : Option T) (o12 : Option Lf.Slot), s = ⟨lawS ns o1 o2 W lots (x9.map Lf.Slot.t) (x10.map Lf.Slot.t) o11 o12, μ⟩ ∧ (∀ r ∈ rest, r ∈ W) ∧ items = rest.map (fun r => Val.t (rowT r))
theorem vget_bd {W : List Row} (hR : Rows W) (hS : Src W) (hW : W.length ≤ 10) {lots : List (List Str)} (hm : lots.length ≤ 100) {c : Str} (hc : c ∈ W.map (·.1)) : (vget (hist W lots []).2.1 c).length < 100000 := by
  have hB := (bd_lots hS hR.ne lots 0 _ _ (beg_ok hS List.nodup_nil wf_nil) (bd_beg hS List.nodup_nil wf_nil (N := 10010) (by simp; omega) (by omega))).vs c (by
    show c ∈ (hist W lots []).2.1.map (·.1)
    rw [(hist_ok hS lots List.nodup_nil wf_nil).keys]
    exact hc)
  have hmul : lots.length * W.length ≤ 1000 := by
    have := Nat.mul_le_mul (show lots.length ≤ 100 by omega) hW
    omega
  have : (vget (hist W lots []).2.1 c).length ≤ 10010 + lots.length * W.length := hB
  omega
theorem law_fw (ns : List Int) : Fw F_law [.t (.fro (ns.map T.int))] [] TrueQ := by
  refine Fw_run ?_
  unfold s_law
  simp [startD]
  rw [Wp_rng1 (by decide) (by decide)]
  simp
  refine Wp_forInv (IvA1 ns) (fun _ _ _ => rfl) ?_ ?_ _ _ ⟨none, none, none, none, none, none, none, none, none, none, none, none, [], rfl, ?_⟩
  · rintro s ⟨o1, o2, o3, o4, o5, o6, o7, o8, o11, o12, x9, x10, μ, rfl, _⟩
    simp
    exact ⟨_, rfl, rfl⟩
  · rintro v vs s ⟨o1, o2, o3, o4, o5, o6, o7, o8, o11, o12, x9, x10, μ, rfl, hv⟩
    obtain ⟨k, rfl⟩ := hv v (by simp)
    have hv' : ∀ v ∈ vs, ∃ k : Nat, v = .t (.int k) := fun v h => hv v (List.mem_cons_of_mem _ h)
    simp
    refine cell_spec ns k fun z => ?_
    simp
    refine pool_spec _ fun a b ha hb hb2 => ?_
    simp [Own.cell]
    have hP : PoolAt μ.length 0 (μ ++ [poolC a b 0]) := ⟨a, b, 0, by simp, ha, hb, hb2, by decide, by decide⟩
    refine web_spec (most := 5) (many := 2) hP (by omega) (by omega) (by omega) (by omega) fun W hR hrl hrz μ1 hD1 => ?_
    have hsl : ∀ r ∈ W, r.2.length ≤ W.length := fun r hr => by
      have := pigeon (hR.sn r hr) (hR.si r hr)
      simpa using this
    have hs : ∀ r ∈ W, r.2.length < 1000 := fun r hr => by have := hsl r hr; omega
    have hS : Src W := ⟨hR.nd, hR.si⟩
    simp
    refine Wp_compA W (fun r => Val.t (rowT r)) (fun r => T.str r.1) (by cases x9 <;> cases x10 <;> rfl) (by cases x9 <;> cases x10 <;> rfl) (by simp [List.map_map, Function.comp_def]) (by rw [sizeLine_eq]; omega) rfl ?_ ?_
    · intro r hr acc hacc
      simp [rowT, wipeD]
      exact hacc
    · simp
      have en : (W.map fun r => T.str r.1) = (W.map (·.1)).map T.str := by rw [List.map_map]; rfl
      rw [en]
      refine program_spec (most := 8) hD1.2 (by simpa using hR.ne) hR.nd (by simp; omega) (by omega) (by omega) fun lots hG hL μ2 hD2 => ?_
      simp
      refine web_make hR (by omega) hs ?_
      simp
      have hO := hist_ok hS lots List.nodup_nil wf_nil
      refine history_spec (ks := []) hR (by omega) hs (by omega) (fun l hl => (hG l hl).2.2) (by simp [Own.cell, tblC]) List.nodup_nil wf_nil (by simp) fun m hml hmf => ?_
      simp
      rw [Wp_ixU (x := vsT (hist W lots []).2.1) rfl]
      simp
      refine program_make (good_lots hR (by omega) hG (by omega)) ?_
      simp
      refine kinds_spec hR (by omega) hs (by simp; omega) (srt_good hG) ?_
      have eh : hist W (lots.map srtS) [] = hist W lots [] := lots_srt lots 0 _
      rw [eh]
      have en2 : W.map (T.str ∘ fun x => x.1) = (W.map (·.1)).map T.str := by rw [List.map_map]
      have hnmW : ∀ y ∈ W.map (·.1), Nm y := fun y hy => by
        obtain ⟨q, hq, e⟩ := List.mem_map.mp hy
        rw [← e]
        exact hR.nm q hq
      simp
      rw [show retV (Ret.own (Own.dic false (W.map (kdT (hist W lots []).2.1)))) = keep (.dic false (W.map (kdT (hist W lots []).2.1))) from rfl]
      simp [isiB]
      rw [Wp_listD_D dc_kd]
      have en3 : ((W.map (kdT (hist W lots []).2.1)).map fun p => (p.1, Fv.t p.2)).map (fun p => keyTree p.1) = (W.map (·.1)).map T.str := by simp [List.map_map, Function.comp_def, kdT, keyTree]
      rw [en3]
      simp only [Bk_ok, Wp_keepL]
      simp
      rw [en2, Wp_neStrs hnmW]
      simp
      refine Wp_forInv (IvB1 ns (some (.t (.int (k : Nat)))) (some (.loc μ.length)) W lots x10 o12 m) (fun _ _ _ => rfl) ?_ ?_ _ _ ⟨W, x9, o11, rfl, fun _ h => h, by simp [Function.comp_def]⟩
      · rintro s ⟨rest, x9, o11, rfl, _, _⟩
        simp [lawS]
        refine Wp_forInv (IvC1 ns (some (.t (.int (k : Nat)))) (some (.loc μ.length)) W lots o11 m) (fun _ _ _ => rfl) ?_ ?_ _ _ ⟨W, x9, x10, o12, rfl, fun _ h => h, by simp [Function.comp_def]⟩
        · rintro s ⟨rest, x9, x10, o12, rfl, _, _⟩
          simp [lawS]
          exact ⟨_, _, _, _, _, _, _, _, _, _, x9, x10, _, rfl, hv'⟩
        · rintro v items s ⟨rest, x9, x10, o12, rfl, hm, ei⟩
          cases rest with
          | nil => cases ei
          | cons r rest =>
          rw [List.map_cons] at ei
          obtain ⟨rfl, rfl⟩ := List.cons.inj ei
          have hr : r ∈ W := hm r (by simp)
          have hrW : r.1 ∈ W.map (·.1) := List.mem_map.mpr ⟨r, hr, rfl⟩
          simp [lawS, rowT, sizeLine_eq]
          refine ⟨by omega, ?_⟩
          have el : lots.map ltT ++ [T.lst [T.str r.1], T.lst [T.str r.1]] = lotsT (lots ++ [[r.1], [r.1]]) := by simp [lotsT, ltT]
          rw [el]
          have hG2 := good_app hG hrW
          refine program_make (good_lots hR (by omega) hG2 (by simp; omega)) ?_
          simp only [Bk_ok, Wp_bnd, Wp_ret]
          simp
          rw [show lots.map srtS ++ [srtS [r.1], srtS [r.1]] = (lots ++ [[r.1], [r.1]]).map srtS by simp]
          refine kinds_spec hR (by omega) hs (by simp; omega) (srt_good hG2) ?_
          have eh2 : hist W ((lots ++ [[r.1], [r.1]]).map srtS) [] = hist W (lots ++ [[r.1], [r.1]]) [] := lots_srt _ 0 _
          rw [eh2]
          obtain ⟨X, a, b, e1, e2, e3⟩ := told_end hS (lots := lots) hr
          simp
          rw [show retV (Ret.own (Own.dic false (W.map (kdT (hist W (lots ++ [[r.1], [r.1]]) []).2.1)))) = keep (.dic false (W.map (kdT (hist W (lots ++ [[r.1], [r.1]]) []).2.1))) from rfl]
          simp
          rw [Wp_ixD dc_kd rfl (look_kd hrW), e1]
          simp
          rw [Wp_inL]
          by_cases q : r.1 ∈ r.2
          · simp [q]
            rw [Wp_inL]
            simp [q]
            rw [Wp_ixT at_1]
            have hb3 := e3 q
            simp [hb3]
            rw [if_pos (by omega)]
            exact ⟨rest, some (.str r.1), some (.lst (r.2.map T.str)), _, rfl, fun q hq => hm q (List.mem_cons_of_mem _ hq), rfl⟩
          · simp [q]
            rw [Wp_ixT at_1]
            simp
            rw [Wp_ixT at_2]
            have hab := e2 q
            simp [hab]
            rw [Wp_inL]
            simp [q]
            exact ⟨rest, some (.str r.1), some (.lst (r.2.map T.str)), _, rfl, fun q hq => hm q (List.mem_cons_of_mem _ hq), rfl⟩
      · rintro v items s ⟨rest, x9, o11, rfl, hm, ei⟩
        cases rest with
        | nil => cases ei
        | cons r rest =>
        rw [List.map_cons] at ei
        obtain ⟨rfl, rfl⟩ := List.cons.inj ei
        have hr : r ∈ W := hm r (by simp)
        have hrW : r.1 ∈ W.map (·.1) := List.mem_map.mpr ⟨r, hr, rfl⟩
        simp [lawS]
        rw [Wp_ixD dc_vs rfl (look_vs (by rw [hO.keys]; exact hrW))]
        simp
        refine Wp_compA (vget (hist W lots []).2.1 r.1) (fun k : Nat => Val.t (.int (k : Int))) (fun k => T.int (((vget (hist W lots []).2.1 r.1).idxOf k : Nat) : Int)) rfl rfl (by simp [List.map_map, Function.comp_def]) (by rw [sizeLine_eq]; have := vget_bd hR hS (by omega) (lots := lots) (by omega) hrW; omega) rfl ?_ ?_
        · intro n hn acc hacc
          simp [wipeD]
          rw [Wp_ixD dc_vs rfl (look_vs (by rw [hO.keys]; exact hrW))]
          simp
          rw [Wp_indexT hn]
          simp [wipeD]
          exact hacc
        · simp
          have ei2 : (vget (hist W lots []).2.1 r.1).map (fun k => T.int (((vget (hist W lots []).2.1 r.1).idxOf k : Nat) : Int)) = (idxs (vget (hist W lots []).2.1 r.1)).map T.int := by simp [idxs, List.map_map, Function.comp_def]
          rw [ei2]
          rw [Wp_ixD dc_kd rfl (look_kd hrW)]
          simp
          rw [Wp_neInts]
          simp
          rw [Wp_ixD dc_kd rfl (look_kd hrW)]
          simp
          rw [Wp_ixD dc_kd rfl (look_kd hrW)]
          simp
          have hne := hO.ne hr
          rw [Wp_sortI (by intro z; have := congrArg List.length z; simp [idxs] at this; rw [this] at hne; simp at hne)]
          rw [← srtI_eq (List.Perm.refl _) (hO.rise hS hr)]
          simp
          rw [Wp_neInts]
          simp
          exact ⟨rest, some (.str r.1), _, rfl, fun q hq => hm q (List.mem_cons_of_mem _ hq), rfl⟩
  · intro v hv
    unfold rangeV at hv
    obtain ⟨k, _, rfl⟩ := List.mem_map.mp hv
    exact ⟨k, by simp⟩
theorem law_true (ns : List Int) (_ : ns.length ≤ 63) : ∃ m, F_law [.t (.fro (ns.map T.int))] [] = some (.ok (.val (.t (.bl true))), m) := by
  obtain ⟨o, m, e, q⟩ := law_fw ns
  rw [show o = .ok (.val (.t (.bl true))) from q] at e
  exact ⟨m, e⟩
end G06
namespace G06
open PySem PySem.Spec L2 Lf
theorem base_mk {K : PySem.W.Frag} {L : Addr} (h1 : PySem.W.readsIn K L (.type "type") = true) (h2 : PySem.W.findCls K (.ref L) (.type "type") "__init__" = some (.val (.builtin "ValueError.__init__"))) (h3 : PySem.W.specialIn K (.ref L) "__getattribute__" = some (some (.builtin "type.__getattribute__"))) : baseB K L = true := by
  unfold baseB
  rw [h1, h2, h3]
  simp
theorem tx_mk {K : PySem.W.Frag} {h : Heap} {mg : Str → Option Value} (X : K.In h) (G : h.Ns mainGlobals mg) {a_Kinds a_History a_Program a_Web a__law_pool a__law_cell a__law_take a__law_names a__law_mixed a__law_web a__law_program a_is_list a_is_name a_are_names a_Web_check a_Web_init a__law_number a__law_history a_Web_check_program a_Kinds_kind_of a_Web_sources a_History_do a_History_init a_Kinds_init a_kinds a_Program_init a_law a_LotError a_BadWeb a_BadWeb_init a_UnknownCell a_UnknownCell_init a_BadProgram a_BadProgram_init : Addr} {od__law_pool an__law_pool od__law_cell an__law_cell od__law_take an__law_take od__law_names an__law_names od__law_mixed an__law_mixed od__law_web an__law_web od__law_program an__law_program od_is_list an_is_list od_is_name an_is_name od_are_names an_are_names od_Web_check an_Web_check od_Web_init an_Web_init od__law_number an__law_number od__law_history an__law_history od_Web_check_program an_Web_check_program od_Kinds_kind_of an_Kinds_kind_of od_Web_sources an_Web_sources od_History_do an_History_do od_History_init an_History_init od_Kinds_init an_Kinds_init od_kinds an_kinds od_Program_init an_Program_init od_law an_law od_BadWeb_init an_BadWeb_init od_UnknownCell_init an_UnknownCell_init od_BadProgram_init an_BadProgram_init : Option Addr} {sl__law_pool sl__law_cell sl__law_take sl__law_names sl__law_mixed sl__law_web sl__law_program sl_is_list sl_is_name sl_are_names sl_Web_check sl_Web_init sl__law_number sl__law_history sl_Web_check_program sl_Kinds_kind_of sl_Web_sources sl_History_do sl_History_init sl_Kinds_init sl_kinds sl_Program_init sl_law sl_BadWeb_init sl_UnknownCell_init sl_BadProgram_init : Array (Option Value)} {oc__law_pool kV__law_pool dc__law_pool pm__law_pool cd__law_pool ct__law_pool oc__law_cell kV__law_cell dc__law_cell pm__law_cell cd__law_cell ct__law_cell oc__law_take kV__law_take dc__law_take pm__law_take cd__law_take ct__law_take oc__law_names kV__law_names dc__law_names pm__law_names cd__law_names ct__law_names oc__law_mixed kV__law_mixed dc__law_mixed pm__law_mixed cd__law_mixed ct__law_mixed oc__law_web kV__law_web dc__law_web pm__law_web cd__law_web ct__law_web oc__law_program kV__law_program dc__law_program pm__law_program cd__law_program ct__law_program oc_is_list kV_is_list dc_is_list pm_is_list cd_is_list ct_is_list oc_is_name kV_is_name dc_is_name pm_is_name cd_is_name ct_is_name oc_are_names kV_are_names dc_are_names pm_are_names cd_are_names ct_are_names oc_Web_check kV_Web_check dc_Web_check pm_Web_check cd_Web_check ct_Web_check oc_Web_init kV_Web_init dc_Web_init pm_Web_init cd_Web_init ct_Web_init oc__law_number kV__law_number dc__law_number pm__law_number cd__law_number ct__law_number oc__law_history kV__law_history dc__law_history pm__law_history cd__law_history ct__law_history oc_Web_check_program kV_Web_check_program dc_Web_check_program pm_Web_check_program cd_Web_check_program ct_Web_check_program oc_Kinds_kind_of kV_Kinds_kind_of dc_Kinds_kind_of pm_Kinds_kind_of cd_Kinds_kind_of ct_Kinds_kind_of oc_Web_sources kV_Web_sources dc_Web_sources pm_Web_sources cd_Web_sources ct_Web_sources oc_History_do kV_History_do dc_History_do pm_History_do cd_History_do ct_History_do oc_History_init kV_History_init dc_History_init pm_History_init cd_History_init ct_History_init oc_Kinds_init kV_Kinds_init dc_Kinds_init pm_Kinds_init cd_Kinds_init ct_Kinds_init oc_kinds kV_kinds dc_kinds pm_kinds cd_kinds ct_kinds oc_Program_init kV_Program_init dc_Program_init pm_Program_init cd_Program_init ct_Program_init oc_law kV_law dc_law pm_law cd_law ct_law oc_BadWeb_init kV_BadWeb_init dc_BadWeb_init pm_BadWeb_init cd_BadWeb_init ct_BadWeb_init oc_UnknownCell_init kV_UnknownCell_init dc_UnknownCell_init pm_UnknownCell_init cd_UnknownCell_init ct_UnknownCell_init oc_BadProgram_init kV_BadProgram_init dc_BadProgram_init pm_BadProgram_init cd_BadProgram_init ct_BadProgram_init : Value} {tk_LETTERS tk_LONGEST : Tok} {nm_BadWeb q_BadWeb : Str} {N_BadWeb : Addr} {bs_BadWeb sub_BadWeb : List Value} {sn_BadWeb : List Str} {ab_BadWeb : Bool} {col_BadWeb : Option Bool} {dd_BadWeb : Option Addr} {m0_BadWeb m1_BadWeb m2_BadWeb m3_BadWeb m5_BadWeb : Option Value} {nm_UnknownCell q_UnknownCell : Str} {N_UnknownCell : Addr} {bs_UnknownCell sub_UnknownCell : List Value} {sn_UnknownCell : List Str} {ab_UnknownCell : Bool} {col_UnknownCell : Option Bool} {dd_UnknownCell : Option Addr} {m0_UnknownCell m1_UnknownCell m2_UnknownCell m3_UnknownCell m5_UnknownCell : Option Value} {nm_BadProgram q_BadProgram : Str} {N_BadProgram : Addr} {bs_BadProgram sub_BadProgram : List Value} {sn_BadProgram : List Str} {ab_BadProgram : Bool} {col_BadProgram : Option Bool} {dd_BadProgram : Option Addr} {m0_BadProgram m1_BadProgram m2_BadProgram m3_BadProgram m5_BadProgram : Option Value}
    (g_Kinds : PySem.W.nsIn K mainGlobals "Kinds" = some (some (.ref a_Kinds)))
    (pg_Kinds : PySem.W.plainGet K a_Kinds Str.empty = true)
    (hd_Kinds : PySem.W.hasDictIn K a_Kinds = true)
    (po_Kinds : PySem.W.plainOver K a_Kinds = true)
    (sa_Kinds : PySem.W.findIn K (.ref a_Kinds) "__setattr__" = some (some (.builtin "object.__setattr__")))
    (n_Kinds_numbers : PySem.W.findIn K (.ref a_Kinds) "numbers" = some none)
    (n_Kinds_parts : PySem.W.findIn K (.ref a_Kinds) "parts" = some none)
    (g_History : PySem.W.nsIn K mainGlobals "History" = some (some (.ref a_History)))
    (pg_History : PySem.W.plainGet K a_History Str.empty = true)
    (hd_History : PySem.W.hasDictIn K a_History = true)
    (po_History : PySem.W.plainOver K a_History = true)
    (sa_History : PySem.W.findIn K (.ref a_History) "__setattr__" = some (some (.builtin "object.__setattr__")))
    (n_History_web : PySem.W.findIn K (.ref a_History) "web" = some none)
    (n_History_kinds : PySem.W.findIn K (.ref a_History) "kinds" = some none)
    (n_History_rows : PySem.W.findIn K (.ref a_History) "rows" = some none)
    (n_History_steps : PySem.W.findIn K (.ref a_History) "steps" = some none)
    (g_Program : PySem.W.nsIn K mainGlobals "Program" = some (some (.ref a_Program)))
    (pg_Program : PySem.W.plainGet K a_Program Str.empty = true)
    (hd_Program : PySem.W.hasDictIn K a_Program = true)
    (po_Program : PySem.W.plainOver K a_Program = true)
    (sa_Program : PySem.W.findIn K (.ref a_Program) "__setattr__" = some (some (.builtin "object.__setattr__")))
    (n_Program_lots : PySem.W.findIn K (.ref a_Program) "lots" = some none)
    (g_Web : PySem.W.nsIn K mainGlobals "Web" = some (some (.ref a_Web)))
    (pg_Web : PySem.W.plainGet K a_Web Str.empty = true)
    (hd_Web : PySem.W.hasDictIn K a_Web = true)
    (po_Web : PySem.W.plainOver K a_Web = true)
    (sa_Web : PySem.W.findIn K (.ref a_Web) "__setattr__" = some (some (.builtin "object.__setattr__")))
    (n_Web_held : PySem.W.findIn K (.ref a_Web) "held" = some none)
    (n_Web_cells : PySem.W.findIn K (.ref a_Web) "cells" = some none)
    (n_Web_arrows : PySem.W.findIn K (.ref a_Web) "arrows" = some none)
    (g__law_pool : PySem.W.nsIn K mainGlobals "_law_pool" = some (some (.ref a__law_pool)))
    (l__law_pool : K.lookup a__law_pool = some ⟨oc__law_pool, od__law_pool, .func (PySem.W.fnOf "_law_pool" "_law_pool" (defArgs st__law_pool) (defBody st__law_pool) (defScope st__law_pool) .none kV__law_pool dc__law_pool pm__law_pool an__law_pool cd__law_pool ct__law_pool), sl__law_pool⟩)
    (c__law_pool : PySem.W.codeIn K cd__law_pool "_law_pool" = true)
    (k__law_pool : PySem.W.keepIn K (.ref a__law_pool) = true)
    (g__law_cell : PySem.W.nsIn K mainGlobals "_law_cell" = some (some (.ref a__law_cell)))
    (l__law_cell : K.lookup a__law_cell = some ⟨oc__law_cell, od__law_cell, .func (PySem.W.fnOf "_law_cell" "_law_cell" (defArgs st__law_cell) (defBody st__law_cell) (defScope st__law_cell) .none kV__law_cell dc__law_cell pm__law_cell an__law_cell cd__law_cell ct__law_cell), sl__law_cell⟩)
    (c__law_cell : PySem.W.codeIn K cd__law_cell "_law_cell" = true)
    (k__law_cell : PySem.W.keepIn K (.ref a__law_cell) = true)
    (g__law_take : PySem.W.nsIn K mainGlobals "_law_take" = some (some (.ref a__law_take)))
    (l__law_take : K.lookup a__law_take = some ⟨oc__law_take, od__law_take, .func (PySem.W.fnOf "_law_take" "_law_take" (defArgs st__law_take) (defBody st__law_take) (defScope st__law_take) .none kV__law_take dc__law_take pm__law_take an__law_take cd__law_take ct__law_take), sl__law_take⟩)
    (c__law_take : PySem.W.codeIn K cd__law_take "_law_take" = true)
    (k__law_take : PySem.W.keepIn K (.ref a__law_take) = true)
    (g__law_names : PySem.W.nsIn K mainGlobals "_law_names" = some (some (.ref a__law_names)))
    (l__law_names : K.lookup a__law_names = some ⟨oc__law_names, od__law_names, .func (PySem.W.fnOf "_law_names" "_law_names" (defArgs st__law_names) (defBody st__law_names) (defScope st__law_names) .none kV__law_names dc__law_names pm__law_names an__law_names cd__law_names ct__law_names), sl__law_names⟩)
    (c__law_names : PySem.W.codeIn K cd__law_names "_law_names" = true)
    (k__law_names : PySem.W.keepIn K (.ref a__law_names) = true)
    (g__law_mixed : PySem.W.nsIn K mainGlobals "_law_mixed" = some (some (.ref a__law_mixed)))
    (l__law_mixed : K.lookup a__law_mixed = some ⟨oc__law_mixed, od__law_mixed, .func (PySem.W.fnOf "_law_mixed" "_law_mixed" (defArgs st__law_mixed) (defBody st__law_mixed) (defScope st__law_mixed) .none kV__law_mixed dc__law_mixed pm__law_mixed an__law_mixed cd__law_mixed ct__law_mixed), sl__law_mixed⟩)
    (c__law_mixed : PySem.W.codeIn K cd__law_mixed "_law_mixed" = true)
    (k__law_mixed : PySem.W.keepIn K (.ref a__law_mixed) = true)
    (g__law_web : PySem.W.nsIn K mainGlobals "_law_web" = some (some (.ref a__law_web)))
    (l__law_web : K.lookup a__law_web = some ⟨oc__law_web, od__law_web, .func (PySem.W.fnOf "_law_web" "_law_web" (defArgs st__law_web) (defBody st__law_web) (defScope st__law_web) .none kV__law_web dc__law_web pm__law_web an__law_web cd__law_web ct__law_web), sl__law_web⟩)
    (c__law_web : PySem.W.codeIn K cd__law_web "_law_web" = true)
    (k__law_web : PySem.W.keepIn K (.ref a__law_web) = true)
    (g__law_program : PySem.W.nsIn K mainGlobals "_law_program" = some (some (.ref a__law_program)))
    (l__law_program : K.lookup a__law_program = some ⟨oc__law_program, od__law_program, .func (PySem.W.fnOf "_law_program" "_law_program" (defArgs st__law_program) (defBody st__law_program) (defScope st__law_program) .none kV__law_program dc__law_program pm__law_program an__law_program cd__law_program ct__law_program), sl__law_program⟩)
    (c__law_program : PySem.W.codeIn K cd__law_program "_law_program" = true)
    (k__law_program : PySem.W.keepIn K (.ref a__law_program) = true)
    (g_is_list : PySem.W.nsIn K mainGlobals "is_list" = some (some (.ref a_is_list)))
    (l_is_list : K.lookup a_is_list = some ⟨oc_is_list, od_is_list, .func (PySem.W.fnOf "is_list" "is_list" (defArgs st_is_list) (defBody st_is_list) (defScope st_is_list) .none kV_is_list dc_is_list pm_is_list an_is_list cd_is_list ct_is_list), sl_is_list⟩)
    (c_is_list : PySem.W.codeIn K cd_is_list "is_list" = true)
    (k_is_list : PySem.W.keepIn K (.ref a_is_list) = true)
    (g_is_name : PySem.W.nsIn K mainGlobals "is_name" = some (some (.ref a_is_name)))
    (l_is_name : K.lookup a_is_name = some ⟨oc_is_name, od_is_name, .func (PySem.W.fnOf "is_name" "is_name" (defArgs st_is_name) (defBody st_is_name) (defScope st_is_name) .none kV_is_name dc_is_name pm_is_name an_is_name cd_is_name ct_is_name), sl_is_name⟩)
    (c_is_name : PySem.W.codeIn K cd_is_name "is_name" = true)
    (k_is_name : PySem.W.keepIn K (.ref a_is_name) = true)
    (g_are_names : PySem.W.nsIn K mainGlobals "are_names" = some (some (.ref a_are_names)))
    (l_are_names : K.lookup a_are_names = some ⟨oc_are_names, od_are_names, .func (PySem.W.fnOf "are_names" "are_names" (defArgs st_are_names) (defBody st_are_names) (defScope st_are_names) .none kV_are_names dc_are_names pm_are_names an_are_names cd_are_names ct_are_names), sl_are_names⟩)
    (c_are_names : PySem.W.codeIn K cd_are_names "are_names" = true)
    (k_are_names : PySem.W.keepIn K (.ref a_are_names) = true)
    (g_Web_check : PySem.W.findIn K (.ref a_Web) "check" = some (some (.ref a_Web_check)))
    (i_Web_check : PySem.W.isFn K (.ref a_Web_check) = true)
    (l_Web_check : K.lookup a_Web_check = some ⟨oc_Web_check, od_Web_check, .func (PySem.W.fnOf "check" "Web.check" (defArgs st_Web_check) (defBody st_Web_check) (defScope st_Web_check) .none kV_Web_check dc_Web_check pm_Web_check an_Web_check cd_Web_check ct_Web_check), sl_Web_check⟩)
    (c_Web_check : PySem.W.codeIn K cd_Web_check "Web.check" = true)
    (k_Web_check : PySem.W.keepIn K (.ref a_Web_check) = true)
    (g_Web_init : PySem.W.findIn K (.ref a_Web) "__init__" = some (some (.ref a_Web_init)))
    (i_Web_init : PySem.W.isFn K (.ref a_Web_init) = true)
    (l_Web_init : K.lookup a_Web_init = some ⟨oc_Web_init, od_Web_init, .func (PySem.W.fnOf "__init__" "Web.__init__" (defArgs st_Web_init) (defBody st_Web_init) (defScope st_Web_init) .none kV_Web_init dc_Web_init pm_Web_init an_Web_init cd_Web_init ct_Web_init), sl_Web_init⟩)
    (c_Web_init : PySem.W.codeIn K cd_Web_init "Web.__init__" = true)
    (k_Web_init : PySem.W.keepIn K (.ref a_Web_init) = true)
    (mk_Web : PySem.W.makesIn K a_Web = true)
    (kc_Web : PySem.W.keepIn K (.ref a_Web) = true)
    (g__law_number : PySem.W.nsIn K mainGlobals "_law_number" = some (some (.ref a__law_number)))
    (l__law_number : K.lookup a__law_number = some ⟨oc__law_number, od__law_number, .func (PySem.W.fnOf "_law_number" "_law_number" (defArgs st__law_number) (defBody st__law_number) (defScope st__law_number) .none kV__law_number dc__law_number pm__law_number an__law_number cd__law_number ct__law_number), sl__law_number⟩)
    (c__law_number : PySem.W.codeIn K cd__law_number "_law_number" = true)
    (k__law_number : PySem.W.keepIn K (.ref a__law_number) = true)
    (g__law_history : PySem.W.nsIn K mainGlobals "_law_history" = some (some (.ref a__law_history)))
    (l__law_history : K.lookup a__law_history = some ⟨oc__law_history, od__law_history, .func (PySem.W.fnOf "_law_history" "_law_history" (defArgs st__law_history) (defBody st__law_history) (defScope st__law_history) .none kV__law_history dc__law_history pm__law_history an__law_history cd__law_history ct__law_history), sl__law_history⟩)
    (c__law_history : PySem.W.codeIn K cd__law_history "_law_history" = true)
    (k__law_history : PySem.W.keepIn K (.ref a__law_history) = true)
    (g_Web_check_program : PySem.W.findIn K (.ref a_Web) "check_program" = some (some (.ref a_Web_check_program)))
    (i_Web_check_program : PySem.W.isFn K (.ref a_Web_check_program) = true)
    (l_Web_check_program : K.lookup a_Web_check_program = some ⟨oc_Web_check_program, od_Web_check_program, .func (PySem.W.fnOf "check_program" "Web.check_program" (defArgs st_Web_check_program) (defBody st_Web_check_program) (defScope st_Web_check_program) .none kV_Web_check_program dc_Web_check_program pm_Web_check_program an_Web_check_program cd_Web_check_program ct_Web_check_program), sl_Web_check_program⟩)
    (c_Web_check_program : PySem.W.codeIn K cd_Web_check_program "Web.check_program" = true)
    (k_Web_check_program : PySem.W.keepIn K (.ref a_Web_check_program) = true)
    (g_Kinds_kind_of : PySem.W.findIn K (.ref a_Kinds) "kind_of" = some (some (.ref a_Kinds_kind_of)))
    (i_Kinds_kind_of : PySem.W.isFn K (.ref a_Kinds_kind_of) = true)
    (l_Kinds_kind_of : K.lookup a_Kinds_kind_of = some ⟨oc_Kinds_kind_of, od_Kinds_kind_of, .func (PySem.W.fnOf "kind_of" "Kinds.kind_of" (defArgs st_Kinds_kind_of) (defBody st_Kinds_kind_of) (defScope st_Kinds_kind_of) .none kV_Kinds_kind_of dc_Kinds_kind_of pm_Kinds_kind_of an_Kinds_kind_of cd_Kinds_kind_of ct_Kinds_kind_of), sl_Kinds_kind_of⟩)
    (c_Kinds_kind_of : PySem.W.codeIn K cd_Kinds_kind_of "Kinds.kind_of" = true)
    (k_Kinds_kind_of : PySem.W.keepIn K (.ref a_Kinds_kind_of) = true)
    (g_Web_sources : PySem.W.findIn K (.ref a_Web) "sources" = some (some (.ref a_Web_sources)))
    (i_Web_sources : PySem.W.isFn K (.ref a_Web_sources) = true)
    (l_Web_sources : K.lookup a_Web_sources = some ⟨oc_Web_sources, od_Web_sources, .func (PySem.W.fnOf "sources" "Web.sources" (defArgs st_Web_sources) (defBody st_Web_sources) (defScope st_Web_sources) .none kV_Web_sources dc_Web_sources pm_Web_sources an_Web_sources cd_Web_sources ct_Web_sources), sl_Web_sources⟩)
    (c_Web_sources : PySem.W.codeIn K cd_Web_sources "Web.sources" = true)
    (k_Web_sources : PySem.W.keepIn K (.ref a_Web_sources) = true)
    (g_History_do : PySem.W.findIn K (.ref a_History) "do" = some (some (.ref a_History_do)))
    (i_History_do : PySem.W.isFn K (.ref a_History_do) = true)
    (l_History_do : K.lookup a_History_do = some ⟨oc_History_do, od_History_do, .func (PySem.W.fnOf "do" "History.do" (defArgs st_History_do) (defBody st_History_do) (defScope st_History_do) .none kV_History_do dc_History_do pm_History_do an_History_do cd_History_do ct_History_do), sl_History_do⟩)
    (c_History_do : PySem.W.codeIn K cd_History_do "History.do" = true)
    (k_History_do : PySem.W.keepIn K (.ref a_History_do) = true)
    (g_History_init : PySem.W.findIn K (.ref a_History) "__init__" = some (some (.ref a_History_init)))
    (i_History_init : PySem.W.isFn K (.ref a_History_init) = true)
    (l_History_init : K.lookup a_History_init = some ⟨oc_History_init, od_History_init, .func (PySem.W.fnOf "__init__" "History.__init__" (defArgs st_History_init) (defBody st_History_init) (defScope st_History_init) .none kV_History_init dc_History_init pm_History_init an_History_init cd_History_init ct_History_init), sl_History_init⟩)
    (c_History_init : PySem.W.codeIn K cd_History_init "History.__init__" = true)
    (k_History_init : PySem.W.keepIn K (.ref a_History_init) = true)
    (mk_History : PySem.W.makesIn K a_History = true)
    (kc_History : PySem.W.keepIn K (.ref a_History) = true)
    (g_Kinds_init : PySem.W.findIn K (.ref a_Kinds) "__init__" = some (some (.ref a_Kinds_init)))
    (i_Kinds_init : PySem.W.isFn K (.ref a_Kinds_init) = true)
    (l_Kinds_init : K.lookup a_Kinds_init = some ⟨oc_Kinds_init, od_Kinds_init, .func (PySem.W.fnOf "__init__" "Kinds.__init__" (defArgs st_Kinds_init) (defBody st_Kinds_init) (defScope st_Kinds_init) .none kV_Kinds_init dc_Kinds_init pm_Kinds_init an_Kinds_init cd_Kinds_init ct_Kinds_init), sl_Kinds_init⟩)
    (c_Kinds_init : PySem.W.codeIn K cd_Kinds_init "Kinds.__init__" = true)
    (k_Kinds_init : PySem.W.keepIn K (.ref a_Kinds_init) = true)
    (mk_Kinds : PySem.W.makesIn K a_Kinds = true)
    (kc_Kinds : PySem.W.keepIn K (.ref a_Kinds) = true)
    (g_kinds : PySem.W.nsIn K mainGlobals "kinds" = some (some (.ref a_kinds)))
    (l_kinds : K.lookup a_kinds = some ⟨oc_kinds, od_kinds, .func (PySem.W.fnOf "kinds" "kinds" (defArgs st_kinds) (defBody st_kinds) (defScope st_kinds) .none kV_kinds dc_kinds pm_kinds an_kinds cd_kinds ct_kinds), sl_kinds⟩)
    (c_kinds : PySem.W.codeIn K cd_kinds "kinds" = true)
    (k_kinds : PySem.W.keepIn K (.ref a_kinds) = true)
    (g_Program_init : PySem.W.findIn K (.ref a_Program) "__init__" = some (some (.ref a_Program_init)))
    (i_Program_init : PySem.W.isFn K (.ref a_Program_init) = true)
    (l_Program_init : K.lookup a_Program_init = some ⟨oc_Program_init, od_Program_init, .func (PySem.W.fnOf "__init__" "Program.__init__" (defArgs st_Program_init) (defBody st_Program_init) (defScope st_Program_init) .none kV_Program_init dc_Program_init pm_Program_init an_Program_init cd_Program_init ct_Program_init), sl_Program_init⟩)
    (c_Program_init : PySem.W.codeIn K cd_Program_init "Program.__init__" = true)
    (k_Program_init : PySem.W.keepIn K (.ref a_Program_init) = true)
    (mk_Program : PySem.W.makesIn K a_Program = true)
    (kc_Program : PySem.W.keepIn K (.ref a_Program) = true)
    (g_law : PySem.W.nsIn K mainGlobals "law" = some (some (.ref a_law)))
    (l_law : K.lookup a_law = some ⟨oc_law, od_law, .func (PySem.W.fnOf "law" "law" (defArgs st_law) (defBody st_law) (defScope st_law) .none kV_law dc_law pm_law an_law cd_law ct_law), sl_law⟩)
    (c_law : PySem.W.codeIn K cd_law "law" = true)
    (k_law : PySem.W.keepIn K (.ref a_law) = true)
    (g_LotError : PySem.W.nsIn K mainGlobals "LotError" = some (some (.ref a_LotError)))
    (rd_LotError : PySem.W.readsIn K a_LotError (.type "type") = true)
    (fc_LotError : PySem.W.findCls K (.ref a_LotError) (.type "type") "__init__" = some (.val (.builtin "ValueError.__init__")))
    (sp_LotError : PySem.W.specialIn K (.ref a_LotError) "__getattribute__" = some (some (.builtin "type.__getattribute__")))
    (g_BadWeb : PySem.W.nsIn K mainGlobals "BadWeb" = some (some (.ref a_BadWeb)))
    (xL_BadWeb : K.lookup a_BadWeb = some (excClassObj nm_BadWeb q_BadWeb a_BadWeb N_BadWeb bs_BadWeb [.ref a_LotError, .type "ValueError", .type "Exception", .type "BaseException", .type "object"] true sn_BadWeb sub_BadWeb ab_BadWeb col_BadWeb dd_BadWeb m0_BadWeb m1_BadWeb m2_BadWeb m3_BadWeb m5_BadWeb "ValueError.__new__"))
    (sa_BadWeb : PySem.W.findIn K (.ref a_BadWeb) "__setattr__" = some (some (.builtin "object.__setattr__")))
    (ga_BadWeb : PySem.W.findIn K (.ref a_BadWeb) "__getattribute__" = some (some (.builtin "BaseException.__getattribute__")))
    (gg_BadWeb : PySem.W.findIn K (.ref a_BadWeb) "__getattr__" = some none)
    (nf_BadWeb : PySem.W.findIn K (.ref a_BadWeb) "index" = some none)
    (gi_BadWeb : PySem.W.findIn K (.ref a_BadWeb) "__init__" = some (some (.ref a_BadWeb_init)))
    (ti_BadWeb : PySem.W.typeIn K (.ref a_BadWeb_init) = some (.type "function"))
    (l_BadWeb_init : K.lookup a_BadWeb_init = some ⟨oc_BadWeb_init, od_BadWeb_init, .func (PySem.W.fnOf "__init__" "BadWeb.__init__" (defArgs st_BadWeb_init) (defBody st_BadWeb_init) (defScope st_BadWeb_init) .none kV_BadWeb_init dc_BadWeb_init pm_BadWeb_init an_BadWeb_init cd_BadWeb_init ct_BadWeb_init), sl_BadWeb_init⟩)
    (c_BadWeb_init : PySem.W.codeIn K cd_BadWeb_init "BadWeb.__init__" = true)
    (k_BadWeb_init : PySem.W.keepIn K (.ref a_BadWeb_init) = true)
    (kC_BadWeb : PySem.W.keepIn K (.ref a_BadWeb) = true)
    (eC_BadWeb : PySem.W.subIn K (.ref a_BadWeb) (.type "BaseException") = some true)
    (tC_BadWeb : PySem.W.typeIn K (.ref a_BadWeb) = some (.type "type"))
    (hC_BadWeb : PySem.W.hasDictIn K a_BadWeb = true)
    (g_UnknownCell : PySem.W.nsIn K mainGlobals "UnknownCell" = some (some (.ref a_UnknownCell)))
    (xL_UnknownCell : K.lookup a_UnknownCell = some (excClassObj nm_UnknownCell q_UnknownCell a_UnknownCell N_UnknownCell bs_UnknownCell [.ref a_LotError, .type "ValueError", .type "Exception", .type "BaseException", .type "object"] true sn_UnknownCell sub_UnknownCell ab_UnknownCell col_UnknownCell dd_UnknownCell m0_UnknownCell m1_UnknownCell m2_UnknownCell m3_UnknownCell m5_UnknownCell "ValueError.__new__"))
    (sa_UnknownCell : PySem.W.findIn K (.ref a_UnknownCell) "__setattr__" = some (some (.builtin "object.__setattr__")))
    (ga_UnknownCell : PySem.W.findIn K (.ref a_UnknownCell) "__getattribute__" = some (some (.builtin "BaseException.__getattribute__")))
    (gg_UnknownCell : PySem.W.findIn K (.ref a_UnknownCell) "__getattr__" = some none)
    (nf_UnknownCell : PySem.W.findIn K (.ref a_UnknownCell) "cell" = some none)
    (gi_UnknownCell : PySem.W.findIn K (.ref a_UnknownCell) "__init__" = some (some (.ref a_UnknownCell_init)))
    (ti_UnknownCell : PySem.W.typeIn K (.ref a_UnknownCell_init) = some (.type "function"))
    (l_UnknownCell_init : K.lookup a_UnknownCell_init = some ⟨oc_UnknownCell_init, od_UnknownCell_init, .func (PySem.W.fnOf "__init__" "UnknownCell.__init__" (defArgs st_UnknownCell_init) (defBody st_UnknownCell_init) (defScope st_UnknownCell_init) .none kV_UnknownCell_init dc_UnknownCell_init pm_UnknownCell_init an_UnknownCell_init cd_UnknownCell_init ct_UnknownCell_init), sl_UnknownCell_init⟩)
    (c_UnknownCell_init : PySem.W.codeIn K cd_UnknownCell_init "UnknownCell.__init__" = true)
    (k_UnknownCell_init : PySem.W.keepIn K (.ref a_UnknownCell_init) = true)
    (kC_UnknownCell : PySem.W.keepIn K (.ref a_UnknownCell) = true)
    (eC_UnknownCell : PySem.W.subIn K (.ref a_UnknownCell) (.type "BaseException") = some true)
    (tC_UnknownCell : PySem.W.typeIn K (.ref a_UnknownCell) = some (.type "type"))
    (hC_UnknownCell : PySem.W.hasDictIn K a_UnknownCell = true)
    (g_BadProgram : PySem.W.nsIn K mainGlobals "BadProgram" = some (some (.ref a_BadProgram)))
    (xL_BadProgram : K.lookup a_BadProgram = some (excClassObj nm_BadProgram q_BadProgram a_BadProgram N_BadProgram bs_BadProgram [.ref a_LotError, .type "ValueError", .type "Exception", .type "BaseException", .type "object"] true sn_BadProgram sub_BadProgram ab_BadProgram col_BadProgram dd_BadProgram m0_BadProgram m1_BadProgram m2_BadProgram m3_BadProgram m5_BadProgram "ValueError.__new__"))
    (sa_BadProgram : PySem.W.findIn K (.ref a_BadProgram) "__setattr__" = some (some (.builtin "object.__setattr__")))
    (ga_BadProgram : PySem.W.findIn K (.ref a_BadProgram) "__getattribute__" = some (some (.builtin "BaseException.__getattribute__")))
    (gg_BadProgram : PySem.W.findIn K (.ref a_BadProgram) "__getattr__" = some none)
    (nf_BadProgram : PySem.W.findIn K (.ref a_BadProgram) "index" = some none)
    (gi_BadProgram : PySem.W.findIn K (.ref a_BadProgram) "__init__" = some (some (.ref a_BadProgram_init)))
    (ti_BadProgram : PySem.W.typeIn K (.ref a_BadProgram_init) = some (.type "function"))
    (l_BadProgram_init : K.lookup a_BadProgram_init = some ⟨oc_BadProgram_init, od_BadProgram_init, .func (PySem.W.fnOf "__init__" "BadProgram.__init__" (defArgs st_BadProgram_init) (defBody st_BadProgram_init) (defScope st_BadProgram_init) .none kV_BadProgram_init dc_BadProgram_init pm_BadProgram_init an_BadProgram_init cd_BadProgram_init ct_BadProgram_init), sl_BadProgram_init⟩)
    (c_BadProgram_init : PySem.W.codeIn K cd_BadProgram_init "BadProgram.__init__" = true)
    (k_BadProgram_init : PySem.W.keepIn K (.ref a_BadProgram_init) = true)
    (kC_BadProgram : PySem.W.keepIn K (.ref a_BadProgram) = true)
    (eC_BadProgram : PySem.W.subIn K (.ref a_BadProgram) (.type "BaseException") = some true)
    (tC_BadProgram : PySem.W.typeIn K (.ref a_BadProgram) = some (.type "type"))
    (hC_BadProgram : PySem.W.hasDictIn K a_BadProgram = true)
    (z_all : PySem.W.nsIn K mainGlobals "all" = some none)
    (z_dict : PySem.W.nsIn K mainGlobals "dict" = some none)
    (z_enumerate : PySem.W.nsIn K mainGlobals "enumerate" = some none)
    (z_int : PySem.W.nsIn K mainGlobals "int" = some none)
    (z_isinstance : PySem.W.nsIn K mainGlobals "isinstance" = some none)
    (z_len : PySem.W.nsIn K mainGlobals "len" = some none)
    (z_list : PySem.W.nsIn K mainGlobals "list" = some none)
    (z_min : PySem.W.nsIn K mainGlobals "min" = some none)
    (z_range : PySem.W.nsIn K mainGlobals "range" = some none)
    (z_sorted : PySem.W.nsIn K mainGlobals "sorted" = some none)
    (z_str : PySem.W.nsIn K mainGlobals "str" = some none)
    (z_tuple : PySem.W.nsIn K mainGlobals "tuple" = some none)
    (v_LETTERS : PySem.W.nsIn K mainGlobals "LETTERS" = some (some (.str "abcdefghijklmnopqrstuvwxyz" tk_LETTERS)))
    (v_LONGEST : PySem.W.nsIn K mainGlobals "LONGEST" = some (some (.int 8 tk_LONGEST)))
    : ∃ T : Tx K mg, T.a_law = a_law ∧ ∃ kV dc pm an cd ct, T.d_law = PySem.W.fnOf "law" "law" (defArgs st_law) (defBody st_law) (defScope st_law) .none kV dc pm an cd ct := by
  have F__law_pool := fun_mk (st := st__law_pool) l__law_pool c__law_pool k__law_pool
  have B__law_pool := F__law_pool.binds (ps := ["_law_cell_here"]) fun _ _ _ _ _ _ us hl => match us, hl with | [_], _ => rfl
  have F__law_cell := fun_mk (st := st__law_cell) l__law_cell c__law_cell k__law_cell
  have B__law_cell := F__law_cell.binds (ps := ["_law_script", "_law_k"]) fun _ _ _ _ _ _ us hl => match us, hl with | [_, _], _ => rfl
  have F__law_take := fun_mk (st := st__law_take) l__law_take c__law_take k__law_take
  have B__law_take := F__law_take.binds (ps := ["_law_pool_here", "_law_many"]) fun _ _ _ _ _ _ us hl => match us, hl with | [_, _], _ => rfl
  have F__law_names := fun_mk (st := st__law_names) l__law_names c__law_names k__law_names
  have B__law_names := F__law_names.binds (ps := ["_law_pool_here", "_law_many"]) fun _ _ _ _ _ _ us hl => match us, hl with | [_, _], _ => rfl
  have F__law_mixed := fun_mk (st := st__law_mixed) l__law_mixed c__law_mixed k__law_mixed
  have B__law_mixed := F__law_mixed.binds (ps := ["_law_pool_here", "_law_things"]) fun _ _ _ _ _ _ us hl => match us, hl with | [_, _], _ => rfl
  have F__law_web := fun_mk (st := st__law_web) l__law_web c__law_web k__law_web
  have B__law_web := F__law_web.binds (ps := ["_law_pool_here", "_law_most", "_law_many"]) fun _ _ _ _ _ _ us hl => match us, hl with | [_, _, _], _ => rfl
  have F__law_program := fun_mk (st := st__law_program) l__law_program c__law_program k__law_program
  have B__law_program := F__law_program.binds (ps := ["_law_pool_here", "_law_names_here", "_law_most"]) fun _ _ _ _ _ _ us hl => match us, hl with | [_, _, _], _ => rfl
  have F_is_list := fun_mk (st := st_is_list) l_is_list c_is_list k_is_list
  have B_is_list := F_is_list.binds (ps := ["thing"]) fun _ _ _ _ _ _ us hl => match us, hl with | [_], _ => rfl
  have F_is_name := fun_mk (st := st_is_name) l_is_name c_is_name k_is_name
  have B_is_name := F_is_name.binds (ps := ["thing"]) fun _ _ _ _ _ _ us hl => match us, hl with | [_], _ => rfl
  have F_are_names := fun_mk (st := st_are_names) l_are_names c_are_names k_are_names
  have B_are_names := F_are_names.binds (ps := ["thing"]) fun _ _ _ _ _ _ us hl => match us, hl with | [_], _ => rfl
  have F_Web_check := fun_mk (st := st_Web_check) l_Web_check c_Web_check k_Web_check
  have B_Web_check := F_Web_check.binds (ps := ["self", "cells"]) fun _ _ _ _ _ _ us hl => match us, hl with | [_, _], _ => rfl
  have F_Web_init := fun_mk (st := st_Web_init) l_Web_init c_Web_init k_Web_init
  have B_Web_init := F_Web_init.binds (ps := ["self", "rows"]) fun _ _ _ _ _ _ us hl => match us, hl with | [_, _], _ => rfl
  have F__law_number := fun_mk (st := st__law_number) l__law_number c__law_number k__law_number
  have B__law_number := F__law_number.binds (ps := ["_law_table", "_law_key"]) fun _ _ _ _ _ _ us hl => match us, hl with | [_, _], _ => rfl
  have F__law_history := fun_mk (st := st__law_history) l__law_history c__law_history k__law_history
  have B__law_history := F__law_history.binds (ps := ["_law_rows", "_law_lots", "_law_table"]) fun _ _ _ _ _ _ us hl => match us, hl with | [_, _, _], _ => rfl
  have F_Web_check_program := fun_mk (st := st_Web_check_program) l_Web_check_program c_Web_check_program k_Web_check_program
  have B_Web_check_program := F_Web_check_program.binds (ps := ["self", "program"]) fun _ _ _ _ _ _ us hl => match us, hl with | [_, _], _ => rfl
  have F_Kinds_kind_of := fun_mk (st := st_Kinds_kind_of) l_Kinds_kind_of c_Kinds_kind_of k_Kinds_kind_of
  have B_Kinds_kind_of := F_Kinds_kind_of.binds (ps := ["self", "key"]) fun _ _ _ _ _ _ us hl => match us, hl with | [_, _], _ => rfl
  have F_Web_sources := fun_mk (st := st_Web_sources) l_Web_sources c_Web_sources k_Web_sources
  have B_Web_sources := F_Web_sources.binds (ps := ["self", "cell"]) fun _ _ _ _ _ _ us hl => match us, hl with | [_, _], _ => rfl
  have F_History_do := fun_mk (st := st_History_do) l_History_do c_History_do k_History_do
  have B_History_do := F_History_do.binds (ps := ["self", "at", "lot"]) fun _ _ _ _ _ _ us hl => match us, hl with | [_, _, _], _ => rfl
  have F_History_init := fun_mk (st := st_History_init) l_History_init c_History_init k_History_init
  have B_History_init := F_History_init.binds (ps := ["self", "web", "program", "kinds"]) fun _ _ _ _ _ _ us hl => match us, hl with | [_, _, _, _], _ => rfl
  have F_Kinds_init := fun_mk (st := st_Kinds_init) l_Kinds_init c_Kinds_init k_Kinds_init
  have B_Kinds_init := F_Kinds_init.binds (ps := ["self"]) fun _ _ _ _ _ _ us hl => match us, hl with | [_], _ => rfl
  have F_kinds := fun_mk (st := st_kinds) l_kinds c_kinds k_kinds
  have B_kinds := F_kinds.binds (ps := ["web", "program"]) fun _ _ _ _ _ _ us hl => match us, hl with | [_, _], _ => rfl
  have F_Program_init := fun_mk (st := st_Program_init) l_Program_init c_Program_init k_Program_init
  have B_Program_init := F_Program_init.binds (ps := ["self", "lots"]) fun _ _ _ _ _ _ us hl => match us, hl with | [_, _], _ => rfl
  have F_law := fun_mk (st := st_law) l_law c_law k_law
  have B_law := F_law.binds (ps := ["_law_script"]) fun _ _ _ _ _ _ us hl => match us, hl with | [_], _ => rfl
  have F_BadWeb_init := fun_mk (st := st_BadWeb_init) l_BadWeb_init c_BadWeb_init k_BadWeb_init
  have B_BadWeb_init := F_BadWeb_init.binds (ps := ["self", "index"]) fun _ _ _ _ _ _ us hl => match us, hl with | [_, _], _ => rfl
  have F_UnknownCell_init := fun_mk (st := st_UnknownCell_init) l_UnknownCell_init c_UnknownCell_init k_UnknownCell_init
  have B_UnknownCell_init := F_UnknownCell_init.binds (ps := ["self", "cell"]) fun _ _ _ _ _ _ us hl => match us, hl with | [_, _], _ => rfl
  have F_BadProgram_init := fun_mk (st := st_BadProgram_init) l_BadProgram_init c_BadProgram_init k_BadProgram_init
  have B_BadProgram_init := F_BadProgram_init.binds (ps := ["self", "index"]) fun _ _ _ _ _ _ us hl => match us, hl with | [_, _], _ => rfl
  exact ⟨{ a_Kinds := a_Kinds, m_Kinds := PySem.W.mg_of X G g_Kinds, c_Kinds := ⟨pg_Kinds, hd_Kinds, po_Kinds, sa_Kinds⟩, n_Kinds_numbers := n_Kinds_numbers, n_Kinds_parts := n_Kinds_parts, a_History := a_History, m_History := PySem.W.mg_of X G g_History, c_History := ⟨pg_History, hd_History, po_History, sa_History⟩, n_History_web := n_History_web, n_History_kinds := n_History_kinds, n_History_rows := n_History_rows, n_History_steps := n_History_steps, a_Program := a_Program, m_Program := PySem.W.mg_of X G g_Program, c_Program := ⟨pg_Program, hd_Program, po_Program, sa_Program⟩, n_Program_lots := n_Program_lots, a_Web := a_Web, m_Web := PySem.W.mg_of X G g_Web, c_Web := ⟨pg_Web, hd_Web, po_Web, sa_Web⟩, n_Web_held := n_Web_held, n_Web_cells := n_Web_cells, n_Web_arrows := n_Web_arrows, a__law_pool := a__law_pool, d__law_pool := _, f__law_pool := F__law_pool, b__law_pool := B__law_pool, m__law_pool := PySem.W.mg_of X G g__law_pool, a__law_cell := a__law_cell, d__law_cell := _, f__law_cell := F__law_cell, b__law_cell := B__law_cell, m__law_cell := PySem.W.mg_of X G g__law_cell, a__law_take := a__law_take, d__law_take := _, f__law_take := F__law_take, b__law_take := B__law_take, m__law_take := PySem.W.mg_of X G g__law_take, a__law_names := a__law_names, d__law_names := _, f__law_names := F__law_names, b__law_names := B__law_names, m__law_names := PySem.W.mg_of X G g__law_names, a__law_mixed := a__law_mixed, d__law_mixed := _, f__law_mixed := F__law_mixed, b__law_mixed := B__law_mixed, m__law_mixed := PySem.W.mg_of X G g__law_mixed, a__law_web := a__law_web, d__law_web := _, f__law_web := F__law_web, b__law_web := B__law_web, m__law_web := PySem.W.mg_of X G g__law_web, a__law_program := a__law_program, d__law_program := _, f__law_program := F__law_program, b__law_program := B__law_program, m__law_program := PySem.W.mg_of X G g__law_program, a_is_list := a_is_list, d_is_list := _, f_is_list := F_is_list, b_is_list := B_is_list, m_is_list := PySem.W.mg_of X G g_is_list, a_is_name := a_is_name, d_is_name := _, f_is_name := F_is_name, b_is_name := B_is_name, m_is_name := PySem.W.mg_of X G g_is_name, a_are_names := a_are_names, d_are_names := _, f_are_names := F_are_names, b_are_names := B_are_names, m_are_names := PySem.W.mg_of X G g_are_names, a_Web_check := a_Web_check, d_Web_check := _, f_Web_check := F_Web_check, b_Web_check := B_Web_check, t_Web_check := ⟨g_Web_check, i_Web_check, k_Web_check⟩, a_Web_init := a_Web_init, d_Web_init := _, f_Web_init := F_Web_init, b_Web_init := B_Web_init, k_Web := ⟨mk_Web, g_Web_init, i_Web_init, kc_Web⟩, a__law_number := a__law_number, d__law_number := _, f__law_number := F__law_number, b__law_number := B__law_number, m__law_number := PySem.W.mg_of X G g__law_number, a__law_history := a__law_history, d__law_history := _, f__law_history := F__law_history, b__law_history := B__law_history, m__law_history := PySem.W.mg_of X G g__law_history, a_Web_check_program := a_Web_check_program, d_Web_check_program := _, f_Web_check_program := F_Web_check_program, b_Web_check_program := B_Web_check_program, t_Web_check_program := ⟨g_Web_check_program, i_Web_check_program, k_Web_check_program⟩, a_Kinds_kind_of := a_Kinds_kind_of, d_Kinds_kind_of := _, f_Kinds_kind_of := F_Kinds_kind_of, b_Kinds_kind_of := B_Kinds_kind_of, t_Kinds_kind_of := ⟨g_Kinds_kind_of, i_Kinds_kind_of, k_Kinds_kind_of⟩, a_Web_sources := a_Web_sources, d_Web_sources := _, f_Web_sources := F_Web_sources, b_Web_sources := B_Web_sources, t_Web_sources := ⟨g_Web_sources, i_Web_sources, k_Web_sources⟩, a_History_do := a_History_do, d_History_do := _, f_History_do := F_History_do, b_History_do := B_History_do, t_History_do := ⟨g_History_do, i_History_do, k_History_do⟩, a_History_init := a_History_init, d_History_init := _, f_History_init := F_History_init, b_History_init := B_History_init, k_History := ⟨mk_History, g_History_init, i_History_init, kc_History⟩, a_Kinds_init := a_Kinds_init, d_Kinds_init := _, f_Kinds_init := F_Kinds_init, b_Kinds_init := B_Kinds_init, k_Kinds := ⟨mk_Kinds, g_Kinds_init, i_Kinds_init, kc_Kinds⟩, a_kinds := a_kinds, d_kinds := _, f_kinds := F_kinds, b_kinds := B_kinds, m_kinds := PySem.W.mg_of X G g_kinds, a_Program_init := a_Program_init, d_Program_init := _, f_Program_init := F_Program_init, b_Program_init := B_Program_init, k_Program := ⟨mk_Program, g_Program_init, i_Program_init, kc_Program⟩, a_law := a_law, d_law := _, f_law := F_law, b_law := B_law, m_law := PySem.W.mg_of X G g_law, a_LotError := a_LotError, m_LotError := PySem.W.mg_of X G g_LotError, B_LotError := (base_mk rd_LotError fc_LotError sp_LotError), a_BadWeb := a_BadWeb, m_BadWeb := PySem.W.mg_of X G g_BadWeb, o_BadWeb := ⟨⟨_, _, _, _, _, _, _, _, _, _, _, _, _, _, _, xL_BadWeb, (show HandSPX.refsVE [.type "ValueError", .type "Exception", .type "BaseException", .type "object"] = true by decide +kernel)⟩, sa_BadWeb, eC_BadWeb, tC_BadWeb, kC_BadWeb⟩, n_BadWeb := nf_BadWeb, w_BadWeb := ⟨ga_BadWeb, gg_BadWeb, eC_BadWeb, hC_BadWeb⟩, a_BadWeb_init := a_BadWeb_init, d_BadWeb_init := _, f_BadWeb_init := F_BadWeb_init, b_BadWeb_init := B_BadWeb_init, i_BadWeb := gi_BadWeb, y_BadWeb := ti_BadWeb, a_UnknownCell := a_UnknownCell, m_UnknownCell := PySem.W.mg_of X G g_UnknownCell, o_UnknownCell := ⟨⟨_, _, _, _, _, _, _, _, _, _, _, _, _, _, _, xL_UnknownCell, (show HandSPX.refsVE [.type "ValueError", .type "Exception", .type "BaseException", .type "object"] = true by decide +kernel)⟩, sa_UnknownCell, eC_UnknownCell, tC_UnknownCell, kC_UnknownCell⟩, n_UnknownCell := nf_UnknownCell, w_UnknownCell := ⟨ga_UnknownCell, gg_UnknownCell, eC_UnknownCell, hC_UnknownCell⟩, a_UnknownCell_init := a_UnknownCell_init, d_UnknownCell_init := _, f_UnknownCell_init := F_UnknownCell_init, b_UnknownCell_init := B_UnknownCell_init, i_UnknownCell := gi_UnknownCell, y_UnknownCell := ti_UnknownCell, a_BadProgram := a_BadProgram, m_BadProgram := PySem.W.mg_of X G g_BadProgram, o_BadProgram := ⟨⟨_, _, _, _, _, _, _, _, _, _, _, _, _, _, _, xL_BadProgram, (show HandSPX.refsVE [.type "ValueError", .type "Exception", .type "BaseException", .type "object"] = true by decide +kernel)⟩, sa_BadProgram, eC_BadProgram, tC_BadProgram, kC_BadProgram⟩, n_BadProgram := nf_BadProgram, w_BadProgram := ⟨ga_BadProgram, gg_BadProgram, eC_BadProgram, hC_BadProgram⟩, a_BadProgram_init := a_BadProgram_init, d_BadProgram_init := _, f_BadProgram_init := F_BadProgram_init, b_BadProgram_init := B_BadProgram_init, i_BadProgram := gi_BadProgram, y_BadProgram := ti_BadProgram, z_all := PySem.W.mg_none_of X G z_all, z_dict := PySem.W.mg_none_of X G z_dict, z_enumerate := PySem.W.mg_none_of X G z_enumerate, z_int := PySem.W.mg_none_of X G z_int, z_isinstance := PySem.W.mg_none_of X G z_isinstance, z_len := PySem.W.mg_none_of X G z_len, z_list := PySem.W.mg_none_of X G z_list, z_min := PySem.W.mg_none_of X G z_min, z_range := PySem.W.mg_none_of X G z_range, z_sorted := PySem.W.mg_none_of X G z_sorted, z_str := PySem.W.mg_none_of X G z_str, z_tuple := PySem.W.mg_none_of X G z_tuple, g_LETTERS := ⟨tk_LETTERS, PySem.W.mg_of X G v_LETTERS⟩, g_LONGEST := ⟨tk_LONGEST, PySem.W.mg_of X G v_LONGEST⟩ }, rfl, _, _, _, _, _, _, rfl⟩
/-- law's: a list of at most 63 ints is handed in, True comes out -/
def spLaw (K : PySem.W.Frag) : Sp := fun vs H Q _ => ∃ (a : Addr) (ns : List Int), vs = [.ref a] ∧ SqL K H a (ns.map V.int) ∧ ns.length ≤ 63 ∧ ∀ H', Q (.bl true) H'
theorem reps_ints {K : PySem.W.Frag} {cl : Cl} {G : Hp} : ∀ ns : List Int, Reps K cl G (ns.map T.int) (ns.map V.int)
  | [] => .nil
  | n :: r => .cons (.int n) (reps_ints r)
theorem fin_law {l : PySem.W.OpenLaw} {w : World} {K : PySem.W.Frag} {mg : Str → Option Value} {fa : Addr} (hT : ∃ T : Tx K mg, T.a_law = fa ∧ ∃ kV dc pm an cd ct, T.d_law = PySem.W.fnOf "law" "law" (defArgs st_law) (defBody st_law) (defScope st_law) .none kV dc pm an cd ct) :
    ∃ fd : FuncData, (∀ (s : Shared) (v : Value), BindsTo s fd ⟨[v], []⟩ [("_law_script", v)]) ∧ ∀ base : Heap, K.In base → base.Ns mainGlobals mg → FnOk l.prog w K mg base (L2.CX l.prog w) 9 fa fd ["_law_script"] (spLaw K) := by
  obtain ⟨T, rfl, kV, dc, pm, an, cd, ct, e⟩ := hT
  refine ⟨T.d_law, fun s v => ?_, fun base _ _ => (ok_law T).imp fun vs H Q E ⟨a, ns, e1, e2, e3, e4⟩ => ?_⟩
  · rw [e]
    exact .of_eq rfl
  · subst e1
    obtain ⟨μ', hF⟩ := law_true ns e3
    let wd : Wd := { as := [], G := H, ω := fun _ => none }
    refine ⟨wd, [], [.t (.fro (ns.map Lf.T.int))], _, μ', rfl, (fun _ _ z => by cases z), ⟨fun a o z => .inl z, rfl, (fun n c a z => by simp at z), (fun a o z => by cases z), (fun n x a z => by simp at z)⟩, .cons (.fro e2 (reps_ints ns)) .nil, hF, ?_⟩
    intro w' H' x _ _ _ hx
    cases hx
    exact e4 H'
theorem walk {l : PySem.W.OpenLaw} {q : Program} {loose : List Str} {XP : (Str → Option Value) → Heap → Prop} {YP : World → Heap → Prop} {d : DefRec} {K : Params → PySem.W.Frag} (hn : l.most = some 63) (hdf : d.params.defaults = [])
    (hY : ∀ (w : World) (h : Heap), YP w h → (K w.params).In h)
    (F : ∀ (w : World) (mg : Str → Option Value) (fa : Addr) (h : Heap), (K w.params).In h → h.Ns mainGlobals mg → mg d.name = some (.ref fa) →
      ∃ fd : FuncData, (∀ (s : Shared) (u : Value), BindsTo s fd ⟨[u], []⟩ [("_law_script", u)]) ∧ ∀ base : Heap, (K w.params).In base → base.Ns mainGlobals mg → FnOk l.prog w (K w.params) mg base (L2.CX l.prog w) 9 fa fd ["_law_script"] (spLaw (K w.params))) :
    PySem.W.WalkO q loose XP YP l.row.toRowW d [] (fun f vs => PySem.call f vs) :=
  L2.walk_of (n := 63) (k := 9) (x := "_law_script") (CX := fun w => L2.CX l.prog w) (sp := fun w => spLaw (K w.params)) hn (by decide) hdf ⟨rfl, by decide, by decide⟩ hY F (fun _ _ a ns hl _ hS => ⟨a, ns, rfl, hS, hl, fun _ => rfl⟩) fun _ _ _ _ _ z => by
    obtain ⟨_, _, _, _, _, _, _, _, _, _, _, _, hE⟩ := z
    exact hE
theorem mg_same {K : PySem.W.Frag} {h : Heap} {mg : Str → Option Value} {fa fb : Addr} (X : K.In h) (G : h.Ns mainGlobals mg) (hfa : mg "law" = some (.ref fa)) (g : PySem.W.nsIn K mainGlobals "law" = some (some (.ref fb))) : fb = fa := by
  have e := (PySem.W.mg_of X G g).symm.trans hfa
  cases e
  rfl
theorem all_mk {l : PySem.W.OpenLaw} {w : World} {K : PySem.W.Frag} {h : Heap} {mg : Str → Option Value} {fa : Addr} (X : K.In h) (G : h.Ns mainGlobals mg) (hfa : mg "law" = some (.ref fa)) {a_Kinds a_History a_Program a_Web a__law_pool a__law_cell a__law_take a__law_names a__law_mixed a__law_web a__law_program a_is_list a_is_name a_are_names a_Web_check a_Web_init a__law_number a__law_history a_Web_check_program a_Kinds_kind_of a_Web_sources a_History_do a_History_init a_Kinds_init a_kinds a_Program_init a_law a_LotError a_BadWeb a_BadWeb_init a_UnknownCell a_UnknownCell_init a_BadProgram a_BadProgram_init : Addr} {od__law_pool an__law_pool od__law_cell an__law_cell od__law_take an__law_take od__law_names an__law_names od__law_mixed an__law_mixed od__law_web an__law_web od__law_program an__law_program od_is_list an_is_list od_is_name an_is_name od_are_names an_are_names od_Web_check an_Web_check od_Web_init an_Web_init od__law_number an__law_number od__law_history an__law_history od_Web_check_program an_Web_check_program od_Kinds_kind_of an_Kinds_kind_of od_Web_sources an_Web_sources od_History_do an_History_do od_History_init an_History_init od_Kinds_init an_Kinds_init od_kinds an_kinds od_Program_init an_Program_init od_law an_law od_BadWeb_init an_BadWeb_init od_UnknownCell_init an_UnknownCell_init od_BadProgram_init an_BadProgram_init : Option Addr} {sl__law_pool sl__law_cell sl__law_take sl__law_names sl__law_mixed sl__law_web sl__law_program sl_is_list sl_is_name sl_are_names sl_Web_check sl_Web_init sl__law_number sl__law_history sl_Web_check_program sl_Kinds_kind_of sl_Web_sources sl_History_do sl_History_init sl_Kinds_init sl_kinds sl_Program_init sl_law sl_BadWeb_init sl_UnknownCell_init sl_BadProgram_init : Array (Option Value)} {oc__law_pool kV__law_pool dc__law_pool pm__law_pool cd__law_pool ct__law_pool oc__law_cell kV__law_cell dc__law_cell pm__law_cell cd__law_cell ct__law_cell oc__law_take kV__law_take dc__law_take pm__law_take cd__law_take ct__law_take oc__law_names kV__law_names dc__law_names pm__law_names cd__law_names ct__law_names oc__law_mixed kV__law_mixed dc__law_mixed pm__law_mixed cd__law_mixed ct__law_mixed oc__law_web kV__law_web dc__law_web pm__law_web cd__law_web ct__law_web oc__law_program kV__law_program dc__law_program pm__law_program cd__law_program ct__law_program oc_is_list kV_is_list dc_is_list pm_is_list cd_is_list ct_is_list oc_is_name kV_is_name dc_is_name pm_is_name cd_is_name ct_is_name oc_are_names kV_are_names dc_are_names pm_are_names cd_are_names ct_are_names oc_Web_check kV_Web_check dc_Web_check pm_Web_check cd_Web_check ct_Web_check oc_Web_init kV_Web_init dc_Web_init pm_Web_init cd_Web_init ct_Web_init oc__law_number kV__law_number dc__law_number pm__law_number cd__law_number ct__law_number oc__law_history kV__law_history dc__law_history pm__law_history cd__law_history ct__law_history oc_Web_check_program kV_Web_check_program dc_Web_check_program pm_Web_check_program cd_Web_check_program ct_Web_check_program oc_Kinds_kind_of kV_Kinds_kind_of dc_Kinds_kind_of pm_Kinds_kind_of cd_Kinds_kind_of ct_Kinds_kind_of oc_Web_sources kV_Web_sources dc_Web_sources pm_Web_sources cd_Web_sources ct_Web_sources oc_History_do kV_History_do dc_History_do pm_History_do cd_History_do ct_History_do oc_History_init kV_History_init dc_History_init pm_History_init cd_History_init ct_History_init oc_Kinds_init kV_Kinds_init dc_Kinds_init pm_Kinds_init cd_Kinds_init ct_Kinds_init oc_kinds kV_kinds dc_kinds pm_kinds cd_kinds ct_kinds oc_Program_init kV_Program_init dc_Program_init pm_Program_init cd_Program_init ct_Program_init oc_law kV_law dc_law pm_law cd_law ct_law oc_BadWeb_init kV_BadWeb_init dc_BadWeb_init pm_BadWeb_init cd_BadWeb_init ct_BadWeb_init oc_UnknownCell_init kV_UnknownCell_init dc_UnknownCell_init pm_UnknownCell_init cd_UnknownCell_init ct_UnknownCell_init oc_BadProgram_init kV_BadProgram_init dc_BadProgram_init pm_BadProgram_init cd_BadProgram_init ct_BadProgram_init : Value} {tk_LETTERS tk_LONGEST : Tok} {nm_BadWeb q_BadWeb : Str} {N_BadWeb : Addr} {bs_BadWeb sub_BadWeb : List Value} {sn_BadWeb : List Str} {ab_BadWeb : Bool} {col_BadWeb : Option Bool} {dd_BadWeb : Option Addr} {m0_BadWeb m1_BadWeb m2_BadWeb m3_BadWeb m5_BadWeb : Option Value} {nm_UnknownCell q_UnknownCell : Str} {N_UnknownCell : Addr} {bs_UnknownCell sub_UnknownCell : List Value} {sn_UnknownCell : List Str} {ab_UnknownCell : Bool} {col_UnknownCell : Option Bool} {dd_UnknownCell : Option Addr} {m0_UnknownCell m1_UnknownCell m2_UnknownCell m3_UnknownCell m5_UnknownCell : Option Value} {nm_BadProgram q_BadProgram : Str} {N_BadProgram : Addr} {bs_BadProgram sub_BadProgram : List Value} {sn_BadProgram : List Str} {ab_BadProgram : Bool} {col_BadProgram : Option Bool} {dd_BadProgram : Option Addr} {m0_BadProgram m1_BadProgram m2_BadProgram m3_BadProgram m5_BadProgram : Option Value}
    (g_Kinds : PySem.W.nsIn K mainGlobals "Kinds" = some (some (.ref a_Kinds)))
    (pg_Kinds : PySem.W.plainGet K a_Kinds Str.empty = true)
    (hd_Kinds : PySem.W.hasDictIn K a_Kinds = true)
    (po_Kinds : PySem.W.plainOver K a_Kinds = true)
    (sa_Kinds : PySem.W.findIn K (.ref a_Kinds) "__setattr__" = some (some (.builtin "object.__setattr__")))
    (n_Kinds_numbers : PySem.W.findIn K (.ref a_Kinds) "numbers" = some none)
    (n_Kinds_parts : PySem.W.findIn K (.ref a_Kinds) "parts" = some none)
    (g_History : PySem.W.nsIn K mainGlobals "History" = some (some (.ref a_History)))
    (pg_History : PySem.W.plainGet K a_History Str.empty = true)
    (hd_History : PySem.W.hasDictIn K a_History = true)
    (po_History : PySem.W.plainOver K a_History = true)
    (sa_History : PySem.W.findIn K (.ref a_History) "__setattr__" = some (some (.builtin "object.__setattr__")))
    (n_History_web : PySem.W.findIn K (.ref a_History) "web" = some none)
    (n_History_kinds : PySem.W.findIn K (.ref a_History) "kinds" = some none)
    (n_History_rows : PySem.W.findIn K (.ref a_History) "rows" = some none)
    (n_History_steps : PySem.W.findIn K (.ref a_History) "steps" = some none)
    (g_Program : PySem.W.nsIn K mainGlobals "Program" = some (some (.ref a_Program)))
    (pg_Program : PySem.W.plainGet K a_Program Str.empty = true)
    (hd_Program : PySem.W.hasDictIn K a_Program = true)
    (po_Program : PySem.W.plainOver K a_Program = true)
    (sa_Program : PySem.W.findIn K (.ref a_Program) "__setattr__" = some (some (.builtin "object.__setattr__")))
    (n_Program_lots : PySem.W.findIn K (.ref a_Program) "lots" = some none)
    (g_Web : PySem.W.nsIn K mainGlobals "Web" = some (some (.ref a_Web)))
    (pg_Web : PySem.W.plainGet K a_Web Str.empty = true)
    (hd_Web : PySem.W.hasDictIn K a_Web = true)
    (po_Web : PySem.W.plainOver K a_Web = true)
    (sa_Web : PySem.W.findIn K (.ref a_Web) "__setattr__" = some (some (.builtin "object.__setattr__")))
    (n_Web_held : PySem.W.findIn K (.ref a_Web) "held" = some none)
    (n_Web_cells : PySem.W.findIn K (.ref a_Web) "cells" = some none)
    (n_Web_arrows : PySem.W.findIn K (.ref a_Web) "arrows" = some none)
    (g__law_pool : PySem.W.nsIn K mainGlobals "_law_pool" = some (some (.ref a__law_pool)))
    (l__law_pool : K.lookup a__law_pool = some ⟨oc__law_pool, od__law_pool, .func (PySem.W.fnOf "_law_pool" "_law_pool" (defArgs st__law_pool) (defBody st__law_pool) (defScope st__law_pool) .none kV__law_pool dc__law_pool pm__law_pool an__law_pool cd__law_pool ct__law_pool), sl__law_pool⟩)
    (c__law_pool : PySem.W.codeIn K cd__law_pool "_law_pool" = true)
    (k__law_pool : PySem.W.keepIn K (.ref a__law_pool) = true)
    (g__law_cell : PySem.W.nsIn K mainGlobals "_law_cell" = some (some (.ref a__law_cell)))
    (l__law_cell : K.lookup a__law_cell = some ⟨oc__law_cell, od__law_cell, .func (PySem.W.fnOf "_law_cell" "_law_cell" (defArgs st__law_cell) (defBody st__law_cell) (defScope st__law_cell) .none kV__law_cell dc__law_cell pm__law_cell an__law_cell cd__law_cell ct__law_cell), sl__law_cell⟩)
    (c__law_cell : PySem.W.codeIn K cd__law_cell "_law_cell" = true)
    (k__law_cell : PySem.W.keepIn K (.ref a__law_cell) = true)
    (g__law_take : PySem.W.nsIn K mainGlobals "_law_take" = some (some (.ref a__law_take)))
    (l__law_take : K.lookup a__law_take = some ⟨oc__law_take, od__law_take, .func (PySem.W.fnOf "_law_take" "_law_take" (defArgs st__law_take) (defBody st__law_take) (defScope st__law_take) .none kV__law_take dc__law_take pm__law_take an__law_take cd__law_take ct__law_take), sl__law_take⟩)
    (c__law_take : PySem.W.codeIn K cd__law_take "_law_take" = true)
    (k__law_take : PySem.W.keepIn K (.ref a__law_take) = true)
    (g__law_names : PySem.W.nsIn K mainGlobals "_law_names" = some (some (.ref a__law_names)))
    (l__law_names : K.lookup a__law_names = some ⟨oc__law_names, od__law_names, .func (PySem.W.fnOf "_law_names" "_law_names" (defArgs st__law_names) (defBody st__law_names) (defScope st__law_names) .none kV__law_names dc__law_names pm__law_names an__law_names cd__law_names ct__law_names), sl__law_names⟩)
    (c__law_names : PySem.W.codeIn K cd__law_names "_law_names" = true)
    (k__law_names : PySem.W.keepIn K (.ref a__law_names) = true)
    (g__law_mixed : PySem.W.nsIn K mainGlobals "_law_mixed" = some (some (.ref a__law_mixed)))
    (l__law_mixed : K.lookup a__law_mixed = some ⟨oc__law_mixed, od__law_mixed, .func (PySem.W.fnOf "_law_mixed" "_law_mixed" (defArgs st__law_mixed) (defBody st__law_mixed) (defScope st__law_mixed) .none kV__law_mixed dc__law_mixed pm__law_mixed an__law_mixed cd__law_mixed ct__law_mixed), sl__law_mixed⟩)
    (c__law_mixed : PySem.W.codeIn K cd__law_mixed "_law_mixed" = true)
    (k__law_mixed : PySem.W.keepIn K (.ref a__law_mixed) = true)
    (g__law_web : PySem.W.nsIn K mainGlobals "_law_web" = some (some (.ref a__law_web)))
    (l__law_web : K.lookup a__law_web = some ⟨oc__law_web, od__law_web, .func (PySem.W.fnOf "_law_web" "_law_web" (defArgs st__law_web) (defBody st__law_web) (defScope st__law_web) .none kV__law_web dc__law_web pm__law_web an__law_web cd__law_web ct__law_web), sl__law_web⟩)
    (c__law_web : PySem.W.codeIn K cd__law_web "_law_web" = true)
    (k__law_web : PySem.W.keepIn K (.ref a__law_web) = true)
    (g__law_program : PySem.W.nsIn K mainGlobals "_law_program" = some (some (.ref a__law_program)))
    (l__law_program : K.lookup a__law_program = some ⟨oc__law_program, od__law_program, .func (PySem.W.fnOf "_law_program" "_law_program" (defArgs st__law_program) (defBody st__law_program) (defScope st__law_program) .none kV__law_program dc__law_program pm__law_program an__law_program cd__law_program ct__law_program), sl__law_program⟩)
    (c__law_program : PySem.W.codeIn K cd__law_program "_law_program" = true)
    (k__law_program : PySem.W.keepIn K (.ref a__law_program) = true)
    (g_is_list : PySem.W.nsIn K mainGlobals "is_list" = some (some (.ref a_is_list)))
    (l_is_list : K.lookup a_is_list = some ⟨oc_is_list, od_is_list, .func (PySem.W.fnOf "is_list" "is_list" (defArgs st_is_list) (defBody st_is_list) (defScope st_is_list) .none kV_is_list dc_is_list pm_is_list an_is_list cd_is_list ct_is_list), sl_is_list⟩)
    (c_is_list : PySem.W.codeIn K cd_is_list "is_list" = true)
    (k_is_list : PySem.W.keepIn K (.ref a_is_list) = true)
    (g_is_name : PySem.W.nsIn K mainGlobals "is_name" = some (some (.ref a_is_name)))
    (l_is_name : K.lookup a_is_name = some ⟨oc_is_name, od_is_name, .func (PySem.W.fnOf "is_name" "is_name" (defArgs st_is_name) (defBody st_is_name) (defScope st_is_name) .none kV_is_name dc_is_name pm_is_name an_is_name cd_is_name ct_is_name), sl_is_name⟩)
    (c_is_name : PySem.W.codeIn K cd_is_name "is_name" = true)
    (k_is_name : PySem.W.keepIn K (.ref a_is_name) = true)
    (g_are_names : PySem.W.nsIn K mainGlobals "are_names" = some (some (.ref a_are_names)))
    (l_are_names : K.lookup a_are_names = some ⟨oc_are_names, od_are_names, .func (PySem.W.fnOf "are_names" "are_names" (defArgs st_are_names) (defBody st_are_names) (defScope st_are_names) .none kV_are_names dc_are_names pm_are_names an_are_names cd_are_names ct_are_names), sl_are_names⟩)
    (c_are_names : PySem.W.codeIn K cd_are_names "are_names" = true)
    (k_are_names : PySem.W.keepIn K (.ref a_are_names) = true)
    (g_Web_check : PySem.W.findIn K (.ref a_Web) "check" = some (some (.ref a_Web_check)))
    (i_Web_check : PySem.W.isFn K (.ref a_Web_check) = true)
    (l_Web_check : K.lookup a_Web_check = some ⟨oc_Web_check, od_Web_check, .func (PySem.W.fnOf "check" "Web.check" (defArgs st_Web_check) (defBody st_Web_check) (defScope st_Web_check) .none kV_Web_check dc_Web_check pm_Web_check an_Web_check cd_Web_check ct_Web_check), sl_Web_check⟩)
    (c_Web_check : PySem.W.codeIn K cd_Web_check "Web.check" = true)
    (k_Web_check : PySem.W.keepIn K (.ref a_Web_check) = true)
    (g_Web_init : PySem.W.findIn K (.ref a_Web) "__init__" = some (some (.ref a_Web_init)))
    (i_Web_init : PySem.W.isFn K (.ref a_Web_init) = true)
    (l_Web_init : K.lookup a_Web_init = some ⟨oc_Web_init, od_Web_init, .func (PySem.W.fnOf "__init__" "Web.__init__" (defArgs st_Web_init) (defBody st_Web_init) (defScope st_Web_init) .none kV_Web_init dc_Web_init pm_Web_init an_Web_init cd_Web_init ct_Web_init), sl_Web_init⟩)
    (c_Web_init : PySem.W.codeIn K cd_Web_init "Web.__init__" = true)
    (k_Web_init : PySem.W.keepIn K (.ref a_Web_init) = true)
    (mk_Web : PySem.W.makesIn K a_Web = true)
    (kc_Web : PySem.W.keepIn K (.ref a_Web) = true)
    (g__law_number : PySem.W.nsIn K mainGlobals "_law_number" = some (some (.ref a__law_number)))
    (l__law_number : K.lookup a__law_number = some ⟨oc__law_number, od__law_number, .func (PySem.W.fnOf "_law_number" "_law_number" (defArgs st__law_number) (defBody st__law_number) (defScope st__law_number) .none kV__law_number dc__law_number pm__law_number an__law_number cd__law_number ct__law_number), sl__law_number⟩)
    (c__law_number : PySem.W.codeIn K cd__law_number "_law_number" = true)
    (k__law_number : PySem.W.keepIn K (.ref a__law_number) = true)
    (g__law_history : PySem.W.nsIn K mainGlobals "_law_history" = some (some (.ref a__law_history)))
    (l__law_history : K.lookup a__law_history = some ⟨oc__law_history, od__law_history, .func (PySem.W.fnOf "_law_history" "_law_history" (defArgs st__law_history) (defBody st__law_history) (defScope st__law_history) .none kV__law_history dc__law_history pm__law_history an__law_history cd__law_history ct__law_history), sl__law_history⟩)
    (c__law_history : PySem.W.codeIn K cd__law_history "_law_history" = true)
    (k__law_history : PySem.W.keepIn K (.ref a__law_history) = true)
    (g_Web_check_program : PySem.W.findIn K (.ref a_Web) "check_program" = some (some (.ref a_Web_check_program)))
    (i_Web_check_program : PySem.W.isFn K (.ref a_Web_check_program) = true)
    (l_Web_check_program : K.lookup a_Web_check_program = some ⟨oc_Web_check_program, od_Web_check_program, .func (PySem.W.fnOf "check_program" "Web.check_program" (defArgs st_Web_check_program) (defBody st_Web_check_program) (defScope st_Web_check_program) .none kV_Web_check_program dc_Web_check_program pm_Web_check_program an_Web_check_program cd_Web_check_program ct_Web_check_program), sl_Web_check_program⟩)
    (c_Web_check_program : PySem.W.codeIn K cd_Web_check_program "Web.check_program" = true)
    (k_Web_check_program : PySem.W.keepIn K (.ref a_Web_check_program) = true)
    (g_Kinds_kind_of : PySem.W.findIn K (.ref a_Kinds) "kind_of" = some (some (.ref a_Kinds_kind_of)))
    (i_Kinds_kind_of : PySem.W.isFn K (.ref a_Kinds_kind_of) = true)
    (l_Kinds_kind_of : K.lookup a_Kinds_kind_of = some ⟨oc_Kinds_kind_of, od_Kinds_kind_of, .func (PySem.W.fnOf "kind_of" "Kinds.kind_of" (defArgs st_Kinds_kind_of) (defBody st_Kinds_kind_of) (defScope st_Kinds_kind_of) .none kV_Kinds_kind_of dc_Kinds_kind_of pm_Kinds_kind_of an_Kinds_kind_of cd_Kinds_kind_of ct_Kinds_kind_of), sl_Kinds_kind_of⟩)
    (c_Kinds_kind_of : PySem.W.codeIn K cd_Kinds_kind_of "Kinds.kind_of" = true)
    (k_Kinds_kind_of : PySem.W.keepIn K (.ref a_Kinds_kind_of) = true)
    (g_Web_sources : PySem.W.findIn K (.ref a_Web) "sources" = some (some (.ref a_Web_sources)))
    (i_Web_sources : PySem.W.isFn K (.ref a_Web_sources) = true)
    (l_Web_sources : K.lookup a_Web_sources = some ⟨oc_Web_sources, od_Web_sources, .func (PySem.W.fnOf "sources" "Web.sources" (defArgs st_Web_sources) (defBody st_Web_sources) (defScope st_Web_sources) .none kV_Web_sources dc_Web_sources pm_Web_sources an_Web_sources cd_Web_sources ct_Web_sources), sl_Web_sources⟩)
    (c_Web_sources : PySem.W.codeIn K cd_Web_sources "Web.sources" = true)
    (k_Web_sources : PySem.W.keepIn K (.ref a_Web_sources) = true)
    (g_History_do : PySem.W.findIn K (.ref a_History) "do" = some (some (.ref a_History_do)))
    (i_History_do : PySem.W.isFn K (.ref a_History_do) = true)
    (l_History_do : K.lookup a_History_do = some ⟨oc_History_do, od_History_do, .func (PySem.W.fnOf "do" "History.do" (defArgs st_History_do) (defBody st_History_do) (defScope st_History_do) .none kV_History_do dc_History_do pm_History_do an_History_do cd_History_do ct_History_do), sl_History_do⟩)
    (c_History_do : PySem.W.codeIn K cd_History_do "History.do" = true)
    (k_History_do : PySem.W.keepIn K (.ref a_History_do) = true)
    (g_History_init : PySem.W.findIn K (.ref a_History) "__init__" = some (some (.ref a_History_init)))
    (i_History_init : PySem.W.isFn K (.ref a_History_init) = true)
    (l_History_init : K.lookup a_History_init = some ⟨oc_History_init, od_History_init, .func (PySem.W.fnOf "__init__" "History.__init__" (defArgs st_History_init) (defBody st_History_init) (defScope st_History_init) .none kV_History_init dc_History_init pm_History_init an_History_init cd_History_init ct_History_init), sl_History_init⟩)
    (c_History_init : PySem.W.codeIn K cd_History_init "History.__init__" = true)
    (k_History_init : PySem.W.keepIn K (.ref a_History_init) = true)
    (mk_History : PySem.W.makesIn K a_History = true)
    (kc_History : PySem.W.keepIn K (.ref a_History) = true)
    (g_Kinds_init : PySem.W.findIn K (.ref a_Kinds) "__init__" = some (some (.ref a_Kinds_init)))
    (i_Kinds_init : PySem.W.isFn K (.ref a_Kinds_init) = true)
    (l_Kinds_init : K.lookup a_Kinds_init = some ⟨oc_Kinds_init, od_Kinds_init, .func (PySem.W.fnOf "__init__" "Kinds.__init__" (defArgs st_Kinds_init) (defBody st_Kinds_init) (defScope st_Kinds_init) .none kV_Kinds_init dc_Kinds_init pm_Kinds_init an_Kinds_init cd_Kinds_init ct_Kinds_init), sl_Kinds_init⟩)
    (c_Kinds_init : PySem.W.codeIn K cd_Kinds_init "Kinds.__init__" = true)
    (k_Kinds_init : PySem.W.keepIn K (.ref a_Kinds_init) = true)
    (mk_Kinds : PySem.W.makesIn K a_Kinds = true)
    (kc_Kinds : PySem.W.keepIn K (.ref a_Kinds) = true)
    (g_kinds : PySem.W.nsIn K mainGlobals "kinds" = some (some (.ref a_kinds)))
    (l_kinds : K.lookup a_kinds = some ⟨oc_kinds, od_kinds, .func (PySem.W.fnOf "kinds" "kinds" (defArgs st_kinds) (defBody st_kinds) (defScope st_kinds) .none kV_kinds dc_kinds pm_kinds an_kinds cd_kinds ct_kinds), sl_kinds⟩)
    (c_kinds : PySem.W.codeIn K cd_kinds "kinds" = true)
    (k_kinds : PySem.W.keepIn K (.ref a_kinds) = true)
    (g_Program_init : PySem.W.findIn K (.ref a_Program) "__init__" = some (some (.ref a_Program_init)))
    (i_Program_init : PySem.W.isFn K (.ref a_Program_init) = true)
    (l_Program_init : K.lookup a_Program_init = some ⟨oc_Program_init, od_Program_init, .func (PySem.W.fnOf "__init__" "Program.__init__" (defArgs st_Program_init) (defBody st_Program_init) (defScope st_Program_init) .none kV_Program_init dc_Program_init pm_Program_init an_Program_init cd_Program_init ct_Program_init), sl_Program_init⟩)
    (c_Program_init : PySem.W.codeIn K cd_Program_init "Program.__init__" = true)
    (k_Program_init : PySem.W.keepIn K (.ref a_Program_init) = true)
    (mk_Program : PySem.W.makesIn K a_Program = true)
    (kc_Program : PySem.W.keepIn K (.ref a_Program) = true)
    (g_law : PySem.W.nsIn K mainGlobals "law" = some (some (.ref a_law)))
    (l_law : K.lookup a_law = some ⟨oc_law, od_law, .func (PySem.W.fnOf "law" "law" (defArgs st_law) (defBody st_law) (defScope st_law) .none kV_law dc_law pm_law an_law cd_law ct_law), sl_law⟩)
    (c_law : PySem.W.codeIn K cd_law "law" = true)
    (k_law : PySem.W.keepIn K (.ref a_law) = true)
    (g_LotError : PySem.W.nsIn K mainGlobals "LotError" = some (some (.ref a_LotError)))
    (rd_LotError : PySem.W.readsIn K a_LotError (.type "type") = true)
    (fc_LotError : PySem.W.findCls K (.ref a_LotError) (.type "type") "__init__" = some (.val (.builtin "ValueError.__init__")))
    (sp_LotError : PySem.W.specialIn K (.ref a_LotError) "__getattribute__" = some (some (.builtin "type.__getattribute__")))
    (g_BadWeb : PySem.W.nsIn K mainGlobals "BadWeb" = some (some (.ref a_BadWeb)))
    (xL_BadWeb : K.lookup a_BadWeb = some (excClassObj nm_BadWeb q_BadWeb a_BadWeb N_BadWeb bs_BadWeb [.ref a_LotError, .type "ValueError", .type "Exception", .type "BaseException", .type "object"] true sn_BadWeb sub_BadWeb ab_BadWeb col_BadWeb dd_BadWeb m0_BadWeb m1_BadWeb m2_BadWeb m3_BadWeb m5_BadWeb "ValueError.__new__"))
    (sa_BadWeb : PySem.W.findIn K (.ref a_BadWeb) "__setattr__" = some (some (.builtin "object.__setattr__")))
    (ga_BadWeb : PySem.W.findIn K (.ref a_BadWeb) "__getattribute__" = some (some (.builtin "BaseException.__getattribute__")))
    (gg_BadWeb : PySem.W.findIn K (.ref a_BadWeb) "__getattr__" = some none)
    (nf_BadWeb : PySem.W.findIn K (.ref a_BadWeb) "index" = some none)
    (gi_BadWeb : PySem.W.findIn K (.ref a_BadWeb) "__init__" = some (some (.ref a_BadWeb_init)))
    (ti_BadWeb : PySem.W.typeIn K (.ref a_BadWeb_init) = some (.type "function"))
    (l_BadWeb_init : K.lookup a_BadWeb_init = some ⟨oc_BadWeb_init, od_BadWeb_init, .func (PySem.W.fnOf "__init__" "BadWeb.__init__" (defArgs st_BadWeb_init) (defBody st_BadWeb_init) (defScope st_BadWeb_init) .none kV_BadWeb_init dc_BadWeb_init pm_BadWeb_init an_BadWeb_init cd_BadWeb_init ct_BadWeb_init), sl_BadWeb_init⟩)
    (c_BadWeb_init : PySem.W.codeIn K cd_BadWeb_init "BadWeb.__init__" = true)
    (k_BadWeb_init : PySem.W.keepIn K (.ref a_BadWeb_init) = true)
    (kC_BadWeb : PySem.W.keepIn K (.ref a_BadWeb) = true)
    (eC_BadWeb : PySem.W.subIn K (.ref a_BadWeb) (.type "BaseException") = some true)
    (tC_BadWeb : PySem.W.typeIn K (.ref a_BadWeb) = some (.type "type"))
    (hC_BadWeb : PySem.W.hasDictIn K a_BadWeb = true)
    (g_UnknownCell : PySem.W.nsIn K mainGlobals "UnknownCell" = some (some (.ref a_UnknownCell)))
    (xL_UnknownCell : K.lookup a_UnknownCell = some (excClassObj nm_UnknownCell q_UnknownCell a_UnknownCell N_UnknownCell bs_UnknownCell [.ref a_LotError, .type "ValueError", .type "Exception", .type "BaseException", .type "object"] true sn_UnknownCell sub_UnknownCell ab_UnknownCell col_UnknownCell dd_UnknownCell m0_UnknownCell m1_UnknownCell m2_UnknownCell m3_UnknownCell m5_UnknownCell "ValueError.__new__"))
    (sa_UnknownCell : PySem.W.findIn K (.ref a_UnknownCell) "__setattr__" = some (some (.builtin "object.__setattr__")))
    (ga_UnknownCell : PySem.W.findIn K (.ref a_UnknownCell) "__getattribute__" = some (some (.builtin "BaseException.__getattribute__")))
    (gg_UnknownCell : PySem.W.findIn K (.ref a_UnknownCell) "__getattr__" = some none)
    (nf_UnknownCell : PySem.W.findIn K (.ref a_UnknownCell) "cell" = some none)
    (gi_UnknownCell : PySem.W.findIn K (.ref a_UnknownCell) "__init__" = some (some (.ref a_UnknownCell_init)))
    (ti_UnknownCell : PySem.W.typeIn K (.ref a_UnknownCell_init) = some (.type "function"))
    (l_UnknownCell_init : K.lookup a_UnknownCell_init = some ⟨oc_UnknownCell_init, od_UnknownCell_init, .func (PySem.W.fnOf "__init__" "UnknownCell.__init__" (defArgs st_UnknownCell_init) (defBody st_UnknownCell_init) (defScope st_UnknownCell_init) .none kV_UnknownCell_init dc_UnknownCell_init pm_UnknownCell_init an_UnknownCell_init cd_UnknownCell_init ct_UnknownCell_init), sl_UnknownCell_init⟩)
    (c_UnknownCell_init : PySem.W.codeIn K cd_UnknownCell_init "UnknownCell.__init__" = true)
    (k_UnknownCell_init : PySem.W.keepIn K (.ref a_UnknownCell_init) = true)
    (kC_UnknownCell : PySem.W.keepIn K (.ref a_UnknownCell) = true)
    (eC_UnknownCell : PySem.W.subIn K (.ref a_UnknownCell) (.type "BaseException") = some true)
    (tC_UnknownCell : PySem.W.typeIn K (.ref a_UnknownCell) = some (.type "type"))
    (hC_UnknownCell : PySem.W.hasDictIn K a_UnknownCell = true)
    (g_BadProgram : PySem.W.nsIn K mainGlobals "BadProgram" = some (some (.ref a_BadProgram)))
    (xL_BadProgram : K.lookup a_BadProgram = some (excClassObj nm_BadProgram q_BadProgram a_BadProgram N_BadProgram bs_BadProgram [.ref a_LotError, .type "ValueError", .type "Exception", .type "BaseException", .type "object"] true sn_BadProgram sub_BadProgram ab_BadProgram col_BadProgram dd_BadProgram m0_BadProgram m1_BadProgram m2_BadProgram m3_BadProgram m5_BadProgram "ValueError.__new__"))
    (sa_BadProgram : PySem.W.findIn K (.ref a_BadProgram) "__setattr__" = some (some (.builtin "object.__setattr__")))
    (ga_BadProgram : PySem.W.findIn K (.ref a_BadProgram) "__getattribute__" = some (some (.builtin "BaseException.__getattribute__")))
    (gg_BadProgram : PySem.W.findIn K (.ref a_BadProgram) "__getattr__" = some none)
    (nf_BadProgram : PySem.W.findIn K (.ref a_BadProgram) "index" = some none)
    (gi_BadProgram : PySem.W.findIn K (.ref a_BadProgram) "__init__" = some (some (.ref a_BadProgram_init)))
    (ti_BadProgram : PySem.W.typeIn K (.ref a_BadProgram_init) = some (.type "function"))
    (l_BadProgram_init : K.lookup a_BadProgram_init = some ⟨oc_BadProgram_init, od_BadProgram_init, .func (PySem.W.fnOf "__init__" "BadProgram.__init__" (defArgs st_BadProgram_init) (defBody st_BadProgram_init) (defScope st_BadProgram_init) .none kV_BadProgram_init dc_BadProgram_init pm_BadProgram_init an_BadProgram_init cd_BadProgram_init ct_BadProgram_init), sl_BadProgram_init⟩)
    (c_BadProgram_init : PySem.W.codeIn K cd_BadProgram_init "BadProgram.__init__" = true)
    (k_BadProgram_init : PySem.W.keepIn K (.ref a_BadProgram_init) = true)
    (kC_BadProgram : PySem.W.keepIn K (.ref a_BadProgram) = true)
    (eC_BadProgram : PySem.W.subIn K (.ref a_BadProgram) (.type "BaseException") = some true)
    (tC_BadProgram : PySem.W.typeIn K (.ref a_BadProgram) = some (.type "type"))
    (hC_BadProgram : PySem.W.hasDictIn K a_BadProgram = true)
    (z_all : PySem.W.nsIn K mainGlobals "all" = some none)
    (z_dict : PySem.W.nsIn K mainGlobals "dict" = some none)
    (z_enumerate : PySem.W.nsIn K mainGlobals "enumerate" = some none)
    (z_int : PySem.W.nsIn K mainGlobals "int" = some none)
    (z_isinstance : PySem.W.nsIn K mainGlobals "isinstance" = some none)
    (z_len : PySem.W.nsIn K mainGlobals "len" = some none)
    (z_list : PySem.W.nsIn K mainGlobals "list" = some none)
    (z_min : PySem.W.nsIn K mainGlobals "min" = some none)
    (z_range : PySem.W.nsIn K mainGlobals "range" = some none)
    (z_sorted : PySem.W.nsIn K mainGlobals "sorted" = some none)
    (z_str : PySem.W.nsIn K mainGlobals "str" = some none)
    (z_tuple : PySem.W.nsIn K mainGlobals "tuple" = some none)
    (v_LETTERS : PySem.W.nsIn K mainGlobals "LETTERS" = some (some (.str "abcdefghijklmnopqrstuvwxyz" tk_LETTERS)))
    (v_LONGEST : PySem.W.nsIn K mainGlobals "LONGEST" = some (some (.int 8 tk_LONGEST)))
    : ∃ fd : FuncData, (∀ (s : Shared) (v : Value), BindsTo s fd ⟨[v], []⟩ [("_law_script", v)]) ∧ ∀ base : Heap, K.In base → base.Ns mainGlobals mg → FnOk l.prog w K mg base (L2.CX l.prog w) 9 fa fd ["_law_script"] (spLaw K) := by
  obtain ⟨T, e1, e2⟩ := tx_mk X G g_Kinds pg_Kinds hd_Kinds po_Kinds sa_Kinds n_Kinds_numbers n_Kinds_parts g_History pg_History hd_History po_History sa_History n_History_web n_History_kinds n_History_rows n_History_steps g_Program pg_Program hd_Program po_Program sa_Program n_Program_lots g_Web pg_Web hd_Web po_Web sa_Web n_Web_held n_Web_cells n_Web_arrows g__law_pool l__law_pool c__law_pool k__law_pool g__law_cell l__law_cell c__law_cell k__law_cell g__law_take l__law_take c__law_take k__law_take g__law_names l__law_names c__law_names k__law_names g__law_mixed l__law_mixed c__law_mixed k__law_mixed g__law_web l__law_web c__law_web k__law_web g__law_program l__law_program c__law_program k__law_program g_is_list l_is_list c_is_list k_is_list g_is_name l_is_name c_is_name k_is_name g_are_names l_are_names c_are_names k_are_names g_Web_check i_Web_check l_Web_check c_Web_check k_Web_check g_Web_init i_Web_init l_Web_init c_Web_init k_Web_init mk_Web kc_Web g__law_number l__law_number c__law_number k__law_number g__law_history l__law_history c__law_history k__law_history g_Web_check_program i_Web_check_program l_Web_check_program c_Web_check_program k_Web_check_program g_Kinds_kind_of i_Kinds_kind_of l_Kinds_kind_of c_Kinds_kind_of k_Kinds_kind_of g_Web_sources i_Web_sources l_Web_sources c_Web_sources k_Web_sources g_History_do i_History_do l_History_do c_History_do k_History_do g_History_init i_History_init l_History_init c_History_init k_History_init mk_History kc_History g_Kinds_init i_Kinds_init l_Kinds_init c_Kinds_init k_Kinds_init mk_Kinds kc_Kinds g_kinds l_kinds c_kinds k_kinds g_Program_init i_Program_init l_Program_init c_Program_init k_Program_init mk_Program kc_Program g_law l_law c_law k_law g_LotError rd_LotError fc_LotError sp_LotError g_BadWeb xL_BadWeb sa_BadWeb ga_BadWeb gg_BadWeb nf_BadWeb gi_BadWeb ti_BadWeb l_BadWeb_init c_BadWeb_init k_BadWeb_init kC_BadWeb eC_BadWeb tC_BadWeb hC_BadWeb g_UnknownCell xL_UnknownCell sa_UnknownCell ga_UnknownCell gg_UnknownCell nf_UnknownCell gi_UnknownCell ti_UnknownCell l_UnknownCell_init c_UnknownCell_init k_UnknownCell_init kC_UnknownCell eC_UnknownCell tC_UnknownCell hC_UnknownCell g_BadProgram xL_BadProgram sa_BadProgram ga_BadProgram gg_BadProgram nf_BadProgram gi_BadProgram ti_BadProgram l_BadProgram_init c_BadProgram_init k_BadProgram_init kC_BadProgram eC_BadProgram tC_BadProgram hC_BadProgram z_all z_dict z_enumerate z_int z_isinstance z_len z_list z_min z_range z_sorted z_str z_tuple v_LETTERS v_LONGEST
  exact fin_law ⟨T, e1.trans (mg_same X G hfa g_law), e2⟩
end G06
open PySem PySem.W PyProof.Rows
set_option maxRecDepth 100000 in
set_option maxHeartbeats 0 in
theorem PySem.Challenge.cw_lotmarks_k06_whole_versions_alike_holds : PySem.Challenge.rw_lotmarks_k06_whole_versions_alike.Holds := by
  w_on; o_law; k_head; (case hw => w_witness2)
  k_fill
  refine G06.walk (l := PySem.Challenge.rw_lotmarks_k06_whole_versions_alike) rfl rfl (fun w h Y => PySem.W.kIn_of Y) ?F
  case F =>
    intro w mg fa h KX G hmg
    refine' G06.all_mk KX G hmg ?g_Kinds ?pg_Kinds ?hd_Kinds ?po_Kinds ?sa_Kinds ?n_Kinds_numbers ?n_Kinds_parts ?g_History ?pg_History ?hd_History ?po_History ?sa_History ?n_History_web ?n_History_kinds ?n_History_rows ?n_History_steps ?g_Program ?pg_Program ?hd_Program ?po_Program ?sa_Program ?n_Program_lots ?g_Web ?pg_Web ?hd_Web ?po_Web ?sa_Web ?n_Web_held ?n_Web_cells ?n_Web_arrows ?g__law_pool ?l__law_pool ?c__law_pool ?k__law_pool ?g__law_cell ?l__law_cell ?c__law_cell ?k__law_cell ?g__law_take ?l__law_take ?c__law_take ?k__law_take ?g__law_names ?l__law_names ?c__law_names ?k__law_names ?g__law_mixed ?l__law_mixed ?c__law_mixed ?k__law_mixed ?g__law_web ?l__law_web ?c__law_web ?k__law_web ?g__law_program ?l__law_program ?c__law_program ?k__law_program ?g_is_list ?l_is_list ?c_is_list ?k_is_list ?g_is_name ?l_is_name ?c_is_name ?k_is_name ?g_are_names ?l_are_names ?c_are_names ?k_are_names ?g_Web_check ?i_Web_check ?l_Web_check ?c_Web_check ?k_Web_check ?g_Web_init ?i_Web_init ?l_Web_init ?c_Web_init ?k_Web_init ?mk_Web ?kc_Web ?g__law_number ?l__law_number ?c__law_number ?k__law_number ?g__law_history ?l__law_history ?c__law_history ?k__law_history ?g_Web_check_program ?i_Web_check_program ?l_Web_check_program ?c_Web_check_program ?k_Web_check_program ?g_Kinds_kind_of ?i_Kinds_kind_of ?l_Kinds_kind_of ?c_Kinds_kind_of ?k_Kinds_kind_of ?g_Web_sources ?i_Web_sources ?l_Web_sources ?c_Web_sources ?k_Web_sources ?g_History_do ?i_History_do ?l_History_do ?c_History_do ?k_History_do ?g_History_init ?i_History_init ?l_History_init ?c_History_init ?k_History_init ?mk_History ?kc_History ?g_Kinds_init ?i_Kinds_init ?l_Kinds_init ?c_Kinds_init ?k_Kinds_init ?mk_Kinds ?kc_Kinds ?g_kinds ?l_kinds ?c_kinds ?k_kinds ?g_Program_init ?i_Program_init ?l_Program_init ?c_Program_init ?k_Program_init ?mk_Program ?kc_Program ?g_law ?l_law ?c_law ?k_law ?g_LotError ?rd_LotError ?fc_LotError ?sp_LotError ?g_BadWeb ?xL_BadWeb ?sa_BadWeb ?ga_BadWeb ?gg_BadWeb ?nf_BadWeb ?gi_BadWeb ?ti_BadWeb ?l_BadWeb_init ?c_BadWeb_init ?k_BadWeb_init ?kC_BadWeb ?eC_BadWeb ?tC_BadWeb ?hC_BadWeb ?g_UnknownCell ?xL_UnknownCell ?sa_UnknownCell ?ga_UnknownCell ?gg_UnknownCell ?nf_UnknownCell ?gi_UnknownCell ?ti_UnknownCell ?l_UnknownCell_init ?c_UnknownCell_init ?k_UnknownCell_init ?kC_UnknownCell ?eC_UnknownCell ?tC_UnknownCell ?hC_UnknownCell ?g_BadProgram ?xL_BadProgram ?sa_BadProgram ?ga_BadProgram ?gg_BadProgram ?nf_BadProgram ?gi_BadProgram ?ti_BadProgram ?l_BadProgram_init ?c_BadProgram_init ?k_BadProgram_init ?kC_BadProgram ?eC_BadProgram ?tC_BadProgram ?hC_BadProgram ?z_all ?z_dict ?z_enumerate ?z_int ?z_isinstance ?z_len ?z_list ?z_min ?z_range ?z_sorted ?z_str ?z_tuple ?v_LETTERS ?v_LONGEST
    (case g_Kinds => k_is)
    (case pg_Kinds => k_is)
    (case hd_Kinds => k_is)
    (case po_Kinds => k_is)
    (case sa_Kinds => k_is)
    (case n_Kinds_numbers => k_is)
    (case n_Kinds_parts => k_is)
    (case g_History => k_is)
    (case pg_History => k_is)
    (case hd_History => k_is)
    (case po_History => k_is)
    (case sa_History => k_is)
    (case n_History_web => k_is)
    (case n_History_kinds => k_is)
    (case n_History_rows => k_is)
    (case n_History_steps => k_is)
    (case g_Program => k_is)
    (case pg_Program => k_is)
    (case hd_Program => k_is)
    (case po_Program => k_is)
    (case sa_Program => k_is)
    (case n_Program_lots => k_is)
    (case g_Web => k_is)
    (case pg_Web => k_is)
    (case hd_Web => k_is)
    (case po_Web => k_is)
    (case sa_Web => k_is)
    (case n_Web_held => k_is)
    (case n_Web_cells => k_is)
    (case n_Web_arrows => k_is)
    (case g__law_pool => k_is)
    (case l__law_pool => k_is)
    (case c__law_pool => k_is)
    (case k__law_pool => k_is)
    (case g__law_cell => k_is)
    (case l__law_cell => k_is)
    (case c__law_cell => k_is)
    (case k__law_cell => k_is)
    (case g__law_take => k_is)
    (case l__law_take => k_is)
    (case c__law_take => k_is)
    (case k__law_take => k_is)
    (case g__law_names => k_is)
    (case l__law_names => k_is)
    (case c__law_names => k_is)
    (case k__law_names => k_is)
    (case g__law_mixed => k_is)
    (case l__law_mixed => k_is)
    (case c__law_mixed => k_is)
    (case k__law_mixed => k_is)
    (case g__law_web => k_is)
    (case l__law_web => k_is)
    (case c__law_web => k_is)
    (case k__law_web => k_is)
    (case g__law_program => k_is)
    (case l__law_program => k_is)
    (case c__law_program => k_is)
    (case k__law_program => k_is)
    (case g_is_list => k_is)
    (case l_is_list => k_is)
    (case c_is_list => k_is)
    (case k_is_list => k_is)
    (case g_is_name => k_is)
    (case l_is_name => k_is)
    (case c_is_name => k_is)
    (case k_is_name => k_is)
    (case g_are_names => k_is)
    (case l_are_names => k_is)
    (case c_are_names => k_is)
    (case k_are_names => k_is)
    (case g_Web_check => k_is)
    (case i_Web_check => k_is)
    (case l_Web_check => k_is)
    (case c_Web_check => k_is)
    (case k_Web_check => k_is)
    (case g_Web_init => k_is)
    (case i_Web_init => k_is)
    (case l_Web_init => k_is)
    (case c_Web_init => k_is)
    (case k_Web_init => k_is)
    (case mk_Web => k_is)
    (case kc_Web => k_is)
    (case g__law_number => k_is)
    (case l__law_number => k_is)
    (case c__law_number => k_is)
    (case k__law_number => k_is)
    (case g__law_history => k_is)
    (case l__law_history => k_is)
    (case c__law_history => k_is)
    (case k__law_history => k_is)
    (case g_Web_check_program => k_is)
    (case i_Web_check_program => k_is)
    (case l_Web_check_program => k_is)
    (case c_Web_check_program => k_is)
    (case k_Web_check_program => k_is)
    (case g_Kinds_kind_of => k_is)
    (case i_Kinds_kind_of => k_is)
    (case l_Kinds_kind_of => k_is)
    (case c_Kinds_kind_of => k_is)
    (case k_Kinds_kind_of => k_is)
    (case g_Web_sources => k_is)
    (case i_Web_sources => k_is)
    (case l_Web_sources => k_is)
    (case c_Web_sources => k_is)
    (case k_Web_sources => k_is)
    (case g_History_do => k_is)
    (case i_History_do => k_is)
    (case l_History_do => k_is)
    (case c_History_do => k_is)
    (case k_History_do => k_is)
    (case g_History_init => k_is)
    (case i_History_init => k_is)
    (case l_History_init => k_is)
    (case c_History_init => k_is)
    (case k_History_init => k_is)
    (case mk_History => k_is)
    (case kc_History => k_is)
    (case g_Kinds_init => k_is)
    (case i_Kinds_init => k_is)
    (case l_Kinds_init => k_is)
    (case c_Kinds_init => k_is)
    (case k_Kinds_init => k_is)
    (case mk_Kinds => k_is)
    (case kc_Kinds => k_is)
    (case g_kinds => k_is)
    (case l_kinds => k_is)
    (case c_kinds => k_is)
    (case k_kinds => k_is)
    (case g_Program_init => k_is)
    (case i_Program_init => k_is)
    (case l_Program_init => k_is)
    (case c_Program_init => k_is)
    (case k_Program_init => k_is)
    (case mk_Program => k_is)
    (case kc_Program => k_is)
    (case g_law => k_is)
    (case l_law => k_is)
    (case c_law => k_is)
    (case k_law => k_is)
    (case g_LotError => k_is)
    (case rd_LotError => k_is)
    (case fc_LotError => k_is)
    (case sp_LotError => k_is)
    (case g_BadWeb => k_is)
    (case xL_BadWeb => k_is)
    (case sa_BadWeb => k_is)
    (case ga_BadWeb => k_is)
    (case gg_BadWeb => k_is)
    (case nf_BadWeb => k_is)
    (case gi_BadWeb => k_is)
    (case ti_BadWeb => k_is)
    (case l_BadWeb_init => k_is)
    (case c_BadWeb_init => k_is)
    (case k_BadWeb_init => k_is)
    (case kC_BadWeb => k_is)
    (case eC_BadWeb => k_is)
    (case tC_BadWeb => k_is)
    (case hC_BadWeb => k_is)
    (case g_UnknownCell => k_is)
    (case xL_UnknownCell => k_is)
    (case sa_UnknownCell => k_is)
    (case ga_UnknownCell => k_is)
    (case gg_UnknownCell => k_is)
    (case nf_UnknownCell => k_is)
    (case gi_UnknownCell => k_is)
    (case ti_UnknownCell => k_is)
    (case l_UnknownCell_init => k_is)
    (case c_UnknownCell_init => k_is)
    (case k_UnknownCell_init => k_is)
    (case kC_UnknownCell => k_is)
    (case eC_UnknownCell => k_is)
    (case tC_UnknownCell => k_is)
    (case hC_UnknownCell => k_is)
    (case g_BadProgram => k_is)
    (case xL_BadProgram => k_is)
    (case sa_BadProgram => k_is)
    (case ga_BadProgram => k_is)
    (case gg_BadProgram => k_is)
    (case nf_BadProgram => k_is)
    (case gi_BadProgram => k_is)
    (case ti_BadProgram => k_is)
    (case l_BadProgram_init => k_is)
    (case c_BadProgram_init => k_is)
    (case k_BadProgram_init => k_is)
    (case kC_BadProgram => k_is)
    (case eC_BadProgram => k_is)
    (case tC_BadProgram => k_is)
    (case hC_BadProgram => k_is)
    (case z_all => k_is)
    (case z_dict => k_is)
    (case z_enumerate => k_is)
    (case z_int => k_is)
    (case z_isinstance => k_is)
    (case z_len => k_is)
    (case z_list => k_is)
    (case z_min => k_is)
    (case z_range => k_is)
    (case z_sorted => k_is)
    (case z_str => k_is)
    (case z_tuple => k_is)
    (case v_LETTERS => k_is)
    (case v_LONGEST => k_is)
